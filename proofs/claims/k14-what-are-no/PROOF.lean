import PyProof.Rows.All
import Wide.All
import OpenK.AllK
import Wide.FinOn
import HandS.ForMost
import HandS.Exc
import HandS.Wide
import HandS.Style
import HandS.TupAny
import HandS.TupMul
import HandS.Deep
import HandS.IsInst
import HandS.Conv
import HandS.Zip
import HandS.Flow
import PyProof.ReprRoads
import KE.GoesEnum
import KE.GoesMore
import HandS.SortInts
import HandS.Small
import HandS.TryOnly
import HandS.Ends
import HandS.EndBits
import HandS.More
import HandS.Words
import HandS.WordsExc
import HandS.Defaults
import HandS.Codes
import HandS.Head0
import HandS.Head1
import HandS.Head2
import HandS.HeadEnd
import HandS.HeadHook1
import HandS.HeadHook2
import PyProof.StrLawsRepr
import PyProof.Rows.ReprOcc
import PySem.Challenge.RW_ringrates_k14_what_are_no_stretches
set_option Elab.async false
set_option linter.all false
set_option maxRecDepth 100000
/-! the pure part: values, the small language, its meaning -/
namespace RR
open PySem L2

/-- values: by value, but for ref (an object that is changed) -/
inductive D where
  | non | bl (b : Bool) | int (i : Int) | str (x : Str)
  | tup (xs : List D) | lst (xs : List D) | scr (ns : List Int) | dct (ks : List Str) (vs : List D)
  | ref (i : Nat)
inductive Ob where
  | lst (xs : List D)
abbrev Store := List Ob
abbrev Flds := List (Str × D)
inductive R (α : Type) where
  | ok (a : α) (S : Store) | exc (c : Str) (fs : Flds) (S : Store) | bad
abbrev Fn := List D → Store → R D
abbrev Env := List (Option D)
/-- flow of a statement -/
inductive Fl where
  | next (r : Env) (S : Store) | ret (d : D) (S : Store) | brk (r : Env) (S : Store) | con (r : Env) (S : Store)
  | exc (c : Str) (fs : Flds) (r : Env) (S : Store) | bad
def R.bnd {α β : Type} (m : R α) (f : α → Store → R β) : R β := match m with
  | .ok a S => f a S
  | .exc c fs S => .exc c fs S
  | .bad => .bad
/-- no exception may leave (within a comprehension) -/
def R.nx {α : Type} : R α → R α
  | .exc _ _ _ => .bad
  | r => r
def R.opt {α : Type} (o : Option α) (S : Store) : R α := match o with
  | some a => .ok a S
  | none => .bad

inductive Bop where | add | sub | mul | fdv | mod | pow
inductive Cop where | eq | ne | lt | le | gt | ge | isn | nsn | inn | nin
inductive Bl where | len | abs | int | str | repr | tup | sum | mn | mx | any | all | srt
inductive Ty where | int | bool | str | tup | lst | dct
inductive Mt where | append | extend | pop
mutual
inductive E where
  | non | bl (b : Bool) | int (i : Int) | str (x : Str) | var (i : Nat) | con (x : Str) (d : D)
  | bin (o : Bop) (a b : E) | neg (a : E) | nt (a : E) | an (a b : E) | or (a b : E)
  | cmp (o : Cop) (a b : E) | chn (o p : Cop) (a b c : E) | ite (c a b : E)
  | tup (es : Es) | fr (al : Bool) (l : L) | dct (ks : List Str) (es : Es)
  | ix (a b : E) | slc (a lo hi : E) | rev (a : E)
  | call (i : Nat) (es : Es) | blt (b : Bl) (es : Es) | trg (es : Es)
  | isi (a : E) (t : Ty) | met (m : Mt) (a : E) (es : Es)
  | bot | rvt (up : Bool) (a : E)
inductive L where
  | dis (es : Es) | cmp (e : E) (t : Tg) (it : It) (c : Es) (own : List (Str × Nat))
  | rep (a b : E) | ofl (a : E) | rng (es : Es)
  | cm2 (e : E) (t1 : Tg) (it1 : It) (own1 : List Nat) (t2 : Tg) (it2 : It) (c : Es) (own : List (Str × Nat))
inductive Es where | nil | cons (e : E) (es : Es)
inductive Tg where | nm (i : Nat) | tp (ts : Tgs) | sub (o i : E)
inductive Tgs where | nil | cons (t : Tg) (ts : Tgs)
inductive It where | seq (e : E) | rng (es : Es) | enm (e : E) | zp (a b : E)
end
mutual
inductive Sm where
  | asg (t : Tg) (e : E) | exp (e : E) | iff (c : E) (a b : Sms) | for_ (t : Tg) (it : It) (b : Sms) | whl (c : E) (b : Sms)
  | ret (e : E) | retn | rai (c : Str) (ns : List Str) (es : Es) | pas | brk | cnt
  | bot | fgt (is : List Nat) | trs (b : Sms) (c z : Str) | aug (o i e : E)
inductive Sms where | nil | cons (s : Sm) (ss : Sms)
end

def Tgs.len : Tgs → Nat
  | .nil => 0
  | .cons _ ts => ts.len + 1
def Es.len : Es → Nat
  | .nil => 0
  | .cons _ ts => ts.len + 1
/-! ### operations on values -/
def look : Env → Nat → Option D
  | [], _ => none
  | a :: _, 0 => a
  | _ :: r, n + 1 => look r n
/-- what stands in a list or a tuple -/
def itemsD (S : Store) : D → Option (List D)
  | .tup xs => some xs
  | .lst xs => some xs
  | .scr ns => some (ns.map .int)
  | .ref i => (match S[i]? with
    | some (.lst xs) => some xs
    | none => none)
  | _ => none
/-- .. in a list -/
def listD (S : Store) : D → Option (List D)
  | .lst xs => some xs
  | .scr ns => some (ns.map .int)
  | .ref i => (match S[i]? with
    | some (.lst xs) => some xs
    | none => none)
  | _ => none
/-- .. in a list that is no script -/
def lsD (S : Store) : D → Option (List D)
  | .lst xs => some xs
  | .ref i => (match S[i]? with
    | some (.lst xs) => some xs
    | none => none)
  | _ => none
mutual
def pyR (r : Nat → Option PyData) : D → Option PyData
  | .non => some .none
  | .bl b => some (.bool b)
  | .int i => some (.int i)
  | .str x => some (.str x)
  | .tup xs => (pysR r xs).map .tuple
  | .lst xs => (pysR r xs).map .list
  | .scr ns => some (.list (ns.map .int))
  | .dct ks vs => (pysR r vs).map fun ps => .dict ((ks.map PyData.str).zip ps)
  | .ref i => r i
def pysR (r : Nat → Option PyData) : List D → Option (List PyData)
  | [] => some []
  | x :: xs => (match pyR r x, pysR r xs with
    | some d, some ds => some (d :: ds)
    | _, _ => none)
end
def obPy (r : Nat → Option PyData) : Option Ob → Option PyData
  | some (.lst xs) => (pysR r xs).map .list
  | none => none
/-- a value as data, two steps of ref deep -/
def pyD (S : Store) : D → Option PyData := pyR fun i => obPy (fun j => obPy (fun _ => none) S[j]?) S[i]?
def okPy (d : PyData) : Bool := SeqAt.shaped d
def eqD0 (S : Store) (x y : D) : Option Bool := match pyD S x, pyD S y with
  | some a, some b => if okPy a = true ∧ okPy b = true then some (PyData.eqv a b) else none
  | _, _ => none
/-- a tuple of anything, and the empty one -/
def eqT : D → D → Option Bool
  | .tup xs, .tup [] => some xs.isEmpty
  | _, _ => none
def eqD (S : Store) (x y : D) : Option Bool := match eqD0 S x y with
  | some b => some b
  | none => eqT x y
/-- a list of anything, and the empty one -/
def neT : D → D → Option Bool
  | .lst (_ :: _), .lst [] => some true
  | _, _ => none
def neD (S : Store) (x y : D) : Option Bool := match eqD0 S x y with
  | some b => some (!b)
  | none => neT x y
def inD (S : Store) (x y : D) : Option Bool := match pyD S x, (itemsD S y).bind fun ys => pysR (fun i => obPy (fun _ => none) S[i]?) ys with
  | some a, some bs => if okPy a = true ∧ okPy (.list bs) = true then some (bs.any fun z => PyData.eqv z a) else none
  | _, _ => none
def reprD (S : Store) (x : D) : Option Str := match pyD S x with
  | some a => if a.showable = true ∧ a.shown.length ≤ 16777216 ∧ a.depth ≤ 64 then some a.shown else none
  | none => none
def truthD (S : Store) : D → Option Bool
  | .non => some false
  | .bl b => some b
  | .int i => some (i != 0)
  | .str x => if x.length ≤ 16777216 then some ((x.length : Int) != 0) else none
  | .tup xs => some (!xs.isEmpty)
  | .lst xs => some (!xs.isEmpty)
  | .scr ns => some (!ns.isEmpty)
  | .dct ks _ => some (!ks.isEmpty)
  | .ref i => (match S[i]? with
    | some (.lst xs) => some (!xs.isEmpty)
    | none => none)

def mulOk (i j : Int) : Prop := (i.natAbs < 2 ^ 64 ∨ j.natAbs < 2 ^ 64) ∨ i.natAbs.log2 + j.natAbs.log2 < 1000000
instance (i j : Int) : Decidable (mulOk i j) := inferInstanceAs (Decidable (_ ∨ _))
def divOk (j : Int) : Prop := 0 < j ∧ (j < 1073741824 ∨ j.natAbs.log2 < 9000)
instance (j : Int) : Decidable (divOk j) := inferInstanceAs (Decidable (_ ∧ _))
def addD (S : Store) : D → D → Option D
  | .int i, .int j => some (.int (i + j))
  | .str x, .str y => if x.length + y.length ≤ 16777216 then some (.str (x ++ y)) else none
  | .tup xs, .tup ys => if xs.length + ys.length ≤ 16777216 then some (.tup (xs ++ ys)) else none
  | x, y => (match lsD S x, lsD S y with
    | some xs, some ys => if xs.length + ys.length ≤ 16777216 then some (.lst (xs ++ ys)) else none
    | _, _ => none)
def binD (S : Store) : Bop → D → D → Option D
  | .add, x, y => addD S x y
  | .sub, .int i, .int j => some (.int (i - j))
  | .mul, .int i, .int j => if mulOk i j then some (.int (i * j)) else none
  | .mul, .tup xs, .int k => if xs ≠ [] ∧ 2 ≤ k ∧ k ≤ 1000 ∧ xs.length ≤ 1000 then some (.tup (List.replicate k.toNat xs).flatten) else none
  | .fdv, .int i, .int j => if divOk j then some (.int (i / j)) else if j ≠ 0 ∧ j.natAbs < 1073741824 then some (.int (i.fdiv j)) else none
  | .mod, .int i, .int j => if j ≠ 0 then some (.int (i.fmod j)) else none
  | .pow, .int i, .int j => if 0 ≤ j ∧ j ≤ 1000000 ∧ i.natAbs < 2 ^ 64 then some (.int (i ^ j.toNat)) else none
  | _, _, _ => none
def cmpD (S : Store) : Cop → D → D → Option Bool
  | .eq, x, y => eqD S x y
  | .ne, x, y => neD S x y
  | .lt, .int i, .int j => some (decide (i < j))
  | .le, .int i, .int j => some (decide (i ≤ j))
  | .gt, .int i, .int j => some (decide (j < i))
  | .ge, .int i, .int j => some (decide (j ≤ i))
  | .isn, .non, .non => some true
  | .isn, _, .non => some false
  | .nsn, .non, .non => some false
  | .nsn, _, .non => some true
  | .inn, x, y => inD S x y
  | .nin, x, y => (inD S x y).map (!·)
  | _, _, _ => none
def ixD (S : Store) (x : D) : D → Option D
  | .int i => (match itemsD S x with
    | some xs => atI xs i
    | none => (match x with
      | .str z => if z.length ≤ 16777216 then (atI z.cps.toList i).map fun c => .str ⟨#[c]⟩ else none
      | _ => none))
  | _ => none
/-- what stands at a place of a list of the store, an int -/
def augD (S : Store) : D → D → Option Int
  | .ref i, .int k => if 0 ≤ k then (match ixD S (.ref i) (.int k) with
    | some (.int a) => some a
    | _ => none) else none
  | _, _ => none
/-- a bound of a slice: left out, or an int -/
def bndI : Bool → D → Store → R (Option Int)
  | true, _, S => .ok none S
  | false, .int i, S => .ok (some i) S
  | false, _, _ => .bad
def E.isNon : E → Bool
  | .non => true
  | _ => false
def cutL {α : Type} (xs : List α) (lo hi : Option Int) : List α := (xs.drop (HT.sIx xs.length 0 lo)).take (HT.sIx xs.length xs.length hi - HT.sIx xs.length 0 lo)
def slcO (S : Store) (x : D) (l h : Option Int) : Option D := match x with
  | .tup xs => some (.tup (cutL xs l h))
  | _ => (listD S x).map fun xs => .lst (cutL xs l h)
def revD (S : Store) (x : D) : Option D := (listD S x).map fun xs => .lst xs.reverse
/-- t[::-1], t[:0:-1] of a tuple -/
def rvtD (up : Bool) : D → Option D
  | .tup xs => some (.tup (if up = true then (xs.drop 1).reverse else xs.reverse))
  | _ => none
def intsD : List D → Option (List Int)
  | [] => some []
  | .int i :: r => (intsD r).map (i :: ·)
  | _ :: _ => none
def blsD : List D → Option (List Bool)
  | [] => some []
  | .bl b :: r => (blsD r).map (b :: ·)
  | _ :: _ => none
/-- tuples of ints, none of them empty -/
def intsT : List D → Option (List (List Int))
  | [] => some []
  | .tup xs :: r => (match intsD xs, intsT r with
    | some (n :: ns), some l => some ((n :: ns) :: l)
    | _, _ => none)
  | _ :: _ => none
/-- not above, in the order of tuples -/
def leL : List Int → List Int → Bool
  | [], _ => true
  | _ :: _, [] => false
  | a :: as, b :: bs => if a = b then leL as bs else decide (a < b)
def sortI (ns : List Int) : List Int := ns.mergeSort (fun a b => decide (a ≤ b))
def sortT (ns : List (List Int)) : List (List Int) := ns.mergeSort leL
def sortD (xs : List D) : Option (List D) := match intsD xs with
  | some ns => some ((sortI ns).map .int)
  | none => (intsT xs).map fun l => (sortT l).map fun ns => .tup (ns.map .int)
/-- the least, the greatest of some ints -/
def minL : List Int → Option Int
  | [] => none
  | x :: xs => some (xs.foldl (fun a b => if b < a then b else a) x)
def maxL : List Int → Option Int
  | [] => none
  | x :: xs => some (xs.foldl (fun a b => if a < b then b else a) x)
def bltD (S : Store) : Bl → List D → Option D
  | .len, [.str x] => if x.length ≤ 16777216 then some (.int x.length) else none
  | .len, [x] => (itemsD S x).map fun xs => .int xs.length
  | .abs, [.int i] => some (.int (if i < 0 then -i else i))
  | .int, [.int i] => some (.int i)
  | .int, [.bl b] => some (.int (if b then 1 else 0))
  | .str, [.int i] => if i.natAbs.log2 < 1920 then some (.str (toString i)) else none
  | .repr, [x] => (reprD S x).map .str
  | .tup, [x] => (itemsD S x).map .tup
  | .sum, [x] => ((listD S x).bind intsD).map fun ns => .int ns.sum
  | .mn, [x] => (((listD S x).bind intsD).bind minL).map .int
  | .mx, [x] => (((listD S x).bind intsD).bind maxL).map .int
  | .mn, [.int i, .int j] => some (.int (if j < i then j else i))
  | .mx, [.int i, .int j] => some (.int (if j > i then j else i))
  | .any, [x] => ((listD S x).bind blsD).map fun bs => .bl (bs.any id)
  | .all, [x] => ((listD S x).bind blsD).map fun bs => .bl (bs.all id)
  | .srt, [x] => ((itemsD S x).bind sortD).map .lst
  | _, _ => none
def isiD (S : Store) : D → Ty → Bool
  | .bl _, .int => true
  | .int _, .int => true
  | .bl _, .bool => true
  | .str _, .str => true
  | .tup _, .tup => true
  | .lst _, .lst => true
  | .scr _, .lst => true
  | .ref i, .lst => (match S[i]? with
    | some (.lst _) => true
    | none => false)
  | .dct _ _, .dct => true
  | _, _ => false
def metD (S : Store) : Mt → D → List D → R D
  | .append, .ref i, [d] => (match S[i]? with
    | some (.lst xs) => if xs.length < 16777216 then .ok .non (S.set i (.lst (xs ++ [d]))) else .bad
    | none => .bad)
  | .extend, .ref i, [d] => (match S[i]?, lsD S d with
    | some (.lst xs), some ys => if xs.length + ys.length ≤ 16777216 then .ok .non (S.set i (.lst (xs ++ ys))) else .bad
    | _, _ => .bad)
  | .pop, .ref i, [] => (match S[i]? with
    | some (.lst xs) => (match xs.getLast? with
      | some d => .ok d (S.set i (.lst xs.dropLast))
      | none => .bad)
    | none => .bad)
  | _, _, _ => .bad
/-- x[i] = d -/
def subD (S : Store) (x i d : D) : Option Store := match x, i with
  | .ref a, .int k => (match S[a]? with
    | some (.lst xs) => (ixN xs.length k).map fun j => S.set a (.lst (xs.set j d))
    | none => none)
  | _, _ => none
/-- a new list: by value, or in the store -/
def mkL (al : Bool) : R (List D) → R D
  | .ok ds S => if al = true then .ok (.ref S.length) (S ++ [.lst ds]) else .ok (.lst ds) S
  | .exc c fs S => .exc c fs S
  | .bad => .bad
def repD (S : Store) : D → D → Option (List D)
  | x, .int k => (match lsD S x with
    | some xs => if -(2 ^ 63) ≤ k ∧ k < 2 ^ 63 ∧ xs.length * k.toNat ≤ 16777216 then some (List.replicate k.toNat xs).flatten else none
    | none => none)
  | _, _ => none
def rgI (a b : Int) : List D := (List.range (b - a).toNat).map fun i => .int (a + (i : Nat))
def rgDn (a b : Int) : List D := (List.range (a - b).toNat).map fun i => .int (a - (i : Nat))
def smI (a : Int) : Prop := -4611686018427387904 ≤ a ∧ a < 4611686018427387904
instance (a : Int) : Decidable (smI a) := inferInstanceAs (Decidable (_ ∧ _))
def rngD : List D → Option (List D)
  | [.int b] => if smI b ∧ b ≤ 16777216 then some (rgI 0 b) else none
  | [.int a, .int b] => if smI a ∧ smI b ∧ b - a ≤ 16777216 then some (rgI a b) else none
  | [.int a, .int b, .int c] => if c = -1 ∧ smI a ∧ smI b ∧ a - b ≤ 16777216 then some (rgDn a b) else none
  | _ => none
abbrev Gd := Option (Nat × List D)
def gdOk (g : Gd) (S : Store) : Prop := match g with
  | none => True
  | some (i, xs) => S[i]? = some (.lst xs)
def guard (x : D) (xs : List D) : Gd := match x with
  | .ref i => some (i, xs)
  | _ => none
def enumD : Nat → List D → List D
  | _, [] => []
  | k, x :: xs => .tup [.int k, x] :: enumD (k + 1) xs
def zipD : List D → List D → List D
  | x :: xs, y :: ys => .tup [x, y] :: zipD xs ys
  | _, _ => []
/-- what a source yields: its items, and what may not change meanwhile -/
def seqI (S : Store) (x : D) : Option (List D × Gd) := match x with
  | .str z => some (z.cps.toList.map fun c => .str ⟨#[c]⟩, none)
  | _ => (itemsD S x).map fun xs => (xs, guard x xs)
def enmI (S : Store) (x : D) : Option (List D × Gd) := (itemsD S x).map fun xs => (enumD 0 xs, guard x xs)
def zpI (S : Store) : D → D → Option (List D × Gd)
  | .tup xs, .tup ys => some (zipD xs ys, none)
  | .lst xs, .lst ys => some (zipD xs ys, none)
  | _, _ => none

/-! ### the meaning -/
def wipeN (r : Env) : List Nat → Env
  | [] => r
  | v :: vs => (wipeN r vs).set v none
def wipeE (r : Env) : List (Str × Nat) → Env
  | [] => r
  | v :: vs => (wipeE r vs).set v.2 none
section
open Classical
/-- a comprehension's turns -/
noncomputable def cmpS (at_ : D → Env → Store → R Env) (cd : Env → Store → R Bool) (el : Env → Store → R D) (g : Gd) (r : Env) : List D → Store → R (List D)
  | [], S => if gdOk g S then .ok [] S else .bad
  | x :: xs, S => if gdOk g S then (at_ x r S).bnd fun r1 S1 => (cd r1 S1).bnd fun b S2 =>
      if b = true then (el r1 S2).bnd fun y S3 => (cmpS at_ cd el g r xs S3).bnd fun ys S4 => .ok (y :: ys) S4 else cmpS at_ cd el g r xs S2 else .bad
/-- .. of two -/
noncomputable def cmpT (a1 : D → Env → Store → R Env) (i2 : Env → Store → R (List D × Gd)) (a2 : D → Env → Store → R Env) (cd : Env → Store → R Bool) (el : Env → Store → R D) (own1 : List Nat) (g : Gd) (r : Env) : List D → Store → R (List D)
  | [], S => if gdOk g S then .ok [] S else .bad
  | x :: xs, S => if gdOk g S then (a1 x r S).bnd fun r1 S1 => (i2 r1 S1).bnd fun p S2 => (cmpS a2 cd el p.2 (wipeN r1 own1) p.1 S2).bnd fun ys S3 => (cmpT a1 i2 a2 cd el own1 g r xs S3).bnd fun zs S4 => .ok (ys ++ zs) S4 else .bad
mutual
noncomputable def ev (G : List Fn) : E → Env → Store → R D
  | .non, _, S => .ok .non S
  | .bl b, _, S => .ok (.bl b) S
  | .int i, _, S => .ok (.int i) S
  | .str x, _, S => .ok (.str x) S
  | .con _ d, _, S => .ok d S
  | .var i, r, S => .opt (look r i) S
  | .bin o a b, r, S => (ev G a r S).bnd fun x S1 => (ev G b r S1).bnd fun y S2 => .opt (binD S2 o x y) S2
  | .neg a, r, S => (ev G a r S).bnd fun x S1 => (match x with
    | .int i => .ok (.int (-i)) S1
    | _ => .bad)
  | .nt a, r, S => (ev G a r S).bnd fun x S1 => .opt ((truthD S1 x).map fun b => .bl (!b)) S1
  | .an a b, r, S => (ev G a r S).bnd fun x S1 => (match truthD S1 x with
    | some true => ev G b r S1
    | some false => .ok x S1
    | none => .bad)
  | .or a b, r, S => (ev G a r S).bnd fun x S1 => (match truthD S1 x with
    | some true => .ok x S1
    | some false => ev G b r S1
    | none => .bad)
  | .cmp o a b, r, S => (ev G a r S).bnd fun x S1 => (ev G b r S1).bnd fun y S2 => .opt ((cmpD S2 o x y).map .bl) S2
  | .chn o p a b c, r, S => (ev G a r S).bnd fun x S1 => (ev G b r S1).bnd fun y S2 => (match cmpD S2 o x y with
    | some true => (ev G c r S2).bnd fun z S3 => .opt ((cmpD S3 p y z).map .bl) S3
    | some false => .ok (.bl false) S2
    | none => .bad)
  | .ite c a b, r, S => (ev G c r S).bnd fun x S1 => (match truthD S1 x with
    | some true => ev G a r S1
    | some false => ev G b r S1
    | none => .bad)
  | .tup es, r, S => (evs G es r S).bnd fun xs S1 => .ok (.tup xs) S1
  | .fr al l, r, S => mkL al (evl G l r S)
  | .dct ks es, r, S => (evs G es r S).bnd fun xs S1 => if ks.length = xs.length ∧ ks.length ≤ 1 then .ok (.dct ks xs) S1 else .bad
  | .ix a b, r, S => (ev G a r S).bnd fun x S1 => (ev G b r S1).bnd fun y S2 => .opt (ixD S2 x y) S2
  | .slc a lo hi, r, S => (ev G a r S).bnd fun x S1 => ((ev G lo r S1).bnd (bndI lo.isNon)).bnd fun l S2 => ((ev G hi r S2).bnd (bndI hi.isNon)).bnd fun h S3 => .opt (slcO S3 x l h) S3
  | .rev a, r, S => (ev G a r S).bnd fun x S1 => .opt (revD S1 x) S1
  | .call i es, r, S => (evs G es r S).bnd fun xs S1 => (match G[i]? with
    | some f => f xs S1
    | none => .bad)
  | .blt b es, r, S => (evs G es r S).bnd fun xs S1 => .opt (bltD S1 b xs) S1
  | .trg es, r, S => (evs G es r S).bnd fun xs S1 => .opt ((rngD xs).map .tup) S1
  | .isi a t, r, S => (ev G a r S).bnd fun x S1 => .ok (.bl (isiD S1 x t)) S1
  | .bot, _, _ => .bad
  | .rvt up a, r, S => (ev G a r S).bnd fun x S1 => .opt (rvtD up x) S1
  | .met m a es, r, S => (ev G a r S).bnd fun x S1 => (match x with
    | .ref i => (evs G es r S1).bnd fun xs S2 => metD S2 m (.ref i) xs
    | _ => .bad)
noncomputable def evl (G : List Fn) : L → Env → Store → R (List D)
  | .dis es, r, S => evs G es r S
  | .cmp e t it c own, r, S => (itm G it r S).bnd fun p S1 => if p.1.length ≤ 16777216 then (cmpS (fun x r S => asg G t x r S) (fun r S => cnd G c r S) (fun r S => ev G e r S) p.2 (wipeE r own) p.1 S1).nx else .bad
  | .rep a b, r, S => (ev G a r S).bnd fun x S1 => (ev G b r S1).bnd fun y S2 => .opt (repD S2 x y) S2
  | .ofl a, r, S => (ev G a r S).bnd fun x S1 => .opt (itemsD S1 x) S1
  | .rng es, r, S => (evs G es r S).bnd fun xs S1 => .opt (rngD xs) S1
  | .cm2 e t1 it1 own1 t2 it2 c own, r, S => (itm G it1 r S).bnd fun p S1 => ((cmpT (fun x r S => asg G t1 x r S) (fun r S => itm G it2 r S) (fun x r S => asg G t2 x r S) (fun r S => cnd G c r S) (fun r S => ev G e r S) own1 p.2 (wipeE r own) p.1 S1).nx).bnd fun ds S2 => if ds.length ≤ 16777216 then .ok ds S2 else .bad
noncomputable def evs (G : List Fn) : Es → Env → Store → R (List D)
  | .nil, _, S => .ok [] S
  | .cons e es, r, S => (ev G e r S).bnd fun x S1 => (evs G es r S1).bnd fun xs S2 => .ok (x :: xs) S2
/-- the tests of a comprehension: none or one -/
noncomputable def cnd (G : List Fn) : Es → Env → Store → R Bool
  | .nil, _, S => .ok true S
  | .cons e .nil, r, S => (ev G e r S).bnd fun x S1 => .opt (truthD S1 x) S1
  | .cons _ (.cons _ _), _, _ => .bad
noncomputable def asg (G : List Fn) : Tg → D → Env → Store → R Env
  | .nm i, d, r, S => .ok (r.set i (some d)) S
  | .tp ts, d, r, S => (match d with
    | .tup xs => if xs.length = ts.len then asgs G ts xs r S else .bad
    | _ => .bad)
  | .sub o i, d, r, S => (ev G o r S).bnd fun x S1 => (ev G i r S1).bnd fun k S2 => (match subD S2 x k d with
    | some S3 => .ok r S3
    | none => .bad)
noncomputable def asgs (G : List Fn) : Tgs → List D → Env → Store → R Env
  | .nil, [], r, S => .ok r S
  | .cons t ts, d :: ds, r, S => (asg G t d r S).bnd fun r1 S1 => asgs G ts ds r1 S1
  | _, _, _, _ => .bad
noncomputable def itm (G : List Fn) : It → Env → Store → R (List D × Gd)
  | .seq e, r, S => (ev G e r S).bnd fun x S1 => .opt (seqI S1 x) S1
  | .rng es, r, S => (evs G es r S).bnd fun xs S1 => .opt ((rngD xs).map fun ys => (ys, none)) S1
  | .enm e, r, S => (ev G e r S).bnd fun x S1 => .opt (enmI S1 x) S1
  | .zp a b, r, S => (ev G a r S).bnd fun x S1 => (ev G b r S1).bnd fun y S2 => .opt (zpI S2 x y) S2
end
/-- an expression's outcome, on to a statement's -/
def R.fl {α : Type} (m : R α) (r : Env) (f : α → Store → Fl) : Fl := match m with
  | .ok a S => f a S
  | .exc c fs S => .exc c fs r S
  | .bad => .bad
/-- a loop's turns -/
noncomputable def forS (at_ : D → Env → Store → R Env) (bd : Env → Store → Fl) (g : Gd) : List D → Env → Store → Fl
  | [], r, S => if gdOk g S then .next r S else .bad
  | x :: xs, r, S => if gdOk g S then (at_ x r S).nx.fl r fun r1 S1 => (match bd r1 S1 with
      | .next r2 S2 => forS at_ bd g xs r2 S2
      | .con r2 S2 => forS at_ bd g xs r2 S2
      | .brk r2 S2 => .next r2 S2
      | o => o) else .bad
/-- a while's turns, n at most -/
def whlN (cd : Env → Store → R Bool) (bd : Env → Store → Fl) : Nat → Env → Store → Option Fl
  | 0, _, _ => none
  | n + 1, r, S => (match cd r S with
    | .ok true S1 => (match bd r S1 with
      | .next r2 S2 => whlN cd bd n r2 S2
      | .con r2 S2 => whlN cd bd n r2 S2
      | .brk r2 S2 => some (.next r2 S2)
      | o => some o)
    | .ok false S1 => some (.next r S1)
    | .exc c fs S1 => some (.exc c fs r S1)
    | .bad => some .bad)
noncomputable def whlS (cd : Env → Store → R Bool) (bd : Env → Store → Fl) (r : Env) (S : Store) : Fl :=
  if h : ∃ n o, whlN cd bd n r S = some o then h.choose_spec.choose else .bad
mutual
noncomputable def ex (G : List Fn) : Sm → Env → Store → Fl
  | .asg t e, r, S => (ev G e r S).fl r fun x S1 => (asg G t x r S1).nx.fl r fun r1 S2 => .next r1 S2
  | .exp e, r, S => (ev G e r S).fl r fun _ S1 => .next r S1
  | .iff c a b, r, S => (ev G c r S).fl r fun x S1 => (match truthD S1 x with
    | some true => exs G a r S1
    | some false => exs G b r S1
    | none => .bad)
  | .for_ t it b, r, S => (itm G it r S).fl r fun p S1 => forS (fun x r S => asg G t x r S) (fun r S => exs G b r S) p.2 p.1 r S1
  | .whl c b, r, S => whlS (fun r S => (ev G c r S).bnd fun x S1 => .opt (truthD S1 x) S1) (fun r S => exs G b r S) r S
  | .ret e, r, S => (ev G e r S).fl r fun x S1 => .ret x S1
  | .retn, _, S => .ret .non S
  | .rai c ns es, r, S => (evs G es r S).fl r fun xs S1 => if ns.length = xs.length then .exc c (ns.zip xs) r S1 else .bad
  | .pas, r, S => .next r S
  | .brk, r, S => .brk r S
  | .cnt, r, S => .con r S
  | .bot, _, _ => .bad
  | .fgt is, r, S => .next (wipeN r is) S
  | .trs b c z, r, S => (match exs G b r S with
    | .exc c' _ _ S1 => if c' = c then .ret (.str z) S1 else .bad
    | o => o)
  | .aug o i e, r, S => (ev G o r S).fl r fun x S1 => (ev G i r S1).fl r fun k S2 => (match augD S2 x k with
    | some a => (ev G e r S2).fl r fun y S3 => (match y with
      | .int b => (match subD S3 x k (.int (a + b)) with
        | some S4 => .next r S4
        | none => .bad)
      | _ => .bad)
    | none => .bad)
noncomputable def exs (G : List Fn) : Sms → Env → Store → Fl
  | .nil, r, S => .next r S
  | .cons s ss, r, S => (match ex G s r S with
    | .next r1 S1 => exs G ss r1 S1
    | o => o)
end
/-! ### a def -/
mutual
def noRef : D → Bool
  | .ref _ => false
  | .tup xs => noRefs xs
  | .lst xs => noRefs xs
  | .dct _ vs => noRefs vs
  | .non => true
  | .bl _ => true
  | .int _ => true
  | .str _ => true
  | .scr _ => true
def noRefs : List D → Bool
  | [] => true
  | x :: xs => noRef x && noRefs xs
end
mutual
/-- only refs below n -/
def below (n : Nat) : D → Bool
  | .ref i => decide (i < n)
  | .tup xs => belows n xs
  | .lst xs => belows n xs
  | .dct _ vs => belows n vs
  | .non => true
  | .bl _ => true
  | .int _ => true
  | .str _ => true
  | .scr _ => true
def belows (n : Nat) : List D → Bool
  | [] => true
  | x :: xs => below n x && belows n xs
end
def belowO (n : Nat) : Ob → Bool
  | .lst xs => belows n xs
/-- the elder objects stand, or hold elder refs alone -/
def agree (n : Nat) : Store → Store → Prop
  | [], _ => True
  | o :: os, o' :: os' => (o' = o ∨ belowO n o' = true) ∧ agree n os os'
  | _ :: _, [] => False
mutual
def fzR (n : Nat) (r : Nat → Option D) : D → Option D
  | .ref i => if i < n then some (.ref i) else r i
  | .tup xs => (fzsR n r xs).map .tup
  | .lst xs => (fzsR n r xs).map .lst
  | .dct ks vs => (fzsR n r vs).map (.dct ks)
  | .non => some .non
  | .bl b => some (.bl b)
  | .int i => some (.int i)
  | .str x => some (.str x)
  | .scr ns => some (.scr ns)
def fzsR (n : Nat) (r : Nat → Option D) : List D → Option (List D)
  | [] => some []
  | x :: xs => (match fzR n r x, fzsR n r xs with
    | some d, some ds => some (d :: ds)
    | _, _ => none)
end
def obFz (n : Nat) (r : Nat → Option D) : Option Ob → Option D
  | some (.lst xs) => (fzsR n r xs).map .lst
  | none => none
/-- what leaves a def: its new lists stand by value from now on -/
def fzD (S : Store) (n : Nat) (d : D) : Option D :=
  if noRef d = true then some d else fzR n (fun i => obFz n (fun j => obFz n (fun _ => none) S[j]?) S[i]?) d
structure FnI where
  np : Nat
  ns : Nat
  keep : Bool
  body : Sms
noncomputable def fin (keep : Bool) (S0 : Store) (d : D) (S : Store) : R D :=
  if keep = true then .ok d S else if agree S0.length S0 S then (match fzD S S0.length d with
    | some d' => .ok d' (S.take S0.length)
    | none => .bad) else .bad
noncomputable def exitR (keep : Bool) (S0 : Store) : Fl → R D
  | .next _ S => fin keep S0 .non S
  | .ret d S => fin keep S0 d S
  | .exc c fs _ S => if agree S0.length S0 S ∧ belows S0.length (fs.map (·.2)) = true then .exc c fs (S.take S0.length) else .bad
  | .brk _ _ => .bad
  | .con _ _ => .bad
  | .bad => .bad
noncomputable def runF (G : List Fn) (F : FnI) : Fn := fun args S =>
  if args.length = F.np then exitR F.keep S (exs G F.body (args.map some ++ List.replicate (F.ns - F.np) none) S) else .bad
end
end RR

set_option Elab.async false
set_option linter.all false
set_option maxRecDepth 100000
/-! how values and the store lie in the layer's heap; the transformer of a meaning -/
namespace RR
open PySem PySem.Spec PyProof.Rows L2

/-- m: where the store's objects stand; z: lists in the making, which no value names -/
structure Ct where
  m : List Addr
  z : List Addr
mutual
inductive RelD (K : PySem.W.Frag) (c : Ct) (H : Hp) : D → V → Prop
  | non : RelD K c H .non .non
  | bl (b : Bool) : RelD K c H (.bl b) (.bl b)
  | int (i : Int) : RelD K c H (.int i) (.int i)
  | str (x : Str) : RelD K c H (.str x) (.str x)
  | tup {a : Addr} {ds : List D} {vs : List V} : H a = some (.tup vs) → a ∉ c.m → RelDs K c H ds vs → RelD K c H (.tup ds) (.ref a)
  | lst {a : Addr} {ds : List D} {vs : List V} : H a = some (.lst vs) → a ∉ c.m → a ∉ c.z → RelDs K c H ds vs → RelD K c H (.lst ds) (.ref a)
  | scr {a : Addr} {ns : List Int} {o : HO} : H a = some o → SqL K H a (ns.map V.int) → a ∉ c.m → a ∉ c.z → RelD K c H (.scr ns) (.ref a)
  | scK {a : Addr} {ns : List Int} : (∀ H' : Hp, SqL K H' a (ns.map V.int)) → RelD K c H (.scr ns) (.ref a)
  | dct {a : Addr} {ks : List Str} {ds : List D} {vs : List V} : H a = some (.dK ((ks.map Sum.inr).zip vs)) → a ∉ c.m → a ∉ c.z → ks.length = ds.length → RelDs K c H ds vs → RelD K c H (.dct ks ds) (.ref a)
  | ref {a : Addr} {i : Nat} : c.m[i]? = some a → RelD K c H (.ref i) (.ref a)
inductive RelDs (K : PySem.W.Frag) (c : Ct) (H : Hp) : List D → List V → Prop
  | nil : RelDs K c H [] []
  | cons {d : D} {v : V} {ds : List D} {vs : List V} : RelD K c H d v → RelDs K c H ds vs → RelDs K c H (d :: ds) (v :: vs)
end
def RelO (K : PySem.W.Frag) (c : Ct) (H : Hp) : Ob → Addr → Prop
  | .lst ds, a => ∃ vs, H a = some (.lst vs) ∧ RelDs K c H ds vs
structure RelS (K : PySem.W.Frag) (c : Ct) (S : Store) (H : Hp) : Prop where
  len : c.m.length = S.length
  nd : c.m.Nodup
  ob : ∀ (i : Nat) (o : Ob), S[i]? = some o → ∃ a, c.m[i]? = some a ∧ RelO K c H o a
  zn : ∀ a ∈ c.z, a ∉ c.m ∧ ∃ us, H a = some (.lst us)
structure RelE (K : PySem.W.Frag) (c : Ct) (H : Hp) (r : Env) (σ : L2.St) : Prop where
  len : r.length = σ.length
  at_ : ∀ i d, look r i = some d → ∃ v, σ[i]? = some (some v) ∧ RelD K c H d v
/-- what a piece of code may do: new objects, and changes of the store's alone -/
structure Ext (c : Ct) (H : Hp) (c' : Ct) (H' : Hp) : Prop where
  z : c'.z = c.z
  m : ∃ t, c'.m = c.m ++ t ∧ ∀ a ∈ t, H a = none
  k : ∀ a o, a ∉ c.m → H a = some o → H' a = some o
  s : ∀ a o, H a = some o → ∃ o', H' a = some o'

section
variable {K : PySem.W.Frag} {c c' c2 : Ct} {H H' H2 : Hp} {S : Store}
theorem Ext.refl : Ext c H c H := ⟨rfl, ⟨[], by simp, by simp⟩, fun _ _ _ h => h, fun _ o h => ⟨o, h⟩⟩
theorem Ext.mem (x : Ext c H c' H') {a : Addr} {o : HO} (h : H a = some o) (hn : a ∉ c.m) : a ∉ c'.m := by
  obtain ⟨t, e, f⟩ := x.m
  rw [e]
  intro hm
  rcases List.mem_append.mp hm with hm | hm
  · exact hn hm
  · rw [f a hm] at h; cases h
theorem Ext.trans (x : Ext c H c' H') (y : Ext c' H' c2 H2) : Ext c H c2 H2 := by
  refine ⟨y.z.trans x.z, ?_, fun a o hn h => y.k a o (x.mem h hn) (x.k a o hn h), fun a o h => ?_⟩
  · obtain ⟨t, e, f⟩ := x.m
    obtain ⟨t', e', f'⟩ := y.m
    refine ⟨t ++ t', by rw [e', e, List.append_assoc], fun a ha => ?_⟩
    rcases List.mem_append.mp ha with ha | ha
    · exact f a ha
    · cases q : H a with
      | none => rfl
      | some o =>
        obtain ⟨o', h'⟩ := x.s a o q
        rw [f' a ha] at h'; cases h'
  · obtain ⟨o', h'⟩ := x.s a o h
    exact y.s a o' h'
theorem Ext.get (x : Ext c H c' H') {i : Nat} {a : Addr} (h : c.m[i]? = some a) : c'.m[i]? = some a := by
  obtain ⟨t, e, _⟩ := x.m
  rw [e, List.getElem?_append_left (List.getElem?_eq_some_iff.mp h).1]
  exact h
theorem sqL_ext {a : Addr} {xs : List V} (h : SqL K H a xs) (k : ∀ o, H a = some o → H' a = some o) : SqL K H' a xs := by
  rcases h with (h | ⟨o, h⟩) | h
  · exact .inl (.inl (k _ h))
  · exact .inl (.inr ⟨o, k _ h⟩)
  · exact .inr h
mutual
theorem RelD.ext (x : Ext c H c' H') : ∀ {d : D} {v : V}, RelD K c H d v → RelD K c' H' d v
  | _, _, .non => .non
  | _, _, .bl b => .bl b
  | _, _, .int i => .int i
  | _, _, .str z => .str z
  | _, _, .tup h n r => .tup (x.k _ _ n h) (x.mem h n) (RelDs.ext x r)
  | _, _, .lst h n nz r => .lst (x.k _ _ n h) (x.mem h n) (by rw [x.z]; exact nz) (RelDs.ext x r)
  | _, _, .scr h q n nz => .scr (x.k _ _ n h) (sqL_ext q fun o e => x.k _ o n e) (x.mem h n) (by rw [x.z]; exact nz)
  | _, _, .scK q => .scK q
  | _, _, .dct h n nz l r => .dct (x.k _ _ n h) (x.mem h n) (by rw [x.z]; exact nz) l (RelDs.ext x r)
  | _, _, .ref h => .ref (x.get h)
theorem RelDs.ext (x : Ext c H c' H') : ∀ {ds : List D} {vs : List V}, RelDs K c H ds vs → RelDs K c' H' ds vs
  | _, _, .nil => .nil
  | _, _, .cons r t => .cons (RelD.ext x r) (RelDs.ext x t)
end
theorem RelE.ext {r : Env} {σ : L2.St} (x : Ext c H c' H') (h : RelE K c H r σ) : RelE K c' H' r σ :=
  ⟨h.len, fun i d e => let ⟨v, a, b⟩ := h.at_ i d e; ⟨v, a, b.ext x⟩⟩
theorem RelDs.length : ∀ {ds : List D} {vs : List V}, RelDs K c H ds vs → ds.length = vs.length
  | _, _, .nil => rfl
  | _, _, .cons _ t => by simp [RelDs.length t]
theorem RelDs.get : ∀ {ds : List D} {vs : List V} {i : Nat} {d : D}, RelDs K c H ds vs → ds[i]? = some d → ∃ v, vs[i]? = some v ∧ RelD K c H d v
  | _, _, _, _, .nil, e => by simp at e
  | _, _, 0, _, .cons r _, e => by simp at e; subst e; exact ⟨_, rfl, r⟩
  | _, _, i + 1, d, .cons _ t, e => by
    obtain ⟨u, h1, h2⟩ := RelDs.get (i := i) (d := d) t (by simpa using e)
    exact ⟨u, by simpa using h1, h2⟩
theorem RelDs.get' : ∀ {ds : List D} {vs : List V} {i : Nat} {v : V}, RelDs K c H ds vs → vs[i]? = some v → ∃ d, ds[i]? = some d ∧ RelD K c H d v
  | _, _, _, _, .nil, e => by simp at e
  | _, _, 0, _, .cons r _, e => by simp at e; subst e; exact ⟨_, rfl, r⟩
  | _, _, i + 1, d, .cons _ t, e => by
    obtain ⟨u, h1, h2⟩ := RelDs.get' (i := i) (v := d) t (by simpa using e)
    exact ⟨u, by simpa using h1, h2⟩
theorem RelDs.append : ∀ {ds es : List D} {vs us : List V}, RelDs K c H ds vs → RelDs K c H es us → RelDs K c H (ds ++ es) (vs ++ us)
  | _, _, _, _, .nil, s => s
  | _, _, _, _, .cons r t, s => .cons r (RelDs.append t s)
theorem RelDs.take : ∀ {ds : List D} {vs : List V} (n : Nat), RelDs K c H ds vs → RelDs K c H (ds.take n) (vs.take n)
  | _, _, 0, _ => .nil
  | _, _, _ + 1, .nil => .nil
  | _, _, n + 1, .cons r t => .cons r (RelDs.take n t)
theorem RelDs.drop : ∀ {ds : List D} {vs : List V} (n : Nat), RelDs K c H ds vs → RelDs K c H (ds.drop n) (vs.drop n)
  | _, _, 0, r => r
  | _, _, _ + 1, .nil => .nil
  | _, _, n + 1, .cons _ t => RelDs.drop n t
theorem RelDs.set {d : D} {v : V} (r : RelD K c H d v) : ∀ {ds : List D} {vs : List V} (i : Nat), RelDs K c H ds vs → RelDs K c H (ds.set i d) (vs.set i v)
  | _, _, _, .nil => .nil
  | _, _, 0, .cons _ t => .cons r t
  | _, _, i + 1, .cons q t => .cons q (RelDs.set r i t)
theorem RelDs.rep {ds : List D} {vs : List V} (h : RelDs K c H ds vs) : ∀ n : Nat, RelDs K c H (List.replicate n ds).flatten (List.replicate n vs).flatten
  | 0 => .nil
  | n + 1 => by
    rw [List.replicate_succ, List.replicate_succ, List.flatten_cons, List.flatten_cons]
    exact h.append (RelDs.rep h n)
theorem RelDs.reverse : ∀ {ds : List D} {vs : List V}, RelDs K c H ds vs → RelDs K c H ds.reverse vs.reverse
  | _, _, .nil => .nil
  | _, _, .cons r t => by
    rw [List.reverse_cons, List.reverse_cons]
    exact (RelDs.reverse t).append (.cons r .nil)
theorem RelDs.ints : ∀ (ns : List Int), RelDs K c H (ns.map .int) (ns.map V.int)
  | [] => .nil
  | n :: ns => .cons (.int n) (RelDs.ints ns)
theorem look_get : ∀ {r : Env} {i : Nat} {d : D}, look r i = some d ↔ r[i]? = some (some d)
  | [], i, d => by simp [look]
  | a :: _, 0, d => by simp [look]
  | _ :: r, i + 1, d => by
    show look r i = some d ↔ _
    rw [look_get (r := r)]
    simp
theorem RelE.set {r : Env} {σ : L2.St} {i : Nat} {d : D} {v : V} (h : RelE K c H r σ) (q : RelD K c H d v) : RelE K c H (r.set i (some d)) (σ.set i (some v)) := by
  refine ⟨by simp [h.len], fun j e hj => ?_⟩
  rw [look_get] at hj
  by_cases hij : i = j
  · subst hij
    have hl : i < r.length := by
      have := (List.getElem?_eq_some_iff.mp hj).1
      simpa using this
    rw [List.getElem?_set_self hl] at hj
    cases hj
    exact ⟨v, by rw [List.getElem?_set_self (by rw [← h.len]; exact hl)], q⟩
  · rw [List.getElem?_set_ne hij] at hj
    obtain ⟨u, h1, h2⟩ := h.at_ j e (look_get.mpr hj)
    exact ⟨u, by rw [List.getElem?_set_ne hij]; exact h1, h2⟩
theorem RelE.wipe {r : Env} {σ : L2.St} (h : RelE K c H r σ) : ∀ vs : List (Str × Nat), RelE K c H (wipeE r vs) (L2.wipe σ (vs.map (·.2)))
  | [] => h
  | v :: vs => by
    have ih := RelE.wipe h vs
    show RelE K c H ((wipeE r vs).set v.2 none) ((L2.wipe σ (vs.map (·.2))).set v.2 none)
    refine ⟨by simp [ih.len], fun j e hj => ?_⟩
    rw [look_get] at hj
    by_cases hij : v.2 = j
    · subst hij
      have hl : v.2 < (wipeE r vs).length := by
        have := (List.getElem?_eq_some_iff.mp hj).1
        simpa using this
      rw [List.getElem?_set_self hl] at hj
      cases hj
    · rw [List.getElem?_set_ne hij] at hj
      obtain ⟨u, h1, h2⟩ := ih.at_ j e (look_get.mpr hj)
      exact ⟨u, by rw [List.getElem?_set_ne hij]; exact h1, h2⟩
/-- reading a list, a tuple -/
theorem RelS.at (s : RelS K c S H) {i : Nat} {xs : List D} {a : Addr} (h : S[i]? = some (.lst xs)) (hm : c.m[i]? = some a) : ∃ vs, H a = some (.lst vs) ∧ RelDs K c H xs vs := by
  obtain ⟨b, h1, h2⟩ := s.ob i _ h
  rw [hm] at h1; cases h1
  exact h2
theorem sqL_at {a : Addr} {vs : List V} (h : H a = some (.lst vs)) : SqL K H a vs := .inl (.inl h)
theorem sqT_at {a : Addr} {vs : List V} (h : H a = some (.tup vs)) : SqT K H a vs := .inl (.inl h)
theorem lsD_at (s : RelS K c S H) {d : D} {v : V} {xs : List D} (h : lsD S d = some xs) (r : RelD K c H d v) : ∃ a vs, v = .ref a ∧ H a = some (.lst vs) ∧ RelDs K c H xs vs := by
  cases r with
  | lst h1 _ _ h2 => cases h; exact ⟨_, _, rfl, h1, h2⟩
  | ref hm =>
    rename_i a i
    cases q : S[i]? with
    | none => simp [lsD, q] at h
    | some o =>
      cases o with
      | lst ys =>
        simp only [lsD, q] at h
        cases h
        obtain ⟨vs, h1, h2⟩ := s.at q hm
        exact ⟨a, vs, rfl, h1, h2⟩
  | _ => cases h
theorem listD_at (s : RelS K c S H) {d : D} {v : V} {xs : List D} (h : listD S d = some xs) (r : RelD K c H d v) : ∃ a vs, v = .ref a ∧ SqL K H a vs ∧ RelDs K c H xs vs := by
  cases r with
  | lst h1 _ _ h2 => cases h; exact ⟨_, _, rfl, sqL_at h1, h2⟩
  | scr h1 h2 => cases h; exact ⟨_, _, rfl, h2, RelDs.ints _⟩
  | scK h1 => cases h; exact ⟨_, _, rfl, h1 H, RelDs.ints _⟩
  | ref hm =>
    obtain ⟨a, vs, e, h1, h2⟩ := lsD_at s (d := .ref _) h (.ref hm)
    exact ⟨a, vs, e, sqL_at h1, h2⟩
  | _ => cases h
theorem itemsD_at (s : RelS K c S H) {d : D} {v : V} {xs : List D} (h : itemsD S d = some xs) (r : RelD K c H d v) :
    ∃ a vs, v = .ref a ∧ (((∃ ys, d = .tup ys) ∧ SqT K H a vs) ∨ (listD S d = some xs ∧ SqL K H a vs)) ∧ RelDs K c H xs vs := by
  cases r with
  | tup h1 _ h2 => cases h; exact ⟨_, _, rfl, .inl ⟨⟨_, rfl⟩, sqT_at h1⟩, h2⟩
  | lst h1 h2 h3 h4 => cases h; exact ⟨_, _, rfl, .inr ⟨rfl, sqL_at h1⟩, h4⟩
  | scr h1 h2 => cases h; exact ⟨_, _, rfl, .inr ⟨rfl, h2⟩, RelDs.ints _⟩
  | scK h1 => cases h; exact ⟨_, _, rfl, .inr ⟨rfl, h1 H⟩, RelDs.ints _⟩
  | ref hm =>
    obtain ⟨a, vs, e, h1, h2⟩ := lsD_at s (d := .ref _) h (.ref hm)
    exact ⟨a, vs, e, .inr ⟨h, sqL_at h1⟩, h2⟩
  | _ => cases h
/-! ### new objects, changes -/
theorem upd_there {a p : Addr} {o u : HO} (hp : H p = none) (h : H a = some u) : (upd H p o) a = some u := by
  rw [upd_ne (ne_of_none h hp)]; exact h
theorem Ext.new {p : Addr} {o : HO} (hp : H p = none) : Ext c H c (upd H p o) :=
  ⟨rfl, ⟨[], by simp, by simp⟩, fun _ _ _ h => upd_there hp h, fun a u h => ⟨u, upd_there hp h⟩⟩
theorem RelS.mem (s : RelS K c S H) {a : Addr} (h : a ∈ c.m) : ∃ o, H a = some o := by
  obtain ⟨i, hi, e⟩ := List.getElem_of_mem h
  have hl : i < S.length := by rw [← s.len]; exact hi
  obtain ⟨b, h1, h2⟩ := s.ob i S[i] (List.getElem?_eq_getElem hl)
  rw [List.getElem?_eq_getElem hi, e] at h1
  cases h1
  cases q : S[i] with
  | lst xs =>
    rw [q] at h2
    obtain ⟨vs, h3, _⟩ := h2
    exact ⟨_, h3⟩
theorem RelS.fresh (s : RelS K c S H) {p : Addr} (hp : H p = none) : p ∉ c.m ∧ p ∉ c.z := by
  refine ⟨fun h => ?_, fun h => ?_⟩
  · obtain ⟨o, e⟩ := s.mem h
    rw [hp] at e; cases e
  · obtain ⟨_, o, e⟩ := s.zn _ h
    rw [hp] at e; cases e
theorem RelO.ext (x : Ext c H c' H') : ∀ {o : Ob} {a : Addr}, (∀ u, H a = some u → H' a = some u) → RelO K c H o a → RelO K c' H' o a
  | .lst _, _, k, ⟨vs, h1, h2⟩ => ⟨vs, k _ h1, h2.ext x⟩
theorem RelS.new (s : RelS K c S H) {p : Addr} {o : HO} (hp : H p = none) : RelS K c S (upd H p o) :=
  ⟨s.len, s.nd, fun i ob h => by
    obtain ⟨a, h1, h2⟩ := s.ob i ob h
    exact ⟨a, h1, h2.ext (Ext.new hp) fun u e => upd_there hp e⟩, fun a h => by
    obtain ⟨h1, u, e⟩ := s.zn a h
    exact ⟨h1, u, upd_there hp e⟩⟩
/-- a list of the store is changed -/
theorem Ext.put (s : RelS K c S H) {i : Nat} {a : Addr} {o : HO} (hm : c.m[i]? = some a) : Ext c H c (upd H a o) := by
  have ha : a ∈ c.m := List.mem_of_getElem? hm
  refine ⟨rfl, ⟨[], by simp, by simp⟩, fun b u hb e => ?_, fun b u e => ?_⟩
  · rw [upd_ne (show b ≠ a from fun z => hb (by rw [z]; exact ha))]; exact e
  · by_cases z : b = a
    · subst z; exact ⟨o, upd_same⟩
    · exact ⟨u, by rw [upd_ne z]; exact e⟩
theorem RelS.put (s : RelS K c S H) {i : Nat} {a : Addr} {xs ys : List D} {us : List V} (hS : S[i]? = some (.lst xs)) (hm : c.m[i]? = some a) (h : RelDs K c H ys us) :
    RelS K c (S.set i (.lst ys)) (upd H a (.lst us)) := by
  have x : Ext c H c (upd H a (.lst us)) := Ext.put s hm
  have hi : i < S.length := (List.getElem?_eq_some_iff.mp hS).1
  refine ⟨by rw [s.len, List.length_set], s.nd, fun j o e => ?_, fun b hb => ?_⟩
  · by_cases hj : i = j
    · subst hj
      rw [List.getElem?_set_self hi] at e
      cases e
      exact ⟨a, hm, us, upd_same, h.ext x⟩
    · rw [List.getElem?_set_ne hj] at e
      obtain ⟨b, h1, h2⟩ := s.ob j o e
      have hne : b ≠ a := fun z => by
        subst z
        have hlt : i < c.m.length := (List.getElem?_eq_some_iff.mp hm).1
        exact hj ((List.getElem?_inj hlt s.nd).mp (hm.trans h1.symm))
      exact ⟨b, h1, h2.ext x fun u e => by rw [upd_ne hne]; exact e⟩
  · obtain ⟨h1, o, e⟩ := s.zn b hb
    have hne : b ≠ a := fun z => h1 (by rw [z]; exact List.mem_of_getElem? hm)
    exact ⟨h1, o, by rw [upd_ne hne]; exact e⟩
/-- a list in the making joins the store -/
def Ct.add (c : Ct) (a : Addr) : Ct := ⟨c.m ++ [a], c.z⟩
/-- .. is reserved -/
def Ct.res (c : Ct) (a : Addr) : Ct := ⟨c.m, a :: c.z⟩

/-! ### the transformer of a meaning -/
def RelX (K : PySem.W.Frag) (mg : Str → Option Value) (c : Ct) (H : Hp) (nm : Str) (fs : Flds) (cls : Value) (x : Option Addr) : Prop :=
  (mg nm = some cls ∨ (mg nm = none ∧ bootBuiltins nm = some cls)) ∧
    (fs = [] ∨ ∃ a vs, x = some a ∧ H a = some (.xd ((fs.map (·.1)).zip vs)) ∧ a ∉ c.m ∧ a ∉ c.z ∧ RelDs K c H (fs.map (·.2)) vs)
/-- the setting: the written part, the module's names, what is wished of exceptions -/
structure Se where
  K : PySem.W.Frag
  mg : Str → Option Value
  W : WX
def Post {α β : Type} (Z : Se) (Rl : Ct → Hp → α → β → Prop) (m : R α) (c : Ct) (σ : L2.St) (H : Hp) (Q : β → Hp → Prop) : Prop := match m with
  | .ok d S => ∀ c' v H', Ext c H c' H' → RelS Z.K c' S H' → Rl c' H' d v → Q v H'
  | .exc nm fs S => ∀ c' cls x H', Ext c H c' H' → RelS Z.K c' S H' → RelX Z.K Z.mg c' H' nm fs cls x → Z.W cls x σ H'
  | .bad => False
def TXg {α β : Type} (Z : Se) (Rl : Ct → Hp → α → β → Prop) (f : Env → Store → R α) (σ : L2.St) (H : Hp) (Q : β → Hp → Prop) : Prop :=
  ∃ c r S, RelS Z.K c S H ∧ RelE Z.K c H r σ ∧ Post Z Rl (f r S) c σ H Q
abbrev TX (Z : Se) (f : Env → Store → R D) : TE := fun σ H Q => TXg Z (RelD Z.K) f σ H Q
abbrev TXs (Z : Se) (f : Env → Store → R (List D)) : TA := fun σ H Q => TXg Z (RelDs Z.K) f σ H Q
abbrev TXb (Z : Se) (f : Env → Store → R Bool) : TT := fun σ H Q => TXg Z (fun _ _ (b c : Bool) => b = c) f σ H Q
theorem Post.ext {α β : Type} {Z : Se} {Rl : Ct → Hp → α → β → Prop} {m : R α} {σ : L2.St} {Q : β → Hp → Prop} (x : Ext c H c' H') (h : Post Z Rl m c σ H Q) : Post Z Rl m c' σ H' Q := by
  cases m with
  | ok d S => exact fun c2 v H2 y s r => h c2 v H2 (x.trans y) s r
  | exc nm fs S => exact fun c2 cls z H2 y s r => h c2 cls z H2 (x.trans y) s r
  | bad => exact h
theorem Post.mono {α β : Type} {Z : Se} {Rl : Ct → Hp → α → β → Prop} {m : R α} {σ : L2.St} {Q Q' : β → Hp → Prop} (h : Post Z Rl m c σ H Q) (hq : ∀ v H', Q v H' → Q' v H') : Post Z Rl m c σ H Q' := by
  cases m with
  | ok d S => exact fun c2 v H2 y s r => hq _ _ (h c2 v H2 y s r)
  | exc nm fs S => exact h
  | bad => exact h
/-- one step, then the rest -/
theorem TXg.bnd {α β γ δ : Type} {Z : Se} {Rl : Ct → Hp → α → β → Prop} {Rl' : Ct → Hp → γ → δ → Prop} {f : Env → Store → R α} {k : α → Store → R γ} {σ : L2.St} {r : Env} {Q : δ → Hp → Prop} {Q1 : β → Hp → Prop}
    (s : RelS Z.K c S H) (e : RelE Z.K c H r σ) (h : Post Z Rl' ((f r S).bnd k) c σ H Q)
    (step : ∀ d S1 c1 v H1, Ext c H c1 H1 → RelS Z.K c1 S1 H1 → RelE Z.K c1 H1 r σ → Rl c1 H1 d v → Post Z Rl' (k d S1) c1 σ H1 Q → Q1 v H1) : TXg Z Rl f σ H Q1 := by
  refine ⟨c, r, S, s, e, ?_⟩
  cases q : f r S with
  | ok d S1 =>
    rw [q] at h
    exact fun c1 v H1 x s1 r1 => step d S1 c1 v H1 x s1 (e.ext x) r1 (Post.ext x h)
  | exc nm fs S1 =>
    rw [q] at h
    exact h
  | bad =>
    rw [q] at h
    exact h
theorem Post.opt {α β : Type} {Z : Se} {Rl : Ct → Hp → α → β → Prop} {o : Option α} {σ : L2.St} {Q : β → Hp → Prop} (h : Post Z Rl (.opt o S) c σ H Q) : ∃ d, o = some d ∧ Post Z Rl (.ok d S) c σ H Q := by
  cases o with
  | none => exact h.elim
  | some d => exact ⟨d, rfl, h⟩
end
/-- a weaker transformer -/
theorem PE.of {X : Cx} {e : Expr} {t t' : TE} (h : PE X e t) (w : ∀ σ H Q, t' σ H Q → t σ H Q) : PE X e t' := ⟨fun pins s σ H Q I q => h.run pins s σ H Q I (w _ _ _ q)⟩
theorem PT.of {X : Cx} {e : Expr} {t t' : TT} (h : PT X e t) (w : ∀ σ H Q, t' σ H Q → t σ H Q) : PT X e t' := ⟨fun pins s σ H Q I q => h.run pins s σ H Q I (w _ _ _ q)⟩
theorem PA.of {X : Cx} {e : List Expr} {t t' : TA} (h : PA X e t) (w : ∀ σ H Q, t' σ H Q → t σ H Q) : PA X e t' := ⟨fun pos pins s σ H Q I q => h.run pos pins s σ H Q I (w _ _ _ q)⟩
theorem PS.of {X : Cx} {e : Stmt} {t t' : TS} (h : PS X e t) (w : ∀ D σ H, t' D σ H → t D σ H) : PS X e t' := ⟨fun pins s σ H Q I q => h.run pins s σ H Q I (w _ _ _ q)⟩
theorem PSs.of {X : Cx} {e : List Stmt} {t t' : TS} (h : PSs X e t) (w : ∀ D σ H, t' D σ H → t D σ H) : PSs X e t' := ⟨fun pins s σ H Q I q => h.run pins s σ H Q I (w _ _ _ q)⟩
end RR

set_option Elab.async false
set_option linter.all false
set_option maxRecDepth 100000
set_option maxHeartbeats 1000000
/-! the operations on values, over the layer -/
namespace RR
open PySem PySem.Spec PyProof.Rows L2

theorem line_eq : (sizeLine : Nat) = 16777216 := sizeLine_eq
/-- what is wanted of a value d -/
def Wt (K : PySem.W.Frag) (c : Ct) (S : Store) (H : Hp) (d : D) (Q : VK) : Prop := ∀ c' w H', Ext c H c' H' → RelS K c' S H' → RelD K c' H' d w → Q w H'
section
variable {K : PySem.W.Frag} {c : Ct} {H : Hp} {S : Store} {Q : VK}
theorem Wt.here {d : D} {v : V} (h : Wt K c S H d Q) (s : RelS K c S H) (r : RelD K c H d v) : Q v H := h c v H Ext.refl s r
theorem Wt.tup {ds : List D} {vs : List V} (h : Wt K c S H (.tup ds) Q) (s : RelS K c S H) (r : RelDs K c H ds vs) : ∀ p, H p = none → Q (.ref p) (upd H p (.tup vs)) := fun p hp =>
  h c _ _ (Ext.new hp) (s.new hp) (.tup upd_same (s.fresh hp).1 (r.ext (Ext.new hp)))
theorem Wt.lst {ds : List D} {vs : List V} (h : Wt K c S H (.lst ds) Q) (s : RelS K c S H) (r : RelDs K c H ds vs) : ∀ p, H p = none → Q (.ref p) (upd H p (.lst vs)) := fun p hp =>
  h c _ _ (Ext.new hp) (s.new hp) (.lst upd_same (s.fresh hp).1 (s.fresh hp).2 (r.ext (Ext.new hp)))
end
/-- a two-place operation's reading by its meaning F -/
def rD2 (K : PySem.W.Frag) (F : Store → D → D → Option D) : R2 := fun x y H Q => ∃ c S d e d', RelS K c S H ∧ RelD K c H d x ∧ RelD K c H e y ∧ F S d e = some d' ∧ Wt K c S H d' Q
def rC (K : PySem.W.Frag) (F : List D → Store → R D) : List V → Hp → VK → Prop := fun xs H Q => ∃ c S ds d', RelS K c S H ∧ RelDs K c H ds xs ∧ F ds S = .ok d' S ∧ Wt K c S H d' Q
section
variable {X : Cx}
theorem OpR.use {f : Value → Value → Sem Value} {r r' : R2} (h : OpR X f r) (w : ∀ x y H Q, r' x y H Q → r x y H Q) : OpR X f r' := fun pins s σ H x y v u Q I rx ry q => h pins s σ H x y v u Q I rx ry (w _ _ _ _ q)

theorem o_add : OpR X (binaryOp .Add) (rD2 X.K addD) := by
  intro pins s σ H x y v u Q I rx ry h
  obtain ⟨c, S, d, e, d', hs, h1, h2, hF, q⟩ := h
  have lists : ∀ xs ys, lsD S d = some xs → lsD S e = some ys → (if xs.length + ys.length ≤ 16777216 then some (D.lst (xs ++ ys)) else none) = some d' →
      wpAny (model X.prog X.w) X.A (binaryOp .Add v u) (EP X pins σ Q) X.xe s := fun xs ys e1 e2 e3 => by
    obtain ⟨a, vs, rfl, q1, r1⟩ := lsD_at hs e1 h1
    obtain ⟨b, us, rfl, q2, r2⟩ := lsD_at hs e2 h2
    split at e3
    · rename_i hz
      cases e3
      exact op_cat pins s σ H _ _ v u Q I rx ry ⟨a, b, vs, us, rfl, rfl, q1, q2, by rw [line_eq, ← r1.length, ← r2.length]; exact hz, q.lst hs (r1.append r2)⟩
    · cases e3
  have gen : (match lsD S d, lsD S e with
      | some xs, some ys => if xs.length + ys.length ≤ 16777216 then some (D.lst (xs ++ ys)) else none
      | _, _ => none) = some d' → wpAny (model X.prog X.w) X.A (binaryOp .Add v u) (EP X pins σ Q) X.xe s := fun e3 => by
    cases q1 : lsD S d with
    | none => rw [q1] at e3; cases e3
    | some xs =>
      cases q2 : lsD S e with
      | none => rw [q1, q2] at e3; cases e3
      | some ys => rw [q1, q2] at e3; exact lists xs ys q1 q2 e3
  cases h1 with
  | int i =>
    cases h2 with
    | int j =>
      cases hF
      exact op_add pins s σ H _ _ v u Q I rx ry ⟨i, j, rfl, rfl, q.here hs (.int _)⟩
    | _ => exact gen hF
  | str z =>
    cases h2 with
    | str z2 =>
      have hF : (if z.length + z2.length ≤ 16777216 then some (D.str (z ++ z2)) else none) = some d' := hF
      split at hF
      · rename_i hz
        cases hF
        exact op_add_str pins s σ H _ _ v u Q I rx ry ⟨z, z2, rfl, rfl, by rw [line_eq]; exact hz, q.here hs (.str _)⟩
      · cases hF
    | _ => exact gen hF
  | tup a1 a2 a3 =>
    cases h2 with
    | tup b1 b2 b3 =>
      rename_i a xs vs b ys us
      have hF : (if xs.length + ys.length ≤ 16777216 then some (D.tup (xs ++ ys)) else none) = some d' := hF
      split at hF
      · rename_i hz
        cases hF
        have l1 := a3.length
        have l2 := b3.length
        refine op_catA pins s σ H _ _ v u Q I rx ry ⟨a, b, vs, us, rfl, rfl, sqT_at a1, sqT_at b1, by rw [line_eq, ← l1, ← l2]; exact hz, fun e => ?_, fun _ e => ?_, fun _ _ => q.tup hs (a3.append b3)⟩
        · subst e
          have e' : xs = [] := List.eq_nil_of_length_eq_zero l1
          subst e'
          exact q.here hs (.tup b1 b2 b3)
        · subst e
          have e' : ys = [] := List.eq_nil_of_length_eq_zero l2
          subst e'
          rw [List.append_nil] at q
          exact q.here hs (.tup a1 a2 a3)
      · cases hF
    | _ => exact gen hF
  | _ => exact gen hF
theorem o_sub : OpR X (binaryOp .Sub) (rD2 X.K fun S x y => binD S .sub x y) := by
  intro pins s σ H x y v u Q I rx ry h
  obtain ⟨c, S, d, e, d', hs, h1, h2, hF, q⟩ := h
  cases h1 with
  | int i =>
    cases h2 with
    | int j => cases hF; exact op_sub pins s σ H _ _ v u Q I rx ry ⟨i, j, rfl, rfl, q.here hs (.int _)⟩
    | _ => cases hF
  | _ => cases hF
theorem o_mul : OpR X (binaryOp .Mult) (rD2 X.K fun S x y => binD S .mul x y) := by
  intro pins s σ H x y v u Q I rx ry h
  obtain ⟨c, S, d, e, d', hs, h1, h2, hF, q⟩ := h
  cases h1 with
  | int i =>
    cases h2 with
    | int j =>
      have hF : (if mulOk i j then some (D.int (i * j)) else none) = some d' := hF
      split at hF
      · rename_i hc
        cases hF
        rcases hc with hc | hc
        · refine op_mul pins s σ H _ _ v u Q I rx ry ⟨i, j, rfl, rfl, ?_, q.here hs (.int _)⟩
          rcases hc with hc | hc
          · exact .inl ⟨by omega, by omega⟩
          · exact .inr ⟨by omega, by omega⟩
        · exact op_mulW pins s σ H _ _ v u Q I rx ry ⟨i, j, rfl, rfl, hc, q.here hs (.int _)⟩
      · cases hF
    | _ => cases hF
  | tup a1 a2 a3 =>
    cases h2 with
    | int k =>
      rename_i a xs vs
      have hF : (if xs ≠ [] ∧ 2 ≤ k ∧ k ≤ 1000 ∧ xs.length ≤ 1000 then some (D.tup (List.replicate k.toNat xs).flatten) else none) = some d' := hF
      split at hF
      · rename_i hc
        obtain ⟨n0, n1, n2, n3⟩ := hc
        cases hF
        refine op_repT pins s σ H _ _ v u Q I rx ry ⟨a, k, vs, rfl, rfl, sqT_at a1, fun z => n0 ?_, n1, n2, by rw [← a3.length]; exact n3, q.tup hs (a3.rep _)⟩
        subst z
        exact List.eq_nil_of_length_eq_zero a3.length
      · cases hF
    | _ => cases hF
  | _ => cases hF
theorem o_fdv : OpR X (binaryOp .FloorDiv) (rD2 X.K fun S x y => binD S .fdv x y) := by
  intro pins s σ H x y v u Q I rx ry h
  obtain ⟨c, S, d, e, d', hs, h1, h2, hF, q⟩ := h
  cases h1 with
  | int i =>
    cases h2 with
    | int j =>
      have hF : (if divOk j then some (D.int (i / j)) else if j ≠ 0 ∧ j.natAbs < 1073741824 then some (D.int (i.fdiv j)) else none) = some d' := hF
      split at hF
      · rename_i hc
        cases hF
        obtain ⟨p0, hc | hc⟩ := hc
        · exact op_fdiv pins s σ H _ _ v u Q I rx ry ⟨i, j, rfl, rfl, ⟨p0, hc⟩, q.here hs (.int _)⟩
        · exact op_fdivW pins s σ H _ _ v u Q I rx ry ⟨i, j, rfl, rfl, ⟨p0, hc⟩, q.here hs (.int _)⟩
      · split at hF
        · rename_i hc
          cases hF
          exact op_fdivN pins s σ H _ _ v u Q I rx ry ⟨i, j, rfl, rfl, hc, q.here hs (.int _)⟩
        · cases hF
    | _ => cases hF
  | _ => cases hF
theorem o_mod : OpR X (binaryOp .Mod) (rD2 X.K fun S x y => binD S .mod x y) := by
  intro pins s σ H x y v u Q I rx ry h
  obtain ⟨c, S, d, e, d', hs, h1, h2, hF, q⟩ := h
  cases h1 with
  | int i =>
    cases h2 with
    | int j =>
      have hF : (if j ≠ 0 then some (D.int (i.fmod j)) else none) = some d' := hF
      split at hF
      · rename_i hc
        cases hF
        exact op_modN pins s σ H _ _ v u Q I rx ry ⟨i, j, rfl, rfl, hc, q.here hs (.int _)⟩
      · cases hF
    | _ => cases hF
  | _ => cases hF
theorem o_pow : OpR X (binaryOp .Pow) (rD2 X.K fun S x y => binD S .pow x y) := by
  intro pins s σ H x y v u Q I rx ry h
  obtain ⟨c, S, d, e, d', hs, h1, h2, hF, q⟩ := h
  cases h1 with
  | int i =>
    cases h2 with
    | int j =>
      have hF : (if 0 ≤ j ∧ j ≤ 1000000 ∧ i.natAbs < 2 ^ 64 then some (D.int (i ^ j.toNat)) else none) = some d' := hF
      split at hF
      · rename_i hc
        cases hF
        exact op_pow pins s σ H _ _ v u Q I rx ry ⟨i, j, rfl, rfl, hc, q.here hs (.int _)⟩
      · cases hF
    | _ => cases hF
  | _ => cases hF
def Bop.op : Bop → Operator
  | .add => .Add | .sub => .Sub | .mul => .Mult | .fdv => .FloorDiv | .mod => .Mod | .pow => .Pow
theorem o_bin (o : Bop) : OpR X (binaryOp o.op) (rD2 X.K fun S x y => binD S o x y) := by
  cases o with
  | add => exact o_add
  | sub => exact o_sub
  | mul => exact o_mul
  | fdv => exact o_fdv
  | mod => exact o_mod
  | pow => exact o_pow
end
end RR

set_option Elab.async false
set_option linter.all false
set_option maxRecDepth 100000
set_option maxHeartbeats 1000000
/-! the text of data with dicts in it: none of the dicts is that of the modules -/
namespace RR
open PySem PySem.Spec PyProof.Rows L2
/-- the dicts among these are not that of the modules -/
def Dk (h : Heap) (as : List Addr) : Prop := ∀ a ∈ as, ∀ o, h.get? a = some o → o.cls = .type "dict" → (a == sysModules) = false
theorem Dk.nil {h : Heap} : Dk h [] := fun _ m => nomatch m
theorem Dk.app {h : Heap} {as bs : List Addr} (x : Dk h as) (y : Dk h bs) : Dk h (as ++ bs) := fun a m => (List.mem_append.mp m).elim (x a) (y a)
theorem Dk.left {h : Heap} {as bs : List Addr} (x : Dk h (as ++ bs)) : Dk h as := fun a m => x a (List.mem_append_left _ m)
theorem Dk.right {h : Heap} {as bs : List Addr} (x : Dk h (as ++ bs)) : Dk h bs := fun a m => x a (List.mem_append_right _ m)
theorem Dk.tail {h : Heap} {a : Addr} {as : List Addr} (x : Dk h (a :: as)) : Dk h as := fun b m => x b (List.mem_cons_of_mem _ m)
theorem Dk.cons {h : Heap} {a : Addr} {as : List Addr} (y : ∀ o, h.get? a = some o → o.cls = .type "dict" → (a == sysModules) = false) (x : Dk h as) : Dk h (a :: as) := fun b m => (List.mem_cons.mp m).elim (fun e => by subst e; exact y) (x b)
section
variable {P : Program} {w : World} {h : Heap}
mutual
theorem rk : ∀ {v : Value} {d : PyData} {as : List Addr}, Reads h v d as → d.showable = true → Dk h as → d.shown.length ≤ sizeLine →
    ∃ bs, ReadAtMost h d.depth bs ∧ ReprK P w bs h d.depth v d.shown
  | _, _, _, .none, x, _, z => ReprK.of_reads .none x (PyData.noDict_hsm rfl) z
  | _, _, _, .bool b, x, _, z => ReprK.of_reads (.bool b) x (PyData.noDict_hsm rfl) z
  | _, _, _, .int i t, x, _, z => ReprK.of_reads (.int i t) x (PyData.noDict_hsm rfl) z
  | _, _, _, .str y t, x, _, z => ReprK.of_reads (.str y t) x (PyData.noDict_hsm rfl) z
  | _, _, _, .list (a := a) (vs := vs) (xs := xs) g1 g2 g3 g4, x, k, z => by
    obtain ⟨bs, m1, m2⟩ := rks g4 x k.tail fun t ht => Nat.le_trans (listText_mem_le ht) z
    have q : Reads h (.ref a) (.list xs) _ := .list g1 g2 g3 g4
    have lt : PyData.depthAll xs < PyData.depth (.list xs) := Nat.lt_succ_self _
    refine ⟨a :: bs, ReadAtMost.cons q (Nat.le_of_lt lt) m1, ?_⟩
    obtain ⟨l⟩ := vs
    match l, g3, g4, m2 with
    | [], g3, g4, _ =>
      cases (show ReadsAll h [] xs _ from g4)
      have e : PyData.shown (.list []) = ("[]" : Str) := listText_nil
      rw [e]
      exact ReprK.listEmpty g1 g2 g3
    | u :: us, g3, g4, m2 => exact ReprK.list g1 g2 g3 (not_mem_of_deeper q lt m1) (by simpa using m2.length_eq) fun i y e => m2.item i y (by simpa using e)
  | _, _, _, .tuple (a := a) (xs := xs) g1 g2 g3 g4, x, k, z => by
    obtain ⟨bs, m1, m2⟩ := rks g4 x k fun t ht => Nat.le_trans (tupleText_mem_le ht) z
    have q : Reads h (.ref a) (.tuple xs) _ := .tuple g1 g2 g3 g4
    have lt : PyData.depthAll xs < PyData.depth (.tuple xs) := Nat.lt_succ_self _
    exact ⟨a :: bs, ReadAtMost.cons q (Nat.le_of_lt lt) m1, ReprK.tuple g1 g2 g3 (not_mem_of_deeper q lt m1) m2⟩
  | _, _, _, .dict (a := a) (es := es) (kvs := kvs) g1 g2 g3 g4 g5, x, k, z => by
    obtain ⟨x1, x2⟩ := PyData.showableKv_split kvs x
    obtain ⟨b1, m1, n1⟩ := rks g4 x1 k.tail.left fun t ht => by
      obtain ⟨p, hp, hl⟩ := PyData.shownKv_key_le kvs t ht
      exact Nat.le_trans (Nat.le_trans hl (dictText_mem_le hp)) z
    obtain ⟨b2, m2, n2⟩ := rks g5 x2 k.tail.right fun t ht => by
      obtain ⟨p, hp, hl⟩ := PyData.shownKv_val_le kvs t ht
      exact Nat.le_trans (Nat.le_trans hl (dictText_mem_le hp)) z
    have q : Reads h (.ref a) (.dict kvs) _ := .dict g1 g2 g3 g4 g5
    have lt : PyData.depthKv kvs < PyData.depth (.dict kvs) := Nat.lt_succ_self _
    have m : ReadAtMost h (PyData.depthKv kvs) (b1 ++ b2) := ReadAtMost.append (m1.mono (PyData.depthAll_keys_le kvs)) (m2.mono (PyData.depthAll_vals_le kvs))
    refine ⟨a :: (b1 ++ b2), ReadAtMost.cons q (Nat.le_of_lt lt) m, ?_⟩
    have f1 := n1.more_le (as' := b1 ++ b2) (fun b hb => List.mem_append_left _ hb) (PyData.depthAll_keys_le kvs)
    have f2 := n2.more_le (as' := b1 ++ b2) (fun b hb => List.mem_append_right _ hb) (PyData.depthAll_vals_le kvs)
    have e : PyData.shown (.dict kvs) = dictText (List.zipWith (fun k v : Str => k ++ ": " ++ v) (PyData.shownAll (kvs.map (·.1))) (PyData.shownAll (kvs.map (·.2)))) := by rw [← PyData.shownKv_eq]; rfl
    rw [e]
    exact ReprK.dict g1 g2 g3 (k a List.mem_cons_self _ g1 g2) (not_mem_of_deeper q lt m) (ReprEntriesK.of_two es.toList _ _ f1 f2)
theorem rks : ∀ {vs : List Value} {ds : List PyData} {as : List Addr}, ReadsAll h vs ds as → PyData.showableAll ds = true → Dk h as → (∀ t ∈ PyData.shownAll ds, t.length ≤ sizeLine) →
    ∃ bs, ReadAtMost h (PyData.depthAll ds) bs ∧ ReprAllK P w bs h (PyData.depthAll ds) vs (PyData.shownAll ds)
  | _, _, _, .nil, _, _, _ => ⟨[], (fun _ m => nomatch m), .nil⟩
  | _, _, _, .cons (d := d) (ds := ds) r rs, x, k, z => by
    obtain ⟨x1, x2⟩ := Bool.and_eq_true_iff.mp (show (d.showable && PyData.showableAll ds) = true from x)
    obtain ⟨b1, m1, n1⟩ := rk r x1 k.left (z _ List.mem_cons_self)
    obtain ⟨b2, m2, n2⟩ := rks rs x2 k.right fun t ht => z t (List.mem_cons_of_mem _ ht)
    have l1 : d.depth ≤ PyData.depthAll (d :: ds) := Nat.le_max_left _ _
    have l2 : PyData.depthAll ds ≤ PyData.depthAll (d :: ds) := Nat.le_max_right _ _
    exact ⟨b1 ++ b2, ReadAtMost.append (m1.mono l1) (m2.mono l2), .cons ((n1.more fun b hb => List.mem_append_left _ hb).level_le l1) (n2.more_le (fun b hb => List.mem_append_right _ hb) l2)⟩
end
theorem rk_shows {a : Addr} {d : PyData} {as : List Addr} (r : Reads h (.ref a) d as) (x : d.showable = true) (k : Dk h as) (z : d.shown.length ≤ sizeLine) : ∃ T i, ShowsBy P w h a d T i := by
  cases r with
  | @list _ o vs n xs bs g1 g2 g3 g4 =>
    obtain ⟨bs, m1, m2⟩ := rks (P := P) (w := w) g4 x k.tail fun t ht => Nat.le_trans (listText_mem_le ht) z
    have q : Reads h (.ref a) (.list xs) _ := .list g1 g2 g3 g4
    have na := not_mem_of_deeper q (Nat.lt_succ_self _ : PyData.depthAll xs < PyData.depth (.list xs)) m1
    refine ⟨"list", "list.__repr__", F.slot_list_repr.toG, F.slot_list_str, F.slot_list_format, fun s hk => ⟨o, hk _ _ g1, g2⟩, fun A E s Q hg hu hk hQ => ?_⟩
    obtain ⟨l⟩ := vs
    match l, g3, g4, m2 with
    | [], g3, g4, _ =>
      cases (show ReadsAll h [] xs _ from g4)
      have e : PyData.shown (.list []) = ("[]" : Str) := listText_nil
      rw [e] at hQ
      exact call_list_repr_empty ⟨o, hk _ _ g1, g2⟩ (hk _ _ g1) g3 (hQ s.heap _ _ fun _ _ e => e)
    | u :: us, g3, g4, m2 => exact call_list_reprK g1 g2 g3 na (by simpa using m2.length_eq) (fun i y e => m2.item i y (by simpa using e)) hg (fun b _ => Clear.nil b) hu hk hQ z
  | @tuple _ o vs n xs _ g1 g2 g3 g4 =>
    obtain ⟨bs, m1, m2⟩ := rks (P := P) (w := w) g4 x k fun t ht => Nat.le_trans (tupleText_mem_le ht) z
    have q : Reads h (.ref a) (.tuple xs) _ := .tuple g1 g2 g3 g4
    have na := not_mem_of_deeper q (Nat.lt_succ_self _ : PyData.depthAll xs < PyData.depth (.tuple xs)) m1
    exact ⟨"tuple", "tuple.__repr__", F.slot_tuple_repr, F.slot_tuple_str, F.slot_tuple_format, fun s hk => ⟨o, hk _ _ g1, g2⟩, fun A E s Q hg hu hk hQ => call_tuple_reprK g1 g2 g3 na m2 hg (fun b _ => Clear.nil b) hu hk hQ z⟩
  | @dict _ o es n kvs c1 c2 g1 g2 g3 g4 g5 =>
    obtain ⟨x1, x2⟩ := PyData.showableKv_split kvs x
    obtain ⟨b1, m1, n1⟩ := rks (P := P) (w := w) g4 x1 k.tail.left fun t ht => by
      obtain ⟨p, hp, hl⟩ := PyData.shownKv_key_le kvs t ht
      exact Nat.le_trans (Nat.le_trans hl (dictText_mem_le hp)) z
    obtain ⟨b2, m2, n2⟩ := rks (P := P) (w := w) g5 x2 k.tail.right fun t ht => by
      obtain ⟨p, hp, hl⟩ := PyData.shownKv_val_le kvs t ht
      exact Nat.le_trans (Nat.le_trans hl (dictText_mem_le hp)) z
    have q : Reads h (.ref a) (.dict kvs) _ := .dict g1 g2 g3 g4 g5
    have m : ReadAtMost h (PyData.depthKv kvs) (b1 ++ b2) := ReadAtMost.append (m1.mono (PyData.depthAll_keys_le kvs)) (m2.mono (PyData.depthAll_vals_le kvs))
    have na := not_mem_of_deeper q (Nat.lt_succ_self _ : PyData.depthKv kvs < PyData.depth (.dict kvs)) m
    have f1 := n1.more_le (as' := b1 ++ b2) (fun b hb => List.mem_append_left _ hb) (PyData.depthAll_keys_le kvs)
    have f2 := n2.more_le (as' := b1 ++ b2) (fun b hb => List.mem_append_right _ hb) (PyData.depthAll_vals_le kvs)
    have e : PyData.shown (.dict kvs) = dictText (List.zipWith (fun k v : Str => k ++ ": " ++ v) (PyData.shownAll (kvs.map (·.1))) (PyData.shownAll (kvs.map (·.2)))) := by rw [← PyData.shownKv_eq]; rfl
    rw [e] at z
    refine ⟨"dict", "dict.__repr__", F.slot_dict_repr, F.slot_dict_str, F.slot_dict_format, fun s hk => ⟨o, hk _ _ g1, g2⟩, fun A E s Q hg hu hk hQ => ?_⟩
    rw [e] at hQ
    exact call_dict_reprK g1 g2 g3 (k a List.mem_cons_self _ g1 g2) na (ReprEntriesK.of_two es.toList _ _ f1 f2) hg (fun b _ => Clear.nil b) hu hk hQ z
theorem rk_repr {A : Around} {E : Value → Shared → Prop} {s : Shared} {Q : Value → Shared → Prop} {a : Addr} {d : PyData} {as : List Addr} (r : Reads s.heap (.ref a) d as) (x : d.showable = true) (k : Dk s.heap as) (z : d.shown.length ≤ sizeLine)
    (hg : A.guards = some []) (hu : A.units + (d.depth + 1) < cLine) (hQ : ∀ h' u tk, (∀ b o, s.heap.get? b = some o → h'.get? b = some o) → Q (.str d.shown u) { s with heap := h', toks := tk }) :
    wpAny (model P w) A (call (.builtin "repr") [.ref a]) Q E s := by
  obtain ⟨T, i, S⟩ := rk_shows (P := P) (w := w) r x k z
  refine call_repr_slot (by omega) (S.typeIs s fun _ _ e => e) S.slotRepr (S.call A.in1 E s _ hg ?_ (fun _ _ e => e) fun h' u tk hk => ⟨_, _, rfl, hQ h' u tk hk⟩)
  show A.units + 1 + d.depth < cLine
  omega
end
end RR

set_option Elab.async false
set_option linter.all false
set_option maxRecDepth 100000
set_option maxHeartbeats 1000000
/-! comparisons, repr, truth, built-in functions, over the layer -/
namespace RR
open PySem PySem.Spec PyProof.Rows L2
section
variable {X : Cx} {pins : List (Addr × Obj)} {σ : L2.St} {H : Hp} {s : Shared} {c : Ct} {S : Store}
theorem reads_all (ns : List Int) : ∀ {us : List Value} (h : Heap), Vals (ns.map V.int) us → ReadsAll h us (ns.map PyData.int) [] := by
  induction ns with
  | nil => intro us h r; cases r; exact .nil
  | cons n ns ih =>
    intro us h r
    cases r with
    | cons r1 r2 =>
      obtain ⟨t, rfl⟩ := r1
      exact .cons (.int n t) (ih h r2)
theorem pysR_len {r : Nat → Option PyData} : ∀ {ds : List D} {ps : List PyData}, pysR r ds = some ps → ds.length = ps.length
  | [], _, e => by cases e; rfl
  | d :: ds, ps, e => by
    unfold pysR at e
    split at e
    · rename_i p qs e1 e2
      cases e
      rw [List.length_cons, List.length_cons, pysR_len e2]
    · cases e
theorem no_dk {h : Heap} {a : Addr} {o : Obj} (ho : h.get? a = some o) (hc : o.cls = .type "list") : ∀ o', h.get? a = some o' → o'.cls = .type "dict" → (a == sysModules) = false := fun o' e e2 => by
  rw [ho] at e
  cases e
  rw [hc] at e2
  exact absurd e2 (by decide)
theorem reads_ints (I : Inv X pins σ H s) {a : Addr} {ns : List Int} (q : SqL X.K H a (ns.map V.int)) : ∃ as, Reads s.heap (.ref a) (.list (ns.map PyData.int)) as ∧ Dk s.heap as := by
  obtain ⟨its, rv, ⟨o, k, ho, hc, _, hd⟩, _⟩ := I.list q
  have hr := reads_all ns s.heap rv
  exact ⟨_, Reads.list ho hc hd (by simpa using hr), .cons (no_dk ho hc) .nil⟩
theorem dict_reads {P : Program} {w : World} {h : Heap} : ∀ {ks : List Str} {vs : List V} {kvs : List (Key × Value)} {es : List DictEntry}, ks.length = vs.length → KV ((ks.map Sum.inr).zip vs) kvs → Pairs (mixKind P w) es kvs →
    ReadsAll h (es.map (·.key)) (ks.map PyData.str) [] ∧ Vals vs (es.map (·.val))
  | [], [], _, _, _, r, p => by cases r; cases p; exact ⟨.nil, .nil⟩
  | [], _ :: _, _, _, l, _, _ => nomatch l
  | _ :: _, [], _, _, l, _, _ => nomatch l
  | x :: ks, v :: vs, _, _, l, r, p => by
    cases r with
    | cons r1 r2 =>
      cases p with
      | @cons e kv es kvs p1 p2 p3 =>
        obtain ⟨q1, q2⟩ := dict_reads (h := h) (Nat.succ.inj l) r2 p3
        have hk : keyIs (.inr x) e.key = true := by
          have := p1
          rw [← r1.1] at this
          exact this
        rcases keyIs_shape hk with ⟨i, t, e1, _⟩ | ⟨y, t, e1, e2⟩
        · cases e1
        · cases e1
          refine ⟨?_, .cons (show RelV v e.val by rw [p2]; exact r1.2) q2⟩
          show ReadsAll h (e.key :: _) _ _
          rw [e2]
          exact .cons (.str x t) q1
mutual
theorem readsR (I : Inv X pins σ H s) {r : Nat → Option PyData} (hr : ∀ i a p, c.m[i]? = some a → r i = some p → ∃ as, Reads s.heap (.ref a) p as ∧ Dk s.heap as) :
    ∀ {d : D} {v : V} {u : Value} {p : PyData}, RelD X.K c H d v → RelV v u → pyR r d = some p → ∃ as, Reads s.heap u p as ∧ Dk s.heap as
  | _, _, _, _, .non, rv, e => by cases rv; cases e; exact ⟨_, .none, .nil⟩
  | _, _, _, _, .bl b, rv, e => by cases rv; cases e; exact ⟨_, .bool b, .nil⟩
  | _, _, _, _, .int i, rv, e => by obtain ⟨t, rfl⟩ := rv; cases e; exact ⟨_, .int i t, .nil⟩
  | _, _, _, _, .str x, rv, e => by obtain ⟨t, rfl⟩ := rv; cases e; exact ⟨_, .str x t, .nil⟩
  | _, _, _, _, .tup h n q, rv, e => by
    cases rv
    obtain ⟨ds, e1, e2⟩ := Option.map_eq_some_iff.mp (show (pysR r _).map PyData.tuple = some _ from e)
    subst e2
    obtain ⟨its, rv, ⟨o, ho, hc, k, hd⟩, _⟩ := I.tuple (sqT_at h)
    obtain ⟨as, hr, dk⟩ := readsRs I hr q rv e1
    exact ⟨_, Reads.tuple ho hc hd hr, dk⟩
  | _, _, _, _, .lst h n z q, rv, e => by
    cases rv
    obtain ⟨ds, e1, e2⟩ := Option.map_eq_some_iff.mp (show (pysR r _).map PyData.list = some _ from e)
    subst e2
    obtain ⟨its, rv, ⟨o, k, ho, hc, _, hd⟩, _⟩ := I.list (sqL_at h)
    obtain ⟨as, hr, dk⟩ := readsRs I hr q rv e1
    exact ⟨_, Reads.list ho hc hd hr, .cons (no_dk ho hc) dk⟩
  | _, _, _, _, .scr h q n z, rv, e => by cases rv; cases e; exact reads_ints I q
  | _, _, _, _, .scK q, rv, e => by cases rv; cases e; exact reads_ints I (q H)
  | _, _, _, _, .dct (ks := ks) (vs := vs) h n z l q, rv, e => by
    cases rv
    obtain ⟨ds, e1, e2⟩ := Option.map_eq_some_iff.mp (show (pysR r _).map (fun ps => PyData.dict ((ks.map PyData.str).zip ps)) = some _ from e)
    subst e2
    obtain ⟨_, sm, kvs, kv, o, es, ep, ho, hx, hd, _, hp, _⟩ := dk_of I.hok h
    have lv : ks.length = vs.length := by rw [l, q.length]
    obtain ⟨k1, rv⟩ := dict_reads (h := s.heap) lv kv hp
    obtain ⟨as, hr, dk⟩ := readsRs I hr q rv e1
    have ld : (ks.map PyData.str).length = ds.length := by rw [List.length_map, l, pysR_len e1]
    refine ⟨_, Reads.dict ho hx.1 hd (as := []) (bs := as) ?_ ?_, .cons (fun _ _ _ => sm) dk⟩
    · rw [List.map_fst_zip (by omega)]; exact k1
    · rw [List.map_snd_zip (by omega)]; exact hr
  | _, _, _, _, .ref h, rv, e => by cases rv; exact hr _ _ _ h e
theorem readsRs (I : Inv X pins σ H s) {r : Nat → Option PyData} (hr : ∀ i a p, c.m[i]? = some a → r i = some p → ∃ as, Reads s.heap (.ref a) p as ∧ Dk s.heap as) :
    ∀ {ds : List D} {vs : List V} {us : List Value} {ps : List PyData}, RelDs X.K c H ds vs → Vals vs us → pysR r ds = some ps → ∃ as, ReadsAll s.heap us ps as ∧ Dk s.heap as
  | _, _, _, _, .nil, rv, e => by cases rv; cases e; exact ⟨_, .nil, .nil⟩
  | _, _, _, _, .cons q qs, rv, e => by
    cases rv with
    | cons r1 r2 =>
      unfold pysR at e
      split at e
      · rename_i d ds e1 e2
        cases e
        obtain ⟨as, h1, k1⟩ := readsR I hr q r1 e1
        obtain ⟨bs, h2, k2⟩ := readsRs I hr qs r2 e2
        exact ⟨_, .cons h1 h2, k1.app k2⟩
      · cases e
end
theorem reads_ob (I : Inv X pins σ H s) (hs : RelS X.K c S H) {r : Nat → Option PyData} (hr : ∀ i a p, c.m[i]? = some a → r i = some p → ∃ as, Reads s.heap (.ref a) p as ∧ Dk s.heap as) :
    ∀ (i : Nat) (a : Addr) (p : PyData), c.m[i]? = some a → obPy r S[i]? = some p → ∃ as, Reads s.heap (.ref a) p as ∧ Dk s.heap as := by
  intro i a p hm e
  cases q : S[i]? with
  | none => rw [q] at e; cases e
  | some o =>
    cases o with
    | lst xs =>
      rw [q] at e
      obtain ⟨ds, e1, e2⟩ := Option.map_eq_some_iff.mp (show (pysR r xs).map PyData.list = some p from e)
      subst e2
      obtain ⟨vs, h1, h2⟩ := hs.at q hm
      obtain ⟨its, rv, ⟨o, k, ho, hc, _, hd⟩, _⟩ := I.list (sqL_at h1)
      obtain ⟨as, hr', dk⟩ := readsRs I hr h2 rv e1
      exact ⟨_, Reads.list ho hc hd hr', .cons (no_dk ho hc) dk⟩
theorem reads_two (I : Inv X pins σ H s) (hs : RelS X.K c S H) : ∀ (i : Nat) (a : Addr) (p : PyData), c.m[i]? = some a → obPy (fun j : Nat => obPy (fun _ => none) S[j]?) S[i]? = some p → ∃ as, Reads s.heap (.ref a) p as ∧ Dk s.heap as :=
  reads_ob I hs (reads_ob I hs fun _ _ _ _ e => by cases e)
theorem readsK (I : Inv X pins σ H s) (hs : RelS X.K c S H) {d : D} {v : V} {u : Value} {p : PyData} (r : RelD X.K c H d v) (rv : RelV v u) (e : pyD S d = some p) : ∃ as, Reads s.heap u p as ∧ Dk s.heap as :=
  readsR I (reads_two I hs) r rv e
theorem readsD (I : Inv X pins σ H s) (hs : RelS X.K c S H) {d : D} {v : V} {u : Value} {p : PyData} (r : RelD X.K c H d v) (rv : RelV v u) (e : pyD S d = some p) : ∃ as, Reads s.heap u p as := by
  obtain ⟨as, h, _⟩ := readsK I hs r rv e
  exact ⟨as, h⟩
theorem room_in {A : Around} {ds : List PyData} {d : PyData} (sd : SeqAt.shaped d = true) (hu : A.units + 65 < cLine) : A.units + 1 + min (PyData.depthAll ds) d.depth < cLine := by
  have h1 := SeqAt.depth_of_shaped sd
  have h2 := Nat.min_le_right (PyData.depthAll ds) d.depth
  omega
end
/-- a comparison's reading -/
def rB2 (K : PySem.W.Frag) (F : Store → D → D → Option Bool) : R2 := fun x y H Q => ∃ c S d e b, RelS K c S H ∧ RelD K c H d x ∧ RelD K c H e y ∧ F S d e = some b ∧ Wt K c S H (.bl b) Q
section
variable {X : Cx}
theorem eqD_of {S : Store} {d e : D} {b : Bool} (h : eqD0 S d e = some b) : ∃ p q, pyD S d = some p ∧ pyD S e = some q ∧ SeqAt.shaped p = true ∧ SeqAt.shaped q = true ∧ b = PyData.eqv p q := by
  unfold eqD0 at h
  split at h
  · rename_i p q e1 e2
    split at h
    · rename_i hk
      cases h
      exact ⟨p, q, e1, e2, hk.1, hk.2, rfl⟩
    · cases h
  · cases h
theorem eqT_of {S : Store} {d e : D} {b : Bool} (h : eqD S d e = some b) : eqD0 S d e = some b ∨ ∃ xs, d = .tup xs ∧ e = .tup [] ∧ b = xs.isEmpty := by
  unfold eqD at h
  split at h
  · rename_i b' e1
    cases h
    exact .inl e1
  · unfold eqT at h
    split at h
    · cases h
      exact .inr ⟨_, rfl, rfl, rfl⟩
    · cases h
theorem c_eq (hu : X.A.units + 64 < cLine) : OpR X (compareOp .Eq) (rB2 X.K eqD) := by
  intro pins s σ H x y v u Q I rx ry h
  obtain ⟨c, S, d, e, b, hs, h1, h2, hF, q⟩ := h
  rcases eqT_of hF with hF | ⟨xs, rfl, rfl, rfl⟩
  · obtain ⟨p, p2, e1, e2, k1, k2, rfl⟩ := eqD_of hF
    obtain ⟨as, r1⟩ := readsD I hs h1 rx e1
    obtain ⟨bs, r2⟩ := readsD I hs h2 ry e2
    exact SeqAt.compareEq_shaped r1 r2 k1 k2 hu ⟨.bl _, H, I, rfl, q.here hs (.bl _)⟩
  · cases h1 with
    | tup a1 a2 a3 =>
      cases h2 with
      | tup b1 b2 b3 =>
        cases rx
        cases ry
        cases b3
        obtain ⟨its, rv, ⟨o, ho, hc, k, hd⟩, _⟩ := I.tuple (sqT_at a1)
        obtain ⟨its2, rv2, ⟨o2, ho2, hc2, k2, hd2⟩, _⟩ := I.tuple (sqT_at b1)
        cases rv2
        refine SeqAt.eq_tupleAt (items := its.toArray) (items2 := #[]) (e := fun _ => true) ⟨o, ho, hc, k, hd⟩ ⟨o2, ho2, hc2, k2, hd2⟩ (by omega) (fun j _ h2 => absurd h2 (by simp)) ⟨.bl _, H, I, rfl, q.here hs ?_⟩
        have hl : its.length = xs.length := by rw [← rv.length, a3.length]
        have : ((List.range (min its.toArray.size (#[] : Array Value).size)).all (fun _ => true) && its.toArray.size == (#[] : Array Value).size) = xs.isEmpty := by
          cases xs with
          | nil => 
            have : its = [] := List.length_eq_zero_iff.mp hl
            subst this; rfl
          | cons x xs =>
            cases its with
            | nil => cases hl
            | cons u us => simp
        rw [this]
        exact .bl _
theorem neD_of {S : Store} {d e : D} {b : Bool} (h : neD S d e = some b) : (∃ b0, eqD0 S d e = some b0 ∧ b = !b0) ∨ ∃ x xs, d = .lst (x :: xs) ∧ e = .lst [] ∧ b = true := by
  unfold neD at h
  split at h
  · rename_i b0 e1
    cases h
    exact .inl ⟨b0, e1, rfl⟩
  · unfold neT at h
    split at h
    · cases h
      exact .inr ⟨_, _, rfl, rfl, rfl⟩
    · cases h
theorem c_ne (hu : X.A.units + 64 < cLine) : OpR X (compareOp .NotEq) (rB2 X.K neD) := by
  intro pins s σ H x y v u Q I rx ry h
  obtain ⟨c, S, d, e, b, hs, h1, h2, hF, q⟩ := h
  rcases neD_of hF with ⟨b0, hF0, rfl⟩ | ⟨x0, xs, rfl, rfl, rfl⟩
  · obtain ⟨p, p2, e1, e2, k1, k2, rfl⟩ := eqD_of hF0
    obtain ⟨as, r1⟩ := readsD I hs h1 rx e1
    obtain ⟨bs, r2⟩ := readsD I hs h2 ry e2
    exact SeqAt.compareNe_shaped r1 r2 k1 k2 hu ⟨.bl _, H, I, rfl, q.here hs (.bl _)⟩
  · cases h1 with
    | lst a1 a2 a3 a4 =>
      cases h2 with
      | lst b1 b2 b3 b4 =>
        cases rx
        cases ry
        cases b4
        obtain ⟨its, rv, ⟨o, k, ho, hc, hdn, hd⟩, _⟩ := I.list (sqL_at a1)
        obtain ⟨its2, rv2, ⟨o2, k2, ho2, hc2, hdn2, hd2⟩, _⟩ := I.list (sqL_at b1)
        cases rv2
        have hl : its.length = (x0 :: xs).length := by rw [← rv.length, a4.length]
        have hne : (its.toArray.size != (#[] : Array Value).size) = true := by
          cases its with
          | nil => cases hl
          | cons u us => rfl
        exact SeqAt.RcNeAt.lists_lengths (items := its.toArray) (items2 := #[]) ⟨o, ho, hc, k, hd⟩ ⟨o2, ho2, hc2, k2, hd2⟩ hne (by omega) _ _ _ _ ⟨.bl _, H, I, rfl, q.here hs (.bl _)⟩
theorem c_ints {f : Value → Value → Sem Value} {o : Cop} {g : Int → Int → Bool} (hO : OpR X f (rI0 fun i j => .bl (g i j))) (hg : ∀ S d e b, cmpD S o d e = some b → ∃ i j, d = .int i ∧ e = .int j ∧ b = g i j) :
    OpR X f (rB2 X.K fun S x y => cmpD S o x y) := by
  intro pins s σ H x y v u Q I rx ry h
  obtain ⟨c, S, d, e, b, hs, h1, h2, hF, q⟩ := h
  obtain ⟨i, j, rfl, rfl, rfl⟩ := hg _ _ _ _ hF
  cases h1
  cases h2
  exact hO pins s σ H _ _ v u Q I rx ry ⟨i, j, rfl, rfl, q.here hs (.bl _)⟩
theorem inD_of {S : Store} {d e : D} {b : Bool} (h : inD S d e = some b) : ∃ p ys qs, pyD S d = some p ∧ itemsD S e = some ys ∧ pysR (fun i : Nat => obPy (fun _ => none) S[i]?) ys = some qs ∧
    SeqAt.shaped p = true ∧ SeqAt.shaped (.list qs) = true ∧ b = qs.any fun z => PyData.eqv z p := by
  unfold inD at h
  split at h
  · rename_i p q e1 e2
    obtain ⟨ys, e3, e4⟩ := Option.bind_eq_some_iff.mp e2
    split at h
    · rename_i hk
      cases h
      exact ⟨p, ys, q, e1, e3, e4, hk.1, hk.2, rfl⟩
    · cases h
  · cases h
/-- what a list or tuple holds, as data -/
theorem reads_items {pins : List (Addr × Obj)} {σ : L2.St} {H : Hp} {s : Shared} {c : Ct} {S : Store} (I : Inv X pins σ H s) (hs : RelS X.K c S H) {d : D} {v : V} {u : Value} {ys : List D} {qs : List PyData} (r : RelD X.K c H d v) (rv : RelV v u)
    (e : itemsD S d = some ys) (e2 : pysR (fun i : Nat => obPy (fun _ => none) S[i]?) ys = some qs) : ∃ as, Reads s.heap u (.list qs) as ∨ Reads s.heap u (.tuple qs) as := by
  obtain ⟨a, vs, rfl, hk, hr⟩ := itemsD_at hs e r
  cases rv
  have one := reads_ob I hs (r := fun _ => none) fun _ _ _ _ e => by cases e
  rcases hk with ⟨_, hk⟩ | ⟨_, hk⟩
  · obtain ⟨its, rv, ⟨o, ho, hc, k, hd⟩, _⟩ := I.tuple hk
    obtain ⟨as, q, _⟩ := readsRs I one hr rv e2
    exact ⟨as, .inr (Reads.tuple ho hc hd q)⟩
  · obtain ⟨its, rv, ⟨o, k, ho, hc, _, hd⟩, _⟩ := I.list hk
    obtain ⟨as, q, _⟩ := readsRs I one hr rv e2
    exact ⟨_, .inl (Reads.list ho hc hd q)⟩
theorem c_in (hu : X.A.units + 65 < cLine) : OpR X (compareOp .In) (rB2 X.K inD) := by
  intro pins s σ H x y v u Q I rx ry h
  obtain ⟨c, S, d, e, b, hs, h1, h2, hF, q⟩ := h
  obtain ⟨p, ys, qs, e1, e2, e3, k1, k2, rfl⟩ := inD_of hF
  obtain ⟨as, r1⟩ := readsD I hs h1 rx e1
  obtain ⟨bs, r2 | r2⟩ := reads_items I hs h2 ry e2 e3
  · exact SeqAt.in_list_reads r2 r1 (SeqAt.canLay_of_shaped k2) (SeqAt.canLay_of_shaped k1) (room_in k1 hu) ⟨.bl _, H, I, rfl, q.here hs (.bl _)⟩
  · exact SeqAt.in_tuple_reads r2 r1 (SeqAt.canLay_of_shaped k2) (SeqAt.canLay_of_shaped k1) (room_in k1 hu) ⟨.bl _, H, I, rfl, q.here hs (.bl _)⟩
theorem c_nin (hu : X.A.units + 65 < cLine) : OpR X (compareOp .NotIn) (rB2 X.K fun S x y => (inD S x y).map (!·)) := by
  intro pins s σ H x y v u Q I rx ry h
  obtain ⟨c, S, d, e, b, hs, h1, h2, hF, q⟩ := h
  obtain ⟨b0, hF0, rfl⟩ := Option.map_eq_some_iff.mp hF
  obtain ⟨p, ys, qs, e1, e2, e3, k1, k2, rfl⟩ := inD_of hF0
  obtain ⟨as, r1⟩ := readsD I hs h1 rx e1
  obtain ⟨bs, r2 | r2⟩ := reads_items I hs h2 ry e2 e3
  · exact SeqAt.notIn_list_reads r2 r1 (SeqAt.canLay_of_shaped k2) (SeqAt.canLay_of_shaped k1) (room_in k1 hu) ⟨.bl _, H, I, rfl, q.here hs (.bl _)⟩
  · exact SeqAt.notIn_tuple_reads r2 r1 (SeqAt.canLay_of_shaped k2) (SeqAt.canLay_of_shaped k1) (room_in k1 hu) ⟨.bl _, H, I, rfl, q.here hs (.bl _)⟩
end
end RR

set_option Elab.async false
set_option linter.all false
set_option maxRecDepth 100000
set_option maxHeartbeats 1000000
namespace RR
open PySem PySem.Spec PyProof.Rows L2
section
variable {X : Cx}
def Cop.op : Cop → CmpOp
  | .eq => .Eq | .ne => .NotEq | .lt => .Lt | .le => .LtE | .gt => .Gt | .ge => .GtE | .isn => .Is | .nsn => .IsNot | .inn => .In | .nin => .NotIn
theorem isn_of {S : Store} {d e : D} {b : Bool} (h : cmpD S .isn d e = some b) : e = .non ∧ ((d = .non ∧ b = true) ∨ (d ≠ .non ∧ b = false)) := by
  cases e <;> cases d <;> simp_all [cmpD]
theorem nsn_of {S : Store} {d e : D} {b : Bool} (h : cmpD S .nsn d e = some b) : e = .non ∧ ((d = .non ∧ b = false) ∨ (d ≠ .non ∧ b = true)) := by
  cases e <;> cases d <;> simp_all [cmpD]
theorem RelD.non_iff {K : PySem.W.Frag} {c : Ct} {H : Hp} {d : D} {v : V} (r : RelD K c H d v) : v = .non ↔ d = .non := by
  cases r <;> simp
theorem ints_of {S : Store} {o : Cop} {d e : D} {b : Bool} (ho : o = .lt ∨ o = .le ∨ o = .gt ∨ o = .ge) (h : cmpD S o d e = some b) : ∃ i j, d = .int i ∧ e = .int j ∧ cmpD S o (.int i) (.int j) = some b := by
  rcases ho with rfl | rfl | rfl | rfl <;> cases d <;> cases e <;> first | exact ⟨_, _, rfl, rfl, h⟩ | (simp [cmpD] at h)
theorem c_cmp (hu : X.A.units + 65 < cLine) (o : Cop) : OpR X (compareOp o.op) (rB2 X.K fun S x y => cmpD S o x y) := by
  cases o with
  | eq => exact c_eq (by omega)
  | ne => exact c_ne (by omega)
  | inn => exact c_in hu
  | nin => exact c_nin hu
  | lt => exact c_ints op_lt fun S d e b h => by obtain ⟨i, j, rfl, rfl, h⟩ := ints_of (.inl rfl) h; exact ⟨i, j, rfl, rfl, (Option.some.inj h).symm⟩
  | le => exact c_ints op_le fun S d e b h => by obtain ⟨i, j, rfl, rfl, h⟩ := ints_of (.inr (.inl rfl)) h; exact ⟨i, j, rfl, rfl, (Option.some.inj h).symm⟩
  | gt => exact c_ints op_gt fun S d e b h => by obtain ⟨i, j, rfl, rfl, h⟩ := ints_of (.inr (.inr (.inl rfl))) h; exact ⟨i, j, rfl, rfl, (Option.some.inj h).symm⟩
  | ge => exact c_ints op_ge fun S d e b h => by obtain ⟨i, j, rfl, rfl, h⟩ := ints_of (.inr (.inr (.inr rfl))) h; exact ⟨i, j, rfl, rfl, (Option.some.inj h).symm⟩
  | isn =>
    intro pins s σ H x y v u Q I rx ry h
    obtain ⟨c, S, d, e, b, hs, h1, h2, hF, q⟩ := h
    obtain ⟨rfl, hb⟩ := isn_of hF
    cases h2
    refine op_isN pins s σ H _ _ v u Q I rx ry ⟨rfl, ?_⟩
    rcases hb with ⟨rfl, rfl⟩ | ⟨n, rfl⟩
    · cases h1; exact q.here hs (.bl _)
    · rw [decide_eq_false (fun z => n (h1.non_iff.mp z))]; exact q.here hs (.bl _)
  | nsn =>
    intro pins s σ H x y v u Q I rx ry h
    obtain ⟨c, S, d, e, b, hs, h1, h2, hF, q⟩ := h
    obtain ⟨rfl, hb⟩ := nsn_of hF
    cases h2
    refine op_notN pins s σ H _ _ v u Q I rx ry ⟨rfl, ?_⟩
    rcases hb with ⟨rfl, rfl⟩ | ⟨n, rfl⟩
    · cases h1; exact q.here hs (.bl _)
    · rw [decide_eq_false (fun z => n (h1.non_iff.mp z))]; exact q.here hs (.bl _)
/-! ### truth -/
theorem emp_of {α β : Type} {xs : List α} {ys : List β} (h : xs.length = ys.length) : xs.isEmpty = ys.isEmpty := by
  cases xs <;> cases ys <;> simp_all
theorem truV_of {K : PySem.W.Frag} {c : Ct} {H : Hp} {S : Store} {d : D} {v : V} {k : Bool} (hs : RelS K c S H) (r : RelD K c H d v) (h : truthD S d = some k) : TruV K v H k := by
  cases r with
  | non => cases h; rfl
  | bl b => cases h; rfl
  | int i => cases h; rfl
  | str x =>
    have h : (if x.length ≤ 16777216 then some ((x.length : Int) != 0) else none) = some k := h
    split at h
    · cases h; exact ⟨by rw [line_eq]; assumption, rfl⟩
    · cases h
  | tup h1 n q => cases h; exact .inr (.inl ⟨_, sqT_at h1, by rw [emp_of q.length]⟩)
  | lst h1 n z q => cases h; exact .inl ⟨_, sqL_at h1, by rw [emp_of q.length]⟩
  | scr h1 q n z => cases h; exact .inl ⟨_, q, by rw [emp_of (List.length_map _).symm]⟩
  | scK q => cases h; exact .inl ⟨_, q H, by rw [emp_of (List.length_map _).symm]⟩
  | dct h1 n z l q =>
    cases h
    refine .inr (.inr ⟨_, h1, ?_⟩)
    rw [emp_of]
    rw [List.length_zip, List.length_map, l, q.length, Nat.min_self]
  | ref hm =>
    rename_i a i
    cases q : S[i]? with
    | none => simp [truthD, q] at h
    | some o =>
      cases o with
      | lst xs =>
        simp only [truthD, q] at h
        cases h
        obtain ⟨vs, h1, h2⟩ := hs.at q hm
        exact .inl ⟨_, sqL_at h1, by rw [emp_of h2.length]⟩
/-! ### isinstance -/
def Ty.nm : Ty → String
  | .int => "int" | .bool => "bool" | .str => "str" | .tup => "tuple" | .lst => "list" | .dct => "dict"
theorem clsV_ty (n : String) : ClsV (.ty n) (.type n) := by first | exact .ty n | exact ClsV.ty | constructor
theorem isi_of {K : PySem.W.Frag} {c : Ct} {H : Hp} {S : Store} {d : D} {v : V} (hs : RelS K c S H) (r : RelD K c H d v) (t : Ty) : ∃ T, TyX K H v (.type T) ∧ kitB T t.nm = some (isiD S d t) := by
  cases r with
  | non => exact ⟨_, .base .non, by cases t <;> first | (show kitB _ _ = some true; decide +kernel) | (show kitB _ _ = some false; decide +kernel)⟩
  | bl b => exact ⟨_, .base (.bl b), by cases t <;> first | (show kitB _ _ = some true; decide +kernel) | (show kitB _ _ = some false; decide +kernel)⟩
  | int i => exact ⟨_, .base (.int i), by cases t <;> first | (show kitB _ _ = some true; decide +kernel) | (show kitB _ _ = some false; decide +kernel)⟩
  | str x => exact ⟨_, .base (.str x), by cases t <;> first | (show kitB _ _ = some true; decide +kernel) | (show kitB _ _ = some false; decide +kernel)⟩
  | tup h1 n q => exact ⟨_, .base (.tup h1), by cases t <;> first | (show kitB _ _ = some true; decide +kernel) | (show kitB _ _ = some false; decide +kernel)⟩
  | lst h1 n z q => exact ⟨_, .base (.lst h1), by cases t <;> first | (show kitB _ _ = some true; decide +kernel) | (show kitB _ _ = some false; decide +kernel)⟩
  | @scr a ns o h1 q n z =>
    have e : TyX K H (.ref a) (.type "list") := by
      rcases q with (q | ⟨o, q⟩) | ⟨o, its, k, q, hc, _⟩
      · exact .base (.lst q)
      · exact .base (.frz q)
      · exact .kList q hc
    exact ⟨_, e, by cases t <;> first | (show kitB _ _ = some true; decide +kernel) | (show kitB _ _ = some false; decide +kernel)⟩
  | @scK a ns q =>
    have e : TyX K H (.ref a) (.type "list") := by
      rcases q H with (q | ⟨o, q⟩) | ⟨o, its, k, q, hc, _⟩
      · exact .base (.lst q)
      · exact .base (.frz q)
      · exact .kList q hc
    exact ⟨_, e, by cases t <;> first | (show kitB _ _ = some true; decide +kernel) | (show kitB _ _ = some false; decide +kernel)⟩
  | dct h1 n z l q => exact ⟨_, .base (.dK h1), by cases t <;> first | (show kitB _ _ = some true; decide +kernel) | (show kitB _ _ = some false; decide +kernel)⟩
  | ref hm =>
    rename_i a i
    have hl : i < S.length := by rw [← hs.len]; exact (List.getElem?_eq_some_iff.mp hm).1
    cases q : S[i]? with
    | none => exact absurd (List.getElem?_eq_none_iff.mp q) (by omega)
    | some o =>
      cases o with
      | lst xs =>
        obtain ⟨vs, h1, h2⟩ := hs.at q hm
        refine ⟨_, .base (.lst h1), ?_⟩
        cases t <;> simp only [isiD, q] <;> first | (show kitB _ _ = some true; decide +kernel) | (show kitB _ _ = some false; decide +kernel)
/-! ### built-in functions -/
def rF (K : PySem.W.Frag) (F : Store → List D → Option D) : List V → Hp → VK → Prop := fun xs H Q => ∃ c S ds d', RelS K c S H ∧ RelDs K c H ds xs ∧ F S ds = some d' ∧ Wt K c S H d' Q
theorem one_of {K : PySem.W.Frag} {c : Ct} {H : Hp} {d : D} {xs : List V} (r : RelDs K c H [d] xs) : ∃ v, xs = [v] ∧ RelD K c H d v := by
  cases r with
  | cons r t => cases t; exact ⟨_, rfl, r⟩
theorem two_of {K : PySem.W.Frag} {c : Ct} {H : Hp} {d e : D} {xs : List V} (r : RelDs K c H [d, e] xs) : ∃ v w, xs = [v, w] ∧ RelD K c H d v ∧ RelD K c H e w := by
  cases r with
  | cons r t =>
    obtain ⟨w, rfl, q⟩ := one_of t
    exact ⟨_, _, rfl, r, q⟩
theorem intsD_of : ∀ {ds : List D} {ns : List Int}, intsD ds = some ns → ds = ns.map .int
  | [], _, h => by cases h; rfl
  | d :: ds, ns, h => by
    cases d with
    | int i =>
      obtain ⟨ms, e, rfl⟩ := Option.map_eq_some_iff.mp (show (intsD ds).map (i :: ·) = some ns from h)
      rw [intsD_of e]; rfl
    | _ => cases h
theorem blsD_of : ∀ {ds : List D} {ns : List Bool}, blsD ds = some ns → ds = ns.map .bl
  | [], _, h => by cases h; rfl
  | d :: ds, ns, h => by
    cases d with
    | bl i =>
      obtain ⟨ms, e, rfl⟩ := Option.map_eq_some_iff.mp (show (blsD ds).map (i :: ·) = some ns from h)
      rw [blsD_of e]; rfl
    | _ => cases h
theorem rel_ints {K : PySem.W.Frag} {c : Ct} {H : Hp} : ∀ {ns : List Int} {vs : List V}, RelDs K c H (ns.map .int) vs → vs = ns.map V.int
  | [], _, .nil => rfl
  | n :: ns, _, .cons r t => by cases r; rw [rel_ints t]; rfl
theorem rel_bls {K : PySem.W.Frag} {c : Ct} {H : Hp} : ∀ {ns : List Bool} {vs : List V}, RelDs K c H (ns.map .bl) vs → vs = ns.map V.bl
  | [], _, .nil => rfl
  | n :: ns, _, .cons r t => by cases r; rw [rel_bls t]; rfl
theorem listInts {K : PySem.W.Frag} {c : Ct} {H : Hp} {S : Store} {d : D} {v : V} {ns : List Int} (hs : RelS K c S H) (r : RelD K c H d v) (h : (listD S d).bind intsD = some ns) : ∃ a, v = .ref a ∧ SqL K H a (ns.map V.int) := by
  obtain ⟨xs, e1, e2⟩ := Option.bind_eq_some_iff.mp h
  obtain ⟨a, vs, rfl, q, r2⟩ := listD_at hs e1 r
  rw [intsD_of e2] at r2
  rw [rel_ints r2] at q
  exact ⟨a, rfl, q⟩
theorem listBls {K : PySem.W.Frag} {c : Ct} {H : Hp} {S : Store} {d : D} {v : V} {ns : List Bool} (hs : RelS K c S H) (r : RelD K c H d v) (h : (listD S d).bind blsD = some ns) : ∃ a, v = .ref a ∧ SqL K H a (ns.map V.bl) := by
  obtain ⟨xs, e1, e2⟩ := Option.bind_eq_some_iff.mp h
  obtain ⟨a, vs, rfl, q, r2⟩ := listD_at hs e1 r
  rw [blsD_of e2] at r2
  rw [rel_bls r2] at q
  exact ⟨a, rfl, q⟩
theorem fold_min : ∀ (xs : List Int) (x : Int), (xs.foldl (fun a b => if b < a then b else a) x ∈ x :: xs) ∧ ∀ y ∈ x :: xs, xs.foldl (fun a b => if b < a then b else a) x ≤ y
  | [], x => by simp
  | b :: xs, x => by
    obtain ⟨h1, h2⟩ := fold_min xs (if b < x then b else x)
    rw [List.foldl_cons]
    refine ⟨?_, fun y hy => ?_⟩
    · rcases List.mem_cons.mp h1 with e | e
      · rw [e]; split <;> simp
      · simp [e]
    · have h3 := h2 _ List.mem_cons_self
      rcases List.mem_cons.mp hy with rfl | hy
      · split at h3 <;> split <;> omega
      · rcases List.mem_cons.mp hy with rfl | hy
        · split at h3 <;> split <;> omega
        · exact h2 y (List.mem_cons_of_mem _ hy)
theorem fold_max : ∀ (xs : List Int) (x : Int), (xs.foldl (fun a b => if a < b then b else a) x ∈ x :: xs) ∧ ∀ y ∈ x :: xs, y ≤ xs.foldl (fun a b => if a < b then b else a) x
  | [], x => by simp
  | b :: xs, x => by
    obtain ⟨h1, h2⟩ := fold_max xs (if x < b then b else x)
    rw [List.foldl_cons]
    refine ⟨?_, fun y hy => ?_⟩
    · rcases List.mem_cons.mp h1 with e | e
      · rw [e]; split <;> simp
      · simp [e]
    · have h3 := h2 _ List.mem_cons_self
      rcases List.mem_cons.mp hy with rfl | hy
      · split at h3 <;> split <;> omega
      · rcases List.mem_cons.mp hy with rfl | hy
        · split at h3 <;> split <;> omega
        · exact h2 y (List.mem_cons_of_mem _ hy)
theorem minL_of {ns : List Int} {m : Int} (h : minL ns = some m) : m ∈ ns ∧ ∀ y ∈ ns, m ≤ y := by
  cases ns with
  | nil => cases h
  | cons x xs => cases h; exact fold_min xs x
theorem maxL_of {ns : List Int} {m : Int} (h : maxL ns = some m) : m ∈ ns ∧ ∀ y ∈ ns, y ≤ m := by
  cases ns with
  | nil => cases h
  | cons x xs => cases h; exact fold_max xs x

theorem b_len : CallR X (.builtin "len") (rF X.K fun S ds => bltD S .len ds) := by
  intro pins s σ H xs us Q I r h
  obtain ⟨c, S, ds, d', hs, h1, hF, q⟩ := h
  have gen : ∀ d, RelDs X.K c H [d] xs → ((itemsD S d).map fun xs => D.int xs.length) = some d' → wpAny (model X.prog X.w) X.A (call (.builtin "len") us) (EP X pins σ Q) X.xe s := fun d h1 hG => by
    obtain ⟨ys, e1, rfl⟩ := Option.map_eq_some_iff.mp hG
    obtain ⟨v, rfl, rd⟩ := one_of h1
    obtain ⟨a, vs, rfl, hk, hr⟩ := itemsD_at hs e1 rd
    refine call_len_seq pins s σ H _ us Q I r ⟨a, vs, rfl, ?_, by rw [← hr.length]; exact q.here hs (.int _)⟩
    rcases hk with ⟨_, hk⟩ | ⟨_, hk⟩
    · exact .inr hk
    · exact .inl hk
  cases ds with
  | nil => cases hF
  | cons d ds =>
    cases ds with
    | cons e es => cases d <;> cases hF
    | nil =>
      cases d with
      | str x =>
        have hF : (if x.length ≤ 16777216 then some (D.int x.length) else none) = some d' := hF
        split at hF
        · cases hF
          obtain ⟨v, rfl, rd⟩ := one_of h1
          cases rd
          exact call_len_str pins s σ H _ us Q I r ⟨x, rfl, by rw [line_eq]; assumption, q.here hs (.int _)⟩
        · cases hF
      | _ => exact gen _ h1 hF
theorem b_abs : CallR X (.builtin "abs") (rF X.K fun S ds => bltD S .abs ds) := by
  intro pins s σ H xs us Q I r h
  obtain ⟨c, S, ds, d', hs, h1, hF, q⟩ := h
  match ds, hF with
  | [.int i], hF =>
    cases hF
    obtain ⟨v, rfl, rd⟩ := one_of h1
    cases rd
    exact call_abs pins s σ H _ us Q I r ⟨i, rfl, q.here hs (.int _)⟩
theorem b_int : CallR X (.type "int") (rF X.K fun S ds => bltD S .int ds) := by
  intro pins s σ H xs us Q I r h
  obtain ⟨c, S, ds, d', hs, h1, hF, q⟩ := h
  match ds, hF with
  | [.int i], hF =>
    cases hF
    obtain ⟨v, rfl, rd⟩ := one_of h1
    cases rd
    exact call_int1 pins s σ H _ us Q I r (.inl ⟨i, rfl, q.here hs (.int _)⟩)
  | [.bl i], hF =>
    cases hF
    obtain ⟨v, rfl, rd⟩ := one_of h1
    cases rd
    exact call_int1 pins s σ H _ us Q I r (.inr ⟨i, rfl, q.here hs (.int _)⟩)
theorem b_str : CallR X (.type "str") (rF X.K fun S ds => bltD S .str ds) := by
  intro pins s σ H xs us Q I r h
  obtain ⟨c, S, ds, d', hs, h1, hF, q⟩ := h
  match ds, hF with
  | [.int i], hF =>
    have hF : (if i.natAbs.log2 < 1920 then some (D.str (toString i)) else none) = some d' := hF
    split at hF
    · cases hF
      obtain ⟨v, rfl, rd⟩ := one_of h1
      cases rd
      exact call_str_int pins s σ H _ us Q I r ⟨i, rfl, by assumption, q.here hs (.str _)⟩
    · cases hF
theorem b_tup : CallR X (.type "tuple") (rF X.K fun S ds => bltD S .tup ds) := by
  intro pins s σ H xs us Q I r h
  obtain ⟨c, S, ds, d', hs, h1, hF, q⟩ := h
  match ds, hF with
  | [d], hF =>
    obtain ⟨ys, e1, rfl⟩ := Option.map_eq_some_iff.mp (show (itemsD S d).map D.tup = some d' from hF)
    obtain ⟨v, rfl, rd⟩ := one_of h1
    obtain ⟨a, vs, rfl, hk, hr⟩ := itemsD_at hs e1 rd
    refine call_tuple_of pins s σ H _ us Q I r ⟨a, vs, rfl, ?_⟩
    rcases hk with ⟨⟨zs, e⟩, hk⟩ | ⟨_, hk⟩
    · subst e
      cases e1
      exact .inr ⟨hk, q.here hs rd⟩
    · exact .inl ⟨hk, q.tup hs hr⟩
theorem b_sum (hc : X.calm = true) : CallR X (.builtin "sum") (rF X.K fun S ds => bltD S .sum ds) := by
  intro pins s σ H xs us Q I r h
  obtain ⟨c, S, ds, d', hs, h1, hF, q⟩ := h
  match ds, hF with
  | [d], hF =>
    obtain ⟨ns, e1, rfl⟩ := Option.map_eq_some_iff.mp (show ((listD S d).bind intsD).map (fun ns => D.int ns.sum) = some d' from hF)
    obtain ⟨v, rfl, rd⟩ := one_of h1
    obtain ⟨a, rfl, k⟩ := listInts hs rd e1
    exact cr_sum hc pins s σ H _ us Q I r ⟨a, ns, rfl, k, q.here hs (.int _)⟩
theorem b_mn (hc : X.calm = true) : CallR X (.builtin "min") (rF X.K fun S ds => bltD S .mn ds) := by
  intro pins s σ H xs us Q I r h
  obtain ⟨c, S, ds, d', hs, h1, hF, q⟩ := h
  match ds, hF with
  | [d], hF =>
    obtain ⟨m, e0, rfl⟩ := Option.map_eq_some_iff.mp (show (((listD S d).bind intsD).bind minL).map D.int = some d' from hF)
    obtain ⟨ns, e1, e2⟩ := Option.bind_eq_some_iff.mp e0
    obtain ⟨v, rfl, rd⟩ := one_of h1
    obtain ⟨a, rfl, k⟩ := listInts hs rd e1
    obtain ⟨m1, m2⟩ := minL_of e2
    refine cr_min hc pins s σ H _ us Q I r ⟨a, ns, rfl, k, List.length_pos_of_mem m1, fun z z1 z2 => ?_⟩
    have e : z = m := Int.le_antisymm (z2 m m1) (m2 z z1)
    subst e
    exact q.here hs (.int _)
  | [.int i, .int j], hF =>
    cases hF
    obtain ⟨v, w, rfl, r1, r2⟩ := two_of h1
    cases r1
    cases r2
    exact call_min2 hc pins s σ H _ us Q I r ⟨i, j, rfl, q.here hs (.int _)⟩
theorem b_mx (hc : X.calm = true) : CallR X (.builtin "max") (rF X.K fun S ds => bltD S .mx ds) := by
  intro pins s σ H xs us Q I r h
  obtain ⟨c, S, ds, d', hs, h1, hF, q⟩ := h
  match ds, hF with
  | [d], hF =>
    obtain ⟨m, e0, rfl⟩ := Option.map_eq_some_iff.mp (show (((listD S d).bind intsD).bind maxL).map D.int = some d' from hF)
    obtain ⟨ns, e1, e2⟩ := Option.bind_eq_some_iff.mp e0
    obtain ⟨v, rfl, rd⟩ := one_of h1
    obtain ⟨a, rfl, k⟩ := listInts hs rd e1
    obtain ⟨m1, m2⟩ := maxL_of e2
    refine cr_max hc pins s σ H _ us Q I r ⟨a, ns, rfl, k, List.length_pos_of_mem m1, fun z z1 z2 => ?_⟩
    have e : z = m := Int.le_antisymm (m2 z z1) (z2 m m1)
    subst e
    exact q.here hs (.int _)
  | [.int i, .int j], hF =>
    cases hF
    obtain ⟨v, w, rfl, r1, r2⟩ := two_of h1
    cases r1
    cases r2
    exact call_max2 hc pins s σ H _ us Q I r ⟨i, j, rfl, q.here hs (.int _)⟩
theorem b_any (hc : X.calm = true) : CallR X (.builtin "any") (rF X.K fun S ds => bltD S .any ds) := by
  intro pins s σ H xs us Q I r h
  obtain ⟨c, S, ds, d', hs, h1, hF, q⟩ := h
  match ds, hF with
  | [d], hF =>
    obtain ⟨ns, e1, rfl⟩ := Option.map_eq_some_iff.mp (show ((listD S d).bind blsD).map (fun ns => D.bl (ns.any id)) = some d' from hF)
    obtain ⟨v, rfl, rd⟩ := one_of h1
    obtain ⟨a, rfl, k⟩ := listBls hs rd e1
    exact cr_any hc pins s σ H _ us Q I r ⟨a, ns, rfl, k, q.here hs (.bl _)⟩
theorem b_all (hc : X.calm = true) : CallR X (.builtin "all") (rF X.K fun S ds => bltD S .all ds) := by
  intro pins s σ H xs us Q I r h
  obtain ⟨c, S, ds, d', hs, h1, hF, q⟩ := h
  match ds, hF with
  | [d], hF =>
    obtain ⟨ns, e1, rfl⟩ := Option.map_eq_some_iff.mp (show ((listD S d).bind blsD).map (fun ns => D.bl (ns.all id)) = some d' from hF)
    obtain ⟨v, rfl, rd⟩ := one_of h1
    obtain ⟨a, rfl, k⟩ := listBls hs rd e1
    exact cr_all hc pins s σ H _ us Q I r ⟨a, ns, rfl, k, q.here hs (.bl _)⟩
theorem reprD_of {S : Store} {d : D} {x : Str} (h : reprD S d = some x) : ∃ p, pyD S d = some p ∧ x = p.shown ∧ p.showable = true ∧ p.shown.length ≤ 16777216 ∧ p.depth ≤ 64 := by
  unfold reprD at h
  split at h
  · rename_i p e
    split at h
    · rename_i hk
      cases h
      exact ⟨p, e, rfl, hk⟩
    · cases h
  · cases h
theorem b_repr (hg : X.A.guards = some []) (hu : X.A.units + 65 < cLine) : CallR X (.builtin "repr") (rF X.K fun S ds => bltD S .repr ds) := by
  intro pins s σ H xs us Q I r h
  obtain ⟨c, S, ds, d', hs, h1, hF, q⟩ := h
  match ds, hF with
  | [d], hF =>
    obtain ⟨x, e1, rfl⟩ := Option.map_eq_some_iff.mp (show (reprD S d).map D.str = some d' from hF)
    obtain ⟨p, e2, rfl, k1, k2, k3⟩ := reprD_of e1
    obtain ⟨v, rfl, rd⟩ := one_of h1
    obtain ⟨u, rfl, rv⟩ := vals1 r
    obtain ⟨as, rr, dk⟩ := readsK I hs rd rv e2
    have fin : ∀ {h' : Heap} {t : Tok} {tk : Nat}, (∀ b o, s.heap.get? b = some o → h'.get? b = some o) → EP X pins σ Q (.str p.shown t) { s with heap := h', toks := tk } := fun {h' t tk} hk =>
      ⟨.str p.shown, H, I.kept hk, ⟨_, rfl⟩, q.here hs (.str _)⟩
    cases rr with
    | none => exact PySem.P.repr_of_none (fin fun _ _ e => e)
    | bool b => exact PySem.P.repr_of_bool (fin fun _ _ e => e)
    | int i t => exact PySem.P.repr_of_int (by simpa [PyData.showable] using k1) (fin fun _ _ e => e)
    | str z t => exact PySem.P.repr_of_str (fin fun _ _ e => e) (by rw [line_eq]; exact k2)
    | list a1 a2 a3 a4 => exact rk_repr (Reads.list a1 a2 a3 a4) k1 dk (by rw [line_eq]; exact k2) hg (by omega) (fun h' u tk hk => fin hk)
    | tuple a1 a2 a3 a4 => exact rk_repr (Reads.tuple a1 a2 a3 a4) k1 dk (by rw [line_eq]; exact k2) hg (by omega) (fun h' u tk hk => fin hk)
    | dict a1 a2 a3 a4 a5 => exact rk_repr (Reads.dict a1 a2 a3 a4 a5) k1 dk (by rw [line_eq]; exact k2) hg (by omega) (fun h' u tk hk => fin hk)
end
end RR

set_option Elab.async false
set_option linter.all false
set_option maxRecDepth 100000
set_option maxHeartbeats 1000000
/-! indexes, slices, stores, methods; new lists; sources -/
namespace RR
open PySem PySem.Spec PyProof.Rows L2
section
variable {X : Cx}
theorem cutL_cutV (xs : List V) (lo hi : Option Int) : cutV xs lo hi = cutL xs lo hi := rfl
theorem rel_cut {K : PySem.W.Frag} {c : Ct} {H : Hp} {ds : List D} {vs : List V} (r : RelDs K c H ds vs) (lo hi : Option Int) : RelDs K c H (cutL ds lo hi) (cutL vs lo hi) := by
  unfold cutL
  rw [← r.length]
  exact (r.drop _).take _
theorem atI_rel {K : PySem.W.Frag} {c : Ct} {H : Hp} {ds : List D} {vs : List V} {i : Int} {d : D} (r : RelDs K c H ds vs) (h : atI ds i = some d) : ∃ v, atI vs i = some v ∧ RelD K c H d v := by
  unfold atI at h ⊢
  obtain ⟨j, h1, h2⟩ := Option.bind_eq_some_iff.mp h
  obtain ⟨v, h3, h4⟩ := r.get h2
  refine ⟨v, ?_, h4⟩
  rw [← r.length, h1]
  exact h3
theorem i_ix : IxR X (rD2 X.K ixD) := by
  intro value slice pins s σ H x y v u Q I rx ry h hsub
  obtain ⟨c, S, d, e, d', hs, h1, h2, hF, q⟩ := h
  cases h2 with
  | int i =>
    have hF : ixD S d (.int i) = some d' := hF
    simp only [ixD] at hF
    split at hF
    · rename_i xs e1
      obtain ⟨a, vs, rfl, hk, hr⟩ := itemsD_at hs e1 h1
      obtain ⟨w, hw, rw'⟩ := atI_rel hr hF
      refine ix_seq value slice pins s σ H _ _ v u Q I rx ry ?_ hsub
      rcases hk with ⟨_, hk⟩ | ⟨_, hk⟩
      · exact .inr (.inl ⟨a, vs, i, w, rfl, rfl, hk, hw, q.here hs rw'⟩)
      · exact .inl ⟨a, vs, i, w, rfl, rfl, hk, hw, q.here hs rw'⟩
    · split at hF
      · rename_i z _ _
        cases h1
        split at hF
        · obtain ⟨k, e2, rfl⟩ := Option.map_eq_some_iff.mp hF
          exact ix_seq value slice pins s σ H _ _ v u Q I rx ry (.inr (.inr ⟨z, i, k, rfl, rfl, by rw [line_eq]; assumption, e2, q.here hs (.str _)⟩)) hsub
        · cases hF
      · cases hF
  | _ => cases hF
/-- a slice's reading -/
def rSl (K : PySem.W.Frag) : V → Option Int → Option Int → Hp → VK → Prop := fun x lo hi H Q => ∃ c S d d', RelS K c S H ∧ RelD K c H d x ∧ slcO S d lo hi = some d' ∧ Wt K c S H d' Q
theorem i_slc : SlR X (rSl X.K) := by
  intro pins s σ H x v vl vu lo hi sl Q I rx hs pl pu h
  obtain ⟨c, S, d, d', ok, h1, hF, q⟩ := h
  have gen : (listD S d).map (fun xs => D.lst (cutL xs lo hi)) = some d' → ∃ T id, typeLookup (.type T) "__getitem__" = pure (some (.builtin id)) ∧ s.TypeIs v T ∧ wpAny (model X.prog X.w) X.A (getItem v (.ref sl)) (EP X pins σ Q) X.xe s := fun hF => by
    obtain ⟨xs, e1, rfl⟩ := Option.map_eq_some_iff.mp hF
    obtain ⟨a, vs, rfl, hk, hr⟩ := listD_at ok e1 h1
    exact sl_list pins s σ H _ v vl vu lo hi sl Q I rx hs pl pu ⟨a, vs, rfl, hk, q.lst ok (rel_cut hr lo hi)⟩
  cases h1 with
  | tup a1 a2 a3 =>
    rename_i a ds vs
    cases hF
    refine sl_tupA pins s σ H _ v vl vu lo hi sl Q I rx hs pl pu ⟨a, vs, rfl, sqT_at a1, fun hw => ?_, fun _ => q.tup ok (rel_cut a3 lo hi)⟩
    have e : cutL ds lo hi = ds := by
      unfold cutL
      rw [a3.length, hw.1, hw.2, List.drop_zero, Nat.sub_zero, ← a3.length, List.take_length]
    rw [e] at q
    exact q.here ok (.tup a1 a2 a3)
  | _ => exact gen hF
/-- o[i] = v -/
theorem i_set {Z : Se} : PSet X (fun o i v H Q => ∃ c S d e f S', RelS Z.K c S H ∧ RelD Z.K c H d o ∧ RelD Z.K c H e i ∧ RelD Z.K c H f v ∧ subD S d e f = some S' ∧ ∀ c' H', Ext c H c' H' → RelS Z.K c' S' H' → Q H') := by
  intro pins s σ H o i v ov iv u Q I r1 r2 r3 h
  obtain ⟨c, S, d, e, f, S', hs, h1, h2, h3, hF, q⟩ := h
  unfold subD at hF
  split at hF
  · rename_i a k
    split at hF
    · rename_i xs e1
      obtain ⟨j, e2, rfl⟩ := Option.map_eq_some_iff.mp hF
      cases h1 with
      | @ref b _ hm =>
        cases h2
        obtain ⟨vs, g1, g2⟩ := hs.at e1 hm
        exact set_list pins s σ H _ _ v ov iv u Q I r1 r2 r3 ⟨b, vs, k, j, rfl, rfl, g1, by rw [← g2.length]; exact e2, q c _ (Ext.put hs hm) (hs.put e1 hm (g2.set h3 j))⟩
    · cases hF
  · cases hF
/-- the built-in methods -/
def rM (Z : Se) (F : Store → D → List D → R D) : V → List V → Hp → VK → Prop := fun x xs H Q => ∃ c S d ds σ, RelS Z.K c S H ∧ RelD Z.K c H d x ∧ RelDs Z.K c H ds xs ∧ Post Z (RelD Z.K) (F S d ds) c σ H Q
theorem m_append {Z : Se} : MtM X "list.append" (rM Z fun S x xs => metD S .append x xs) := by
  intro pins s σ H x vs v us Q I rx rv h
  obtain ⟨c, S, d, ds, σ', hs, h1, h2, hp⟩ := h
  cases d with
  | ref i =>
    cases ds with
    | nil => exact hp.elim
    | cons e es =>
      cases es with
      | cons _ _ => exact hp.elim
      | nil =>
        cases q : S[i]? with
        | none => simp [metD, q, Post] at hp
        | some o =>
          cases o with
          | lst xs =>
            simp only [metD, q] at hp
            split at hp
            · rename_i hz
              obtain ⟨w, rfl, rw'⟩ := one_of h2
              cases h1 with
              | @ref a _ hm =>
                obtain ⟨ws, g1, g2⟩ := hs.at q hm
                refine mt_append pins s σ H _ _ v us Q I rx rv ⟨a, ws, w, rfl, rfl, g1, by rw [line_eq, ← g2.length]; exact hz, ?_⟩
                exact hp c _ _ (Ext.put hs hm) (hs.put q hm (g2.append (.cons rw' .nil))) .non
            · exact hp.elim
  | _ => exact (by cases ds with
      | nil => exact hp.elim
      | cons e es => cases es <;> exact hp.elim)
theorem m_extend {Z : Se} : MtM X "list.extend" (rM Z fun S x xs => metD S .extend x xs) := by
  intro pins s σ H x vs v us Q I rx rv h
  obtain ⟨c, S, d, ds, σ', hs, h1, h2, hp⟩ := h
  cases d with
  | ref i =>
    cases ds with
    | nil => exact hp.elim
    | cons e es =>
      cases es with
      | cons _ _ => exact hp.elim
      | nil =>
        cases q : S[i]? with
        | none => simp [metD, q, Post] at hp
        | some o =>
          cases o with
          | lst xs =>
            cases q2 : lsD S e with
            | none => simp [metD, q, q2, Post] at hp
            | some ys =>
              simp only [metD, q, q2] at hp
              split at hp
              · rename_i hz
                obtain ⟨w, rfl, rw'⟩ := one_of h2
                obtain ⟨b, bs, rfl, g3, g4⟩ := lsD_at hs q2 rw'
                cases h1 with
                | @ref a _ hm =>
                  obtain ⟨ws, g1, g2⟩ := hs.at q hm
                  refine mt_extend pins s σ H _ _ v us Q I rx rv ⟨a, b, ws, bs, rfl, rfl, g1, g3, by rw [line_eq, ← g2.length, ← g4.length]; exact hz, ?_⟩
                  exact hp c _ _ (Ext.put hs hm) (hs.put q hm (g2.append g4)) .non
              · exact hp.elim
  | _ => exact (by cases ds with
      | nil => exact hp.elim
      | cons e es => cases es <;> exact hp.elim)
theorem getLast_len {α : Type} {xs : List α} {d : α} (h : xs.getLast? = some d) : xs[xs.length - 1]? = some d := by
  rw [List.getLast?_eq_getElem?] at h
  exact h
theorem RelDs.dropLast {K : PySem.W.Frag} {c : Ct} {H : Hp} {ds : List D} {vs : List V} (r : RelDs K c H ds vs) : RelDs K c H ds.dropLast vs.dropLast := by
  rw [List.dropLast_eq_take, List.dropLast_eq_take, ← r.length]
  exact r.take _
theorem m_pop {Z : Se} : MtM X "list.pop" (rM Z fun S x xs => metD S .pop x xs) := by
  intro pins s σ H x vs v us Q I rx rv h
  obtain ⟨c, S, d, ds, σ', hs, h1, h2, hp⟩ := h
  cases d with
  | ref i =>
    cases ds with
    | cons e es => exact hp.elim
    | nil =>
      cases q : S[i]? with
      | none => simp [metD, q, Post] at hp
      | some o =>
        cases o with
        | lst xs =>
          cases q2 : xs.getLast? with
          | none => simp [metD, q, q2, Post] at hp
          | some e =>
            simp only [metD, q, q2] at hp
            cases h2
            cases h1 with
            | @ref a _ hm =>
              obtain ⟨ws, g1, g2⟩ := hs.at q hm
              obtain ⟨w, g3, g4⟩ := g2.get (getLast_len q2)
              refine mt_pop pins s σ H _ _ v us Q I rx rv ⟨a, ws, w, rfl, rfl, g1, by rw [← g2.length]; exact g3, ?_⟩
              exact hp c _ _ (Ext.put hs hm) (hs.put q hm g2.dropLast) (g4.ext (Ext.put hs hm))
  | _ => cases ds <;> exact hp.elim
end
end RR

set_option Elab.async false
set_option linter.all false
set_option maxRecDepth 100000
set_option maxHeartbeats 1000000
/-! expressions, one by one -/
namespace RR
open PySem PySem.Spec PyProof.Rows L2
abbrev Zx (X : Cx) (W : WX) : Se := ⟨X.K, X.mg, W⟩
/-! ### the tree -/
def noStar : Expr → Bool
  | .Starred _ _ => false
  | _ => true
def noSet : Expr → Bool
  | .Set _ _ _ => false
  | _ => true
def noSlice : Expr → Bool
  | .Slice _ _ _ _ => false
  | _ => true
theorem star_cons {e : Expr} {es : List Expr} {env : PySem.Env} (h : noStar e = true) : starEach (e :: es) env = (false, eval e env) :: starEach es env := by
  cases e <;> first | rfl | cases h
theorem star_any {env : PySem.Env} {pos : Pos} : ∀ {es : List Expr}, es.all noStar = true → (backTo pos (starEach es env)).any (·.1) = false
  | [], _ => rfl
  | e :: es, h => by
    obtain ⟨h1, h2⟩ := Bool.and_eq_true_iff.mp (show (noStar e && es.all noStar) = true from h)
    rw [star_cons h1]
    show (false || (backTo pos (starEach es env)).any (·.1)) = false
    rw [star_any h2]; rfl
theorem star_few {env : PySem.Env} {pos : Pos} : ∀ {es : List Expr}, es.all noStar = true → (backTo pos (starEach es env)).all (fun x => !x.1) = true
  | [], _ => rfl
  | e :: es, h => by
    obtain ⟨h1, h2⟩ := Bool.and_eq_true_iff.mp (show (noStar e && es.all noStar) = true from h)
    rw [star_cons h1]
    show (true && (backTo pos (starEach es env)).all (fun x => !x.1)) = true
    rw [star_few h2]; rfl
theorem mark_no {op : CmpOp} {b : Expr} (h : noSet b = true) : behindInMarks op b = false := by
  cases b <;> first | rfl | cases h
theorem ix_plain {b : Expr} (h : noSlice b = true) : PlainIx b := by
  intro o i
  cases b <;> first | rfl | cases h
section
variable {X : Cx} {W : WX} {a b e : Expr} {es : List Expr} {f g k : Env → Store → R D} {fs : Env → Store → R (List D)} {pos : Pos}
theorem Post.here {α β : Type} {Z : Se} {Rl : Ct → Hp → α → β → Prop} {d : α} {v : β} {c : Ct} {S : Store} {H : Hp} {σ : L2.St} {Q : β → Hp → Prop} (h : Post Z Rl (.ok d S) c σ H Q) (s : RelS Z.K c S H) (r : Rl c H d v) : Q v H := h c v H Ext.refl s r
theorem Post.wt {Z : Se} {d : D} {c : Ct} {S : Store} {H : Hp} {σ : L2.St} {Q : VK} (h : Post Z (RelD Z.K) (.ok d S) c σ H Q) : Wt Z.K c S H d Q := h
/-- a value that is at hand -/
theorem so_val {d : D} {v : V} {t : TE} (h : PE X e t) (ht : ∀ σ H Q, Q v H → t σ H Q) (hv : ∀ c H, RelD X.K c H d v) : PE X e (TX (Zx X W) fun _ S => .ok d S) :=
  PE.of h fun σ H Q ⟨c, r, S, s, e, p⟩ => ht _ _ _ (p.here s (hv c H))
theorem so_non {j : Nat} : PE X (.Constant .none j pos) (TX (Zx X W) fun _ S => .ok .non S) := so_val (v := .non) pe_non (fun _ _ _ h => h) fun _ _ => .non
theorem so_bl {j : Nat} {x : Bool} : PE X (.Constant (.bool x) j pos) (TX (Zx X W) fun _ S => .ok (.bl x) S) := so_val (v := .bl x) pe_bl (fun _ _ _ h => h) fun _ _ => .bl _
theorem so_int {j : Nat} {x : Int} : PE X (.Constant (.int x) j pos) (TX (Zx X W) fun _ S => .ok (.int x) S) := so_val (v := .int x) pe_int (fun _ _ _ h => h) fun _ _ => .int _
theorem so_str {j : Nat} {x : Str} : PE X (.Constant (.str x) j pos) (TX (Zx X W) fun _ S => .ok (.str x) S) := so_val (v := .str x) pe_str (fun _ _ _ h => h) fun _ _ => .str _
theorem so_var {i : Nat} {x : Str} (hN : X.N[i]? = some x) (hv : Vis X.env.scope x) (hd : (x == ("__debug__" : Str)) = false) (hcd : (x == ("__classdict__" : Str)) = false) : PE X (.Name x pos) (TX (Zx X W) fun r S => .opt (look r i) S) :=
  PE.of (pe_var hN hv hd hcd) fun σ H Q ⟨c, r, S, s, e, p⟩ => by
    obtain ⟨d, h1, p⟩ := Post.opt p
    obtain ⟨v, h2, h3⟩ := e.at_ i d h1
    exact ⟨v, h2, p.here s h3⟩
theorem so_con {x : Str} {d : D} {v : V} {u : Value} (hg : Gl X x) (hm : X.mg x = some u) (r : RelV v u) (hv : ∀ c H, RelD X.K c H d v) (hd : (x == ("__debug__" : Str)) = false) : PE X (.Name x pos) (TX (Zx X W) fun _ S => .ok d S) :=
  so_val (v := v) (pe_glob hg hm r hd) (fun _ _ _ h => h) hv
theorem so_bin (o : Bop) (ha : PE X a (TX (Zx X W) f)) (hb : PE X b (TX (Zx X W) g)) :
    PE X (.BinOp a o.op b pos) (TX (Zx X W) fun r S => (f r S).bnd fun x S1 => (g r S1).bnd fun y S2 => .opt (binD S2 o x y) S2) :=
  PE.of (pe_op (o_bin o) ha hb) fun σ H Q ⟨c, r, S, s, e, p⟩ => by
    refine TXg.bnd s e p fun x S1 c1 v H1 _ s1 e1 r1 p1 => TXg.bnd s1 e1 p1 fun y S2 c2 u H2 x2 s2 e2 r2 p2 => ?_
    obtain ⟨d, hd, p2⟩ := Post.opt p2
    exact ⟨c2, S2, x, y, d, s2, r1.ext x2, r2, hd, p2⟩
theorem so_neg (ha : PE X a (TX (Zx X W) f)) : PE X (.UnaryOp .USub a pos) (TX (Zx X W) fun r S => (f r S).bnd fun x S1 => (match x with
    | .int i => .ok (.int (-i)) S1
    | _ => .bad)) :=
  PE.of (pe_un un_neg ha) fun σ H Q ⟨c, r, S, s, e, p⟩ => by
    refine TXg.bnd s e p fun x S1 c1 v H1 _ s1 e1 r1 p1 => ?_
    cases r1 with
    | int i => exact ⟨i, rfl, p1.here s1 (.int _)⟩
    | _ => exact p1.elim
theorem so_cmp (hu : X.A.units + 65 < cLine) (o : Cop) (ha : PE X a (TX (Zx X W) f)) (hb : PE X b (TX (Zx X W) g)) (hs : noSet b = true) :
    PE X (.Compare a [o.op] [b] pos) (TX (Zx X W) fun r S => (f r S).bnd fun x S1 => (g r S1).bnd fun y S2 => .opt ((cmpD S2 o x y).map .bl) S2) :=
  PE.of (pe_cmpR (c_cmp hu o) ha hb (mark_no hs)) fun σ H Q ⟨c, r, S, s, e, p⟩ => by
    refine TXg.bnd s e p fun x S1 c1 v H1 _ s1 e1 r1 p1 => TXg.bnd s1 e1 p1 fun y S2 c2 u H2 x2 s2 e2 r2 p2 => ?_
    obtain ⟨d, hd, p2⟩ := Post.opt p2
    obtain ⟨k, hk, rfl⟩ := Option.map_eq_some_iff.mp hd
    exact ⟨c2, S2, x, y, k, s2, r1.ext x2, r2, hk, p2⟩
theorem so_chn (hu : X.A.units + 65 < cLine) (o q : Cop) {c : Expr} (ha : PE X a (TX (Zx X W) f)) (hb : PE X b (TX (Zx X W) g)) (hc : PE X c (TX (Zx X W) k)) (hs : noSet c = true) :
    PE X (.Compare a [o.op, q.op] [b, c] pos) (TX (Zx X W) fun r S => (f r S).bnd fun x S1 => (g r S1).bnd fun y S2 => (match cmpD S2 o x y with
      | some true => (k r S2).bnd fun z S3 => .opt ((cmpD S3 q y z).map .bl) S3
      | some false => .ok (.bl false) S2
      | none => .bad)) :=
  PE.of (pe_chain (c_cmp hu o) (c_cmp hu q) ha hb hc (mark_no hs)) fun σ H Q ⟨c, r, S, s, e, p⟩ => by
    refine TXg.bnd s e p fun x S1 c1 v H1 _ s1 e1 r1 p1 => TXg.bnd s1 e1 p1 fun y S2 c2 u H2 x2 s2 e2 r2 p2 => ?_
    cases q1 : cmpD S2 o x y with
    | none => rw [q1] at p2; exact p2.elim
    | some t =>
      rw [q1] at p2
      refine ⟨c2, S2, x, y, t, s2, r1.ext x2, r2, q1, fun c3 w H3 x3 s3 r3 => ?_⟩
      cases r3
      refine ⟨t, rfl, ?_⟩
      have p3 := Post.ext x3 p2
      have e3 := e2.ext x3
      cases t with
      | false =>
        rw [if_neg Bool.false_ne_true]
        exact p3.here s3 (.bl _)
      | true =>
        rw [if_pos rfl]
        refine TXg.bnd s3 e3 p3 fun z S4 c4 w H4 x4 s4 e4 r4 p4 => ?_
        obtain ⟨d, hd, p4⟩ := Post.opt p4
        obtain ⟨k2, hk, rfl⟩ := Option.map_eq_some_iff.mp hd
        exact ⟨c4, S4, y, z, k2, s4, (r2.ext x3).ext x4, r4, hk, p4⟩
theorem so_nt (ha : PE X a (TX (Zx X W) f)) : PE X (.UnaryOp .Not a pos) (TX (Zx X W) fun r S => (f r S).bnd fun x S1 => .opt ((truthD S1 x).map fun b => .bl (!b)) S1) :=
  PE.of (pe_notT ha) fun σ H Q ⟨c, r, S, s, e, p⟩ => by
    refine TXg.bnd s e p fun x S1 c1 v H1 _ s1 e1 r1 p1 => ?_
    obtain ⟨d, hd, p1⟩ := Post.opt p1
    obtain ⟨k, hk, rfl⟩ := Option.map_eq_some_iff.mp hd
    exact ⟨k, truV_of s1 r1 hk, p1.here s1 (.bl _)⟩
theorem so_an {rest : List Expr} (ha : PE X a (TX (Zx X W) f)) (hb : PE X (.BoolOp .And (b :: rest) pos) (TX (Zx X W) g)) :
    PE X (.BoolOp .And (a :: b :: rest) pos) (TX (Zx X W) fun r S => (f r S).bnd fun x S1 => (match truthD S1 x with
      | some true => g r S1
      | some false => .ok x S1
      | none => .bad)) :=
  PE.of (pe_andT ha hb) fun σ H Q ⟨c, r, S, s, e, p⟩ => by
    refine TXg.bnd s e p fun x S1 c1 v H1 _ s1 e1 r1 p1 => ?_
    cases q : truthD S1 x with
    | none => rw [q] at p1; exact p1.elim
    | some t =>
      rw [q] at p1
      refine ⟨t, truV_of s1 r1 q, ?_⟩
      cases t with
      | true => rw [if_pos rfl]; exact ⟨c1, r, S1, s1, e1, p1⟩
      | false => rw [if_neg Bool.false_ne_true]; exact p1.here s1 r1
theorem so_or {rest : List Expr} (ha : PE X a (TX (Zx X W) f)) (hb : PE X (.BoolOp .Or (b :: rest) pos) (TX (Zx X W) g)) :
    PE X (.BoolOp .Or (a :: b :: rest) pos) (TX (Zx X W) fun r S => (f r S).bnd fun x S1 => (match truthD S1 x with
      | some true => .ok x S1
      | some false => g r S1
      | none => .bad)) :=
  PE.of (pe_orT ha hb) fun σ H Q ⟨c, r, S, s, e, p⟩ => by
    refine TXg.bnd s e p fun x S1 c1 v H1 _ s1 e1 r1 p1 => ?_
    cases q : truthD S1 x with
    | none => rw [q] at p1; exact p1.elim
    | some t =>
      rw [q] at p1
      refine ⟨t, truV_of s1 r1 q, ?_⟩
      cases t with
      | true => rw [if_pos rfl]; exact p1.here s1 r1
      | false => rw [if_neg Bool.false_ne_true]; exact ⟨c1, r, S1, s1, e1, p1⟩
theorem so_ix (ha : PE X a (TX (Zx X W) f)) (hb : PE X b (TX (Zx X W) g)) (hs : noSlice b = true) :
    PE X (.Subscript a b pos) (TX (Zx X W) fun r S => (f r S).bnd fun x S1 => (g r S1).bnd fun y S2 => .opt (ixD S2 x y) S2) :=
  PE.of (pe_ix i_ix ha hb (ix_plain hs)) fun σ H Q ⟨c, r, S, s, e, p⟩ => by
    refine TXg.bnd s e p fun x S1 c1 v H1 _ s1 e1 r1 p1 => TXg.bnd s1 e1 p1 fun y S2 c2 u H2 x2 s2 e2 r2 p2 => ?_
    obtain ⟨d, hd, p2⟩ := Post.opt p2
    exact ⟨c2, S2, x, y, d, s2, r1.ext x2, r2, hd, p2⟩
/-- a slice's bound: left out, or an expression -/
def TXo (Z : Se) (f : Env → Store → R (Option Int)) : TO := fun σ H Q => TXg Z (fun _ _ (d o : Option Int) => d = o) f σ H Q
theorem so_pn : PO X none (TXo (Zx X W) fun _ S => .ok none S) := by
  refine ⟨fun pins s σ H Q I ⟨c, r, S, s1, e1, p⟩ => po_none.run pins s σ H Q I (p.here s1 rfl)⟩
theorem so_po (ha : PE X a (TX (Zx X W) f)) : PO X (some a) (TXo (Zx X W) fun r S => (f r S).bnd (bndI false)) := by
  refine ⟨fun pins s σ H Q I ⟨c, r, S, s1, e1, p⟩ => (po_some ha).run pins s σ H Q I ?_⟩
  refine TXg.bnd s1 e1 p fun x S1 c1 v H1 _ s1 e1 r1 p1 => ?_
  cases r1 with
  | int i => exact ⟨i, rfl, p1.here s1 rfl⟩
  | _ => exact p1.elim
theorem so_slc {lo hi : Option Expr} {g h : Env → Store → R (Option Int)} {p2 : Pos} (ha : PE X a (TX (Zx X W) f)) (hl : PO X lo (TXo (Zx X W) g)) (hh : PO X hi (TXo (Zx X W) h)) :
    PE X (.Subscript a (.Slice lo hi none p2) pos) (TX (Zx X W) fun r S => (f r S).bnd fun x S1 => (g r S1).bnd fun l S2 => (h r S2).bnd fun u S3 => .opt (slcO S3 x l u) S3) :=
  PE.of (pe_slice i_slc ha hl hh) fun σ H Q ⟨c, r, S, s, e, p⟩ => by
    refine TXg.bnd s e p fun x S1 c1 v H1 _ s1 e1 r1 p1 => TXg.bnd s1 e1 p1 fun l S2 c2 l' H2 x2 s2 e2 r2 p2 => TXg.bnd s2 e2 p2 fun u S3 c3 u' H3 x3 s3 e3 r3 p3 => ?_
    obtain ⟨d, hd, p3⟩ := Post.opt p3
    subst r2 r3
    exact ⟨c3, S3, x, d, s3, (r1.ext x2).ext x3, hd, p3⟩
theorem so_rev {kk : Nat} {q1 q2 q3 : Pos} (ha : PE X a (TX (Zx X W) f)) :
    PE X (.Subscript a (.Slice none none (some (.UnaryOp .USub (.Constant (.int 1) kk q1) q2)) q3) pos) (TX (Zx X W) fun r S => (f r S).bnd fun x S1 => .opt (revD S1 x) S1) :=
  PE.of (pe_revL ha) fun σ H Q ⟨c, r, S, s, e, p⟩ => by
    refine TXg.bnd s e p fun x S1 c1 v H1 _ s1 e1 r1 p1 => ?_
    obtain ⟨d, hd, p1⟩ := Post.opt p1
    obtain ⟨xs, hx, rfl⟩ := Option.map_eq_some_iff.mp hd
    obtain ⟨z, vs, rfl, h1, h2⟩ := listD_at s1 hx r1
    exact ⟨z, vs, rfl, h1, Wt.lst p1 s1 h2.reverse⟩
/-! ### argument lists, displays, calls -/
theorem so_anil : PA X [] (TXs (Zx X W) fun _ S => .ok [] S) := PA.of pa_nil fun σ H Q ⟨c, r, S, s, e, p⟩ => p.here s .nil
theorem so_acons (ha : PE X a (TX (Zx X W) f)) (hr : PA X es (TXs (Zx X W) fs)) (hs : noStar a = true) :
    PA X (a :: es) (TXs (Zx X W) fun r S => (f r S).bnd fun x S1 => (fs r S1).bnd fun xs S2 => .ok (x :: xs) S2) :=
  PA.of (pa_cons ha hr (star_cons hs)) fun σ H Q ⟨c, r, S, s, e, p⟩ => by
    refine TXg.bnd s e p fun x S1 c1 v H1 _ s1 e1 r1 p1 => TXg.bnd s1 e1 p1 fun xs S2 c2 vs H2 x2 s2 e2 r2 p2 => ?_
    exact p2.here s2 (.cons (r1.ext x2) r2)
theorem so_tup {kk : Nat} (ha : PA X es (TXs (Zx X W) fs)) (hl : ∀ r S xs S1, fs r S = .ok xs S1 → xs.length ≤ 16777216) : PE X (.Tuple es kk pos) (TX (Zx X W) fun r S => (fs r S).bnd fun xs S1 => .ok (.tup xs) S1) :=
  PE.of (pe_tup ha) fun σ H Q ⟨c, r, S, s, e, p⟩ => by
    have p : Post (Zx X W) (RelD X.K) ((fs r S).bnd fun xs S1 => .ok (.tup xs) S1) c σ H Q := p
    refine ⟨c, r, S, s, e, ?_⟩
    cases q : fs r S with
    | ok xs S1 =>
      rw [q] at p
      intro c1 vs H1 x1 s1 r1
      refine ⟨by rw [line_eq, ← r1.length]; exact hl _ _ _ _ q, ?_⟩
      exact Wt.tup (Post.wt (Post.ext x1 p)) s1 r1
    | exc nm fl S1 => rw [q] at p; exact p
    | bad => rw [q] at p; exact p
/-- a built-in function, a built-in type, with arguments -/
theorem so_blt {x : Str} {id : String} {F : Store → List D → Option D} {p : Pos} (hc : CallR X (.builtin id) (rF X.K F)) (hg : Gl X x) (hm : X.mg x = none) (hv : bootBuiltins x = some (.builtin id)) (ha : PA X (a :: es) (TXs (Zx X W) fs))
    (hs : (a :: es).all noStar = true) (hn : x ≠ "__name__") (hdb : (x == ("__debug__" : Str)) = false) : PE X (.Call (.Name x p) (a :: es) [] pos) (TX (Zx X W) fun r S => (fs r S).bnd fun xs S1 => .opt (F S1 xs) S1) := by
  obtain ⟨h1, h2⟩ := Bool.and_eq_true_iff.mp (show (noStar a && es.all noStar) = true from hs)
  exact PE.of (pe_callB hc hg hm hv ha hn hdb (star_cons h1) (star_any h2)) fun σ H Q ⟨c, r, S, s, e, p⟩ => by
    refine TXg.bnd s e p fun x S1 c1 v H1 _ s1 e1 r1 p1 => ?_
    obtain ⟨d, hd, p1⟩ := Post.opt p1
    exact ⟨c1, S1, x, d, s1, r1, hd, p1⟩
theorem so_blT {x : Str} {id : String} {F : Store → List D → Option D} {p : Pos} (hc : CallR X (.type id) (rF X.K F)) (hg : Gl X x) (hm : X.mg x = none) (hv : bootBuiltins x = some (.type id)) (ha : PA X (a :: es) (TXs (Zx X W) fs))
    (hs : (a :: es).all noStar = true) (hn : x ≠ "__name__") (hdb : (x == ("__debug__" : Str)) = false) : PE X (.Call (.Name x p) (a :: es) [] pos) (TX (Zx X W) fun r S => (fs r S).bnd fun xs S1 => .opt (F S1 xs) S1) := by
  obtain ⟨h1, h2⟩ := Bool.and_eq_true_iff.mp (show (noStar a && es.all noStar) = true from hs)
  exact PE.of (pe_callTy hc hg hm hv ha hn hdb (star_cons h1) (star_any h2)) fun σ H Q ⟨c, r, S, s, e, p⟩ => by
    refine TXg.bnd s e p fun x S1 c1 v H1 _ s1 e1 r1 p1 => ?_
    obtain ⟨d, hd, p1⟩ := Post.opt p1
    exact ⟨c1, S1, x, d, s1, r1, hd, p1⟩
/-- isinstance(e, T) -/
theorem so_isi {x y : Str} {t : Ty} {p p2 : Pos} (hg : Gl X x) (hm : X.mg x = none) (hv : bootBuiltins x = some (.builtin "isinstance")) (hg2 : Gl X y) (hm2 : X.mg y = none) (hv2 : bootBuiltins y = some (.type t.nm)) (ha : PE X a (TX (Zx X W) f))
    (hs : noStar a = true) (hn : x ≠ "__name__") (hdb : (x == ("__debug__" : Str)) = false) (hn2 : y ≠ "__name__") (hdb2 : (y == ("__debug__" : Str)) = false) :
    PE X (.Call (.Name x p) [a, .Name y p2] [] pos) (TX (Zx X W) fun r S => (f r S).bnd fun x S1 => .ok (.bl (isiD S1 x t)) S1) :=
  PE.of (pe_callB call_isi hg hm hv (pa_cons ha (pa_cons (pe_bltn (v := .ty t.nm) hg2 hm2 hv2 rfl hn2 hdb2) pa_nil) (star_cons hs)) hn hdb (star_cons hs)) fun σ H Q ⟨c, r, S, s, e, p⟩ => by
    refine TXg.bnd s e p fun x S1 c1 v H1 _ s1 e1 r1 p1 => ?_
    obtain ⟨T, h1, h2⟩ := isi_of s1 r1 t
    exact ⟨v, .ty t.nm, .type T, .type t.nm, isiD S1 x t, rfl, .ty _, h1, kit_ty h2, p1.here s1 (.bl _)⟩
/-- if a else b -/
theorem so_ite {c : Expr} {tt : TT} (hc : PT X c (TXb (Zx X W) fun r S => (k r S).bnd fun x S1 => .opt (truthD S1 x) S1)) (ha : PE X a (TX (Zx X W) f)) (hb : PE X b (TX (Zx X W) g)) :
    PE X (.IfExp c a b pos) (TX (Zx X W) fun r S => (k r S).bnd fun x S1 => (match truthD S1 x with
      | some true => f r S1
      | some false => g r S1
      | none => .bad)) :=
  PE.of (pe_ifExp hc ha hb) fun σ H Q ⟨c, r, S, s, e, p⟩ => by
    have p : Post (Zx X W) (RelD X.K) ((k r S).bnd fun x S1 => (match truthD S1 x with
      | some true => f r S1
      | some false => g r S1
      | none => .bad)) c σ H Q := p
    refine ⟨c, r, S, s, e, ?_⟩
    show Post _ _ ((k r S).bnd fun x S1 => .opt (truthD S1 x) S1) _ _ _ _
    cases q : k r S with
    | bad => rw [q] at p; exact p
    | exc nm fs S1 => rw [q] at p; exact p
    | ok x S1 =>
      rw [q] at p
      have p : Post (Zx X W) (RelD X.K) (match truthD S1 x with
        | some true => f r S1
        | some false => g r S1
        | none => .bad) c σ H Q := p
      show Post _ _ (R.opt (truthD S1 x) S1) _ _ _ _
      cases q2 : truthD S1 x with
      | none => rw [q2] at p; exact p.elim
      | some t =>
        rw [q2] at p
        intro c1 v H1 x1 s1 r1
        subst r1
        have p1 := Post.ext x1 p
        have e1 := e.ext x1
        cases t with
        | true => rw [if_pos rfl]; exact ⟨c1, r, S1, s1, e1, p1⟩
        | false => rw [if_neg Bool.false_ne_true]; exact ⟨c1, r, S1, s1, e1, p1⟩
/-! ### tests -/
def plainT : Expr → Bool
  | .UnaryOp .Not _ _ => false
  | .BoolOp _ _ _ => false
  | .IfExp _ _ _ _ => false
  | .Compare _ _ _ _ => false
  | _ => true
theorem plainT_eq {e : Expr} {env : PySem.Env} (h : plainT e = true) (whole : Sem Value) : isTrue e env whole = (do let v ← whole; standAt e.pos; holding [v] (truthy v)) := by
  cases e with
  | UnaryOp o x p => cases o <;> first | rfl | cases h
  | BoolOp => cases h
  | IfExp => cases h
  | Compare => cases h
  | _ => rfl
theorem so_pt (ha : PE X a (TX (Zx X W) f)) (h : plainT a = true) : PT X a (TXb (Zx X W) fun r S => (f r S).bnd fun x S1 => .opt (truthD S1 x) S1) :=
  PT.of (pt_truth ha (plainT_eq h)) fun σ H Q ⟨c, r, S, s, e, p⟩ => by
    refine TXg.bnd s e p fun x S1 c1 v H1 _ s1 e1 r1 p1 => ?_
    obtain ⟨t, ht, p1⟩ := Post.opt p1
    exact ⟨t, truV_of s1 r1 ht, p1.here s1 rfl⟩
/-- a test by its meaning -/
abbrev tv (f : Env → Store → R D) : Env → Store → R Bool := fun r S => (f r S).bnd fun x S1 => .opt (truthD S1 x) S1
theorem so_ptnt (ha : PT X a (TXb (Zx X W) (tv f))) : PT X (.UnaryOp .Not a pos) (TXb (Zx X W) (tv fun r S => (f r S).bnd fun x S1 => .opt ((truthD S1 x).map fun b => .bl (!b)) S1)) :=
  PT.of (pt_not ha) fun σ H Q ⟨c, r, S, s, e, p⟩ => by
    have p : Post (Zx X W) (fun _ _ (b c : Bool) => b = c) (((f r S).bnd fun x S1 => .opt ((truthD S1 x).map fun b => .bl (!b)) S1).bnd fun x S1 => .opt (truthD S1 x) S1) c σ H Q := p
    refine ⟨c, r, S, s, e, ?_⟩
    show Post _ _ ((f r S).bnd fun x S1 => .opt (truthD S1 x) S1) _ _ _ _
    cases q : f r S with
    | bad => rw [q] at p; exact p
    | exc nm fs S1 => rw [q] at p; exact p
    | ok x S1 =>
      rw [q] at p
      have p : Post (Zx X W) (fun _ _ (b c : Bool) => b = c) ((R.opt ((truthD S1 x).map fun b => D.bl (!b)) S1).bnd fun x S1 => .opt (truthD S1 x) S1) c σ H Q := p
      show Post _ _ (R.opt (truthD S1 x) S1) _ _ _ _
      cases q2 : truthD S1 x with
      | none => rw [q2] at p; exact p.elim
      | some t =>
        rw [q2] at p
        intro c1 v H1 x1 s1 r1
        subst r1
        exact p c1 _ H1 x1 s1 rfl
theorem so_ptcmp (hu : X.A.units + 65 < cLine) (o : Cop) (ha : PE X a (TX (Zx X W) f)) (hb : PE X b (TX (Zx X W) g)) (hs : noSet b = true) :
    PT X (.Compare a [o.op] [b] pos) (TXb (Zx X W) (tv fun r S => (f r S).bnd fun x S1 => (g r S1).bnd fun y S2 => .opt ((cmpD S2 o x y).map .bl) S2)) :=
  PT.of (pt_cmpR (c_cmp hu o) ha hb (mark_no hs)) fun σ H Q ⟨c, r, S, s, e, p⟩ => by
    have p : Post (Zx X W) (fun _ _ (b c : Bool) => b = c) ((f r S).bnd fun x S1 => (g r S1).bnd fun y S2 => (R.opt ((cmpD S2 o x y).map .bl) S2).bnd fun x S1 => .opt (truthD S1 x) S1) c σ H Q := by
      simp only [tv] at p
      cases q : f r S with
      | bad => simp only [q, R.bnd] at p ⊢; exact p
      | exc nm fs S1 => simp only [q, R.bnd] at p ⊢; exact p
      | ok x S1 =>
        simp only [q, R.bnd] at p ⊢
        cases q2 : g r S1 with
        | bad => simp only [q2] at p ⊢; exact p
        | exc nm fs S1 => simp only [q2] at p ⊢; exact p
        | ok x S1 => simp only [q2] at p ⊢; exact p
    refine TXg.bnd s e p fun x S1 c1 v H1 _ s1 e1 r1 p1 => TXg.bnd s1 e1 p1 fun y S2 c2 u H2 x2 s2 e2 r2 p2 => ?_
    cases q : cmpD S2 o x y with
    | none => rw [q] at p2; exact p2.elim
    | some t =>
      rw [q] at p2
      refine ⟨c2, S2, x, y, t, s2, r1.ext x2, r2, q, fun c3 w H3 x3 s3 r3 => ?_⟩
      cases r3
      exact ⟨t, rfl, p2 c3 t H3 x3 s3 rfl⟩
theorem so_ptchn (hu : X.A.units + 65 < cLine) (o q : Cop) {c : Expr} (ha : PE X a (TX (Zx X W) f)) (hb : PE X b (TX (Zx X W) g)) (hc : PE X c (TX (Zx X W) k)) (hs : noSet c = true) :
    PT X (.Compare a [o.op, q.op] [b, c] pos) (TXb (Zx X W) (tv fun r S => (f r S).bnd fun x S1 => (g r S1).bnd fun y S2 => (match cmpD S2 o x y with
      | some true => (k r S2).bnd fun z S3 => .opt ((cmpD S3 q y z).map .bl) S3
      | some false => .ok (.bl false) S2
      | none => .bad))) :=
  PT.of (pt_chain (c_cmp hu o) (c_cmp hu q) ha hb hc (mark_no hs)) fun σ H Q ⟨c, r, S, s, e, p⟩ => by
    have p : Post (Zx X W) (fun _ _ (b c : Bool) => b = c) ((f r S).bnd fun x S1 => (g r S1).bnd fun y S2 => (match cmpD S2 o x y with
      | some true => (k r S2).bnd fun z S3 => .opt (cmpD S3 q y z) S3
      | some false => .ok false S2
      | none => .bad)) c σ H Q := by
      have p : Post (Zx X W) (fun _ _ (b c : Bool) => b = c) (((f r S).bnd fun x S1 => (g r S1).bnd fun y S2 => (match cmpD S2 o x y with
        | some true => (k r S2).bnd fun z S3 => .opt ((cmpD S3 q y z).map .bl) S3
        | some false => .ok (.bl false) S2
        | none => .bad)).bnd fun x S1 => .opt (truthD S1 x) S1) c σ H Q := p
      cases q1 : f r S with
      | bad => rw [q1] at p; exact p
      | exc nm fs S1 => rw [q1] at p; exact p
      | ok x S1 =>
        rw [q1] at p
        have p : Post (Zx X W) (fun _ _ (b c : Bool) => b = c) (((g r S1).bnd fun y S2 => (match cmpD S2 o x y with
          | some true => (k r S2).bnd fun z S3 => .opt ((cmpD S3 q y z).map .bl) S3
          | some false => .ok (.bl false) S2
          | none => .bad)).bnd fun x S1 => .opt (truthD S1 x) S1) c σ H Q := p
        show Post _ _ ((g r S1).bnd _) _ _ _ _
        cases q2 : g r S1 with
        | bad => rw [q2] at p; exact p
        | exc nm fs S1 => rw [q2] at p; exact p
        | ok y S2 =>
          rw [q2] at p
          have p : Post (Zx X W) (fun _ _ (b c : Bool) => b = c) ((match cmpD S2 o x y with
            | some true => (k r S2).bnd fun z S3 => .opt ((cmpD S3 q y z).map .bl) S3
            | some false => .ok (.bl false) S2
            | none => .bad : R D).bnd fun x S1 => .opt (truthD S1 x) S1) c σ H Q := p
          show Post _ _ (match cmpD S2 o x y with
            | some true => (k r S2).bnd fun z S3 => .opt (cmpD S3 q y z) S3
            | some false => .ok false S2
            | none => .bad : R Bool) _ _ _ _
          cases q3 : cmpD S2 o x y with
          | none => rw [q3] at p; exact p
          | some t =>
            rw [q3] at p
            cases t with
            | false => exact p
            | true =>
              have p : Post (Zx X W) (fun _ _ (b c : Bool) => b = c) (((k r S2).bnd fun z S3 => .opt ((cmpD S3 q y z).map .bl) S3).bnd fun x S1 => .opt (truthD S1 x) S1) c σ H Q := p
              show Post _ _ ((k r S2).bnd fun z S3 => .opt (cmpD S3 q y z) S3) _ _ _ _
              cases q4 : k r S2 with
              | bad => rw [q4] at p; exact p
              | exc nm fs S1 => rw [q4] at p; exact p
              | ok z S3 =>
                rw [q4] at p
                have p : Post (Zx X W) (fun _ _ (b c : Bool) => b = c) ((R.opt ((cmpD S3 q y z).map D.bl) S3).bnd fun x S1 => .opt (truthD S1 x) S1) c σ H Q := p
                show Post _ _ (R.opt (cmpD S3 q y z) S3) _ _ _ _
                cases q5 : cmpD S3 q y z with
                | none => rw [q5] at p; exact p
                | some t => rw [q5] at p; exact p
    refine TXg.bnd s e p fun x S1 c1 v H1 _ s1 e1 r1 p1 => TXg.bnd s1 e1 p1 fun y S2 c2 u H2 x2 s2 e2 r2 p2 => ?_
    cases q1 : cmpD S2 o x y with
    | none => rw [q1] at p2; exact p2.elim
    | some t =>
      rw [q1] at p2
      refine ⟨c2, S2, x, y, t, s2, r1.ext x2, r2, q1, fun c3 w H3 x3 s3 r3 => ?_⟩
      cases r3
      refine ⟨t, rfl, ?_⟩
      have p3 := Post.ext x3 p2
      have e3 := e2.ext x3
      cases t with
      | false =>
        rw [if_neg Bool.false_ne_true]
        exact ⟨false, rfl, p3.here s3 rfl⟩
      | true =>
        rw [if_pos rfl]
        refine TXg.bnd s3 e3 p3 fun z S4 c4 w H4 x4 s4 e4 r4 p4 => ?_
        obtain ⟨t, ht, p4⟩ := Post.opt p4
        refine ⟨c4, S4, y, z, t, s4, (r2.ext x3).ext x4, r4, ht, fun c5 w H5 x5 s5 r5 => ?_⟩
        cases r5
        exact ⟨t, rfl, p4 c5 t H5 x5 s5 rfl⟩
theorem pw_any {op : BoolOp} {es : List Expr} {t : TT} (h : PT X (.BoolOp op es pos) t) : PW X (.BoolOp op es pos) t := ⟨fun wh pins s σ H Q I q => h.run pins s σ H Q I q⟩
theorem pt_any {op : BoolOp} {es : List Expr} {t : TT} (h : PW X (.BoolOp op es pos) t) : PT X (.BoolOp op es pos) t := ⟨fun pins s σ H Q I q => h.run _ pins s σ H Q I q⟩
theorem so_ptan {rest : List Expr} (ha : PT X a (TXb (Zx X W) (tv f))) (hb : PW X (.BoolOp .And (b :: rest) pos) (TXb (Zx X W) (tv g))) :
    PT X (.BoolOp .And (a :: b :: rest) pos) (TXb (Zx X W) (tv fun r S => (f r S).bnd fun x S1 => (match truthD S1 x with
      | some true => g r S1
      | some false => .ok x S1
      | none => .bad))) :=
  PT.of (pt_any (pw_and ha hb)) fun σ H Q ⟨c, r, S, s, e, p⟩ => by
    have p : Post (Zx X W) (fun _ _ (b c : Bool) => b = c) ((tv f r S).bnd fun t S1 => if t = true then tv g r S1 else .ok false S1) c σ H Q := by
      have p : Post (Zx X W) (fun _ _ (b c : Bool) => b = c) (((f r S).bnd fun x S1 => (match truthD S1 x with
        | some true => g r S1
        | some false => .ok x S1
        | none => .bad)).bnd fun x S1 => .opt (truthD S1 x) S1) c σ H Q := p
      show Post _ _ (((f r S).bnd fun x S1 => .opt (truthD S1 x) S1).bnd _) _ _ _ _
      cases q1 : f r S with
      | bad => rw [q1] at p; exact p
      | exc nm fs S1 => rw [q1] at p; exact p
      | ok x S1 =>
        rw [q1] at p
        have p : Post (Zx X W) (fun _ _ (b c : Bool) => b = c) ((match truthD S1 x with
          | some true => g r S1
          | some false => .ok x S1
          | none => .bad : R D).bnd fun x S1 => .opt (truthD S1 x) S1) c σ H Q := p
        show Post _ _ ((R.opt (truthD S1 x) S1).bnd _) _ _ _ _
        cases q2 : truthD S1 x with
        | none => rw [q2] at p; exact p
        | some t =>
          rw [q2] at p
          cases t with
          | true => exact p
          | false =>
            have p : Post (Zx X W) (fun _ _ (b c : Bool) => b = c) (R.opt (truthD S1 x) S1) c σ H Q := p
            rw [q2] at p
            exact p
    refine TXg.bnd s e p fun t S1 c1 v H1 _ s1 e1 r1 p1 => ?_
    subst r1
    cases t with
    | true => rw [if_pos rfl] at p1 ⊢; exact ⟨c1, r, S1, s1, e1, p1⟩
    | false => rw [if_neg Bool.false_ne_true] at p1 ⊢; exact p1.here s1 rfl
theorem so_ptor {rest : List Expr} (ha : PT X a (TXb (Zx X W) (tv f))) (hb : PW X (.BoolOp .Or (b :: rest) pos) (TXb (Zx X W) (tv g))) :
    PT X (.BoolOp .Or (a :: b :: rest) pos) (TXb (Zx X W) (tv fun r S => (f r S).bnd fun x S1 => (match truthD S1 x with
      | some true => .ok x S1
      | some false => g r S1
      | none => .bad))) :=
  PT.of (pt_any (pw_or ha hb)) fun σ H Q ⟨c, r, S, s, e, p⟩ => by
    have p : Post (Zx X W) (fun _ _ (b c : Bool) => b = c) ((tv f r S).bnd fun t S1 => if t = true then .ok true S1 else tv g r S1) c σ H Q := by
      have p : Post (Zx X W) (fun _ _ (b c : Bool) => b = c) (((f r S).bnd fun x S1 => (match truthD S1 x with
        | some true => .ok x S1
        | some false => g r S1
        | none => .bad)).bnd fun x S1 => .opt (truthD S1 x) S1) c σ H Q := p
      show Post _ _ (((f r S).bnd fun x S1 => .opt (truthD S1 x) S1).bnd _) _ _ _ _
      cases q1 : f r S with
      | bad => rw [q1] at p; exact p
      | exc nm fs S1 => rw [q1] at p; exact p
      | ok x S1 =>
        rw [q1] at p
        have p : Post (Zx X W) (fun _ _ (b c : Bool) => b = c) ((match truthD S1 x with
          | some true => .ok x S1
          | some false => g r S1
          | none => .bad : R D).bnd fun x S1 => .opt (truthD S1 x) S1) c σ H Q := p
        show Post _ _ ((R.opt (truthD S1 x) S1).bnd _) _ _ _ _
        cases q2 : truthD S1 x with
        | none => rw [q2] at p; exact p
        | some t =>
          rw [q2] at p
          cases t with
          | false => exact p
          | true =>
            have p : Post (Zx X W) (fun _ _ (b c : Bool) => b = c) (R.opt (truthD S1 x) S1) c σ H Q := p
            rw [q2] at p
            exact p
    refine TXg.bnd s e p fun t S1 c1 v H1 _ s1 e1 r1 p1 => ?_
    subst r1
    cases t with
    | true => rw [if_pos rfl] at p1 ⊢; exact p1.here s1 rfl
    | false => rw [if_neg Bool.false_ne_true] at p1 ⊢; exact ⟨c1, r, S1, s1, e1, p1⟩
end
end RR

set_option Elab.async false
set_option linter.all false
set_option maxRecDepth 100000
set_option maxHeartbeats 1000000
/-! sources of loops, targets, new lists, comprehensions -/
namespace RR
open PySem PySem.Spec PyProof.Rows L2
/-- what may have come meanwhile: also lists in the making -/
structure Ext2 (c : Ct) (H : Hp) (c' : Ct) (H' : Hp) : Prop where
  l : ∀ a ∈ c.z, ∃ us, H a = some (.lst us)
  z : ∀ a ∈ c'.z, a ∈ c.z ∨ H a = none
  m : ∃ t, c'.m = c.m ++ t ∧ ∀ a ∈ t, H a = none
  k : ∀ a o, a ∉ c.m → a ∉ c.z → H a = some o → H' a = some o
section
variable {K : PySem.W.Frag} {c c' c2 : Ct} {H H' H2 : Hp} {S : Store}
theorem Ext.two (x : Ext c H c' H') (s : RelS K c S H) : Ext2 c H c' H' := ⟨fun a h => (s.zn a h).2, fun a h => .inl (by rw [← x.z]; exact h), x.m, fun a o n _ h => x.k a o n h⟩
theorem Ext2.nt (x : Ext2 c H c' H') {a : Addr} {vs : List V} (h : H a = some (.tup vs)) : a ∉ c.z := fun hz => by
  obtain ⟨us, e⟩ := x.l _ hz
  rw [h] at e; cases e
theorem Ext2.nd (x : Ext2 c H c' H') {a : Addr} {vs : List (L2.Key × V)} (h : H a = some (.dK vs)) : a ∉ c.z := fun hz => by
  obtain ⟨us, e⟩ := x.l _ hz
  rw [h] at e; cases e
theorem Ext2.mem (x : Ext2 c H c' H') {a : Addr} {o : HO} (h : H a = some o) (hn : a ∉ c.m) : a ∉ c'.m := by
  obtain ⟨t, e, f⟩ := x.m
  rw [e]
  intro hm
  rcases List.mem_append.mp hm with hm | hm
  · exact hn hm
  · rw [f a hm] at h; cases h
theorem Ext2.memz (x : Ext2 c H c' H') {a : Addr} {o : HO} (h : H a = some o) (hn : a ∉ c.z) : a ∉ c'.z := fun hz => by
  rcases x.z a hz with q | q
  · exact hn q
  · rw [q] at h; cases h
theorem Ext2.get (x : Ext2 c H c' H') {i : Nat} {a : Addr} (h : c.m[i]? = some a) : c'.m[i]? = some a := by
  obtain ⟨t, e, _⟩ := x.m
  rw [e, List.getElem?_append_left (List.getElem?_eq_some_iff.mp h).1]
  exact h
mutual
theorem RelD.ext2 (x : Ext2 c H c' H') : ∀ {d : D} {v : V}, RelD K c H d v → RelD K c' H' d v
  | _, _, .non => .non
  | _, _, .bl b => .bl b
  | _, _, .int i => .int i
  | _, _, .str z => .str z
  | _, _, .tup h n r => .tup (x.k _ _ n (x.nt h) h) (x.mem h n) (RelDs.ext2 x r)
  | _, _, .lst h n nz r => .lst (x.k _ _ n nz h) (x.mem h n) (x.memz h nz) (RelDs.ext2 x r)
  | _, _, .scr h q n nz => .scr (x.k _ _ n nz h) (sqL_ext q fun o e => x.k _ o n nz e) (x.mem h n) (x.memz h nz)
  | _, _, .scK q => .scK q
  | _, _, .dct h n nz l r => .dct (x.k _ _ n nz h) (x.mem h n) (x.memz h nz) l (RelDs.ext2 x r)
  | _, _, .ref h => .ref (x.get h)
theorem RelDs.ext2 (x : Ext2 c H c' H') : ∀ {ds : List D} {vs : List V}, RelDs K c H ds vs → RelDs K c' H' ds vs
  | _, _, .nil => .nil
  | _, _, .cons r t => .cons (RelD.ext2 x r) (RelDs.ext2 x t)
end
theorem RelE.ext2 {r : Env} {σ : L2.St} (x : Ext2 c H c' H') (h : RelE K c H r σ) : RelE K c' H' r σ :=
  ⟨h.len, fun i d e => let ⟨v, a, b⟩ := h.at_ i d e; ⟨v, a, b.ext2 x⟩⟩
theorem Ext2.trans (x : Ext2 c H c' H') (k : ∀ a o, H a = some o → ∃ o', H' a = some o') (y : Ext2 c' H' c2 H2) : Ext2 c H c2 H2 := by
  have no : ∀ a, H' a = none → H a = none := fun a h => by
    cases q : H a with
    | none => rfl
    | some o => obtain ⟨o', h'⟩ := k a o q; rw [h] at h'; cases h'
  refine ⟨x.l, fun a h => ?_, ?_, fun a o hn hz h => y.k a o (x.mem h hn) (x.memz h hz) (x.k a o hn hz h)⟩
  · rcases y.z a h with q | q
    · exact x.z a q
    · exact .inr (no a q)
  · obtain ⟨t, e, f⟩ := x.m
    obtain ⟨t', e', f'⟩ := y.m
    refine ⟨t ++ t', by rw [e', e, List.append_assoc], fun a ha => ?_⟩
    rcases List.mem_append.mp ha with ha | ha
    · exact f a ha
    · exact no a (f' a ha)
/-- what a source's iterator does at any later state -/
def ItOk (K : PySem.W.Frag) (c : Ct) (H : Hp) (p : List D × Gd) (J : L2.It) : Prop :=
  ∀ c2 H2 S2, Ext2 c H c2 H2 → RelS K c2 S2 H2 → gdOk p.2 S2 →
    (∀ i d, p.1[i]? = some d → J.go i H2 ∧ ∀ x H3, J.yld i H2 x H3 → Ext c2 H2 c2 H3 ∧ RelS K c2 S2 H3 ∧ RelD K c2 H3 d x) ∧ J.stop p.1.length H2
theorem ItOk.ext {p : List D × Gd} {J : L2.It} (x : Ext2 c H c' H') (k : ∀ a o, H a = some o → ∃ o', H' a = some o') (h : ItOk K c H p J) : ItOk K c' H' p J := fun c2 H2 S2 y s g => h c2 H2 S2 (x.trans k y) s g
abbrev TIx (Z : Se) (f : Env → Store → R (List D × Gd)) : TI := fun σ H R => TXg Z (ItOk Z.K) f σ H R
/-- an items' holder at a later state -/
theorem items_later {d : D} {v : V} {xs : List D} (s : RelS K c S H) (h : itemsD S d = some xs) (r : RelD K c H d v) :
    ∃ a, v = .ref a ∧ (((∃ ys, d = .tup ys) ∧ ∀ c2 H2 S2, Ext2 c H c2 H2 → RelS K c2 S2 H2 → gdOk (guard d xs) S2 → ∃ vs, SqT K H2 a vs ∧ RelDs K c2 H2 xs vs) ∨
      (listD S d = some xs ∧ ∀ c2 H2 S2, Ext2 c H c2 H2 → RelS K c2 S2 H2 → gdOk (guard d xs) S2 → ∃ vs, SqL K H2 a vs ∧ RelDs K c2 H2 xs vs)) := by
  cases r with
  | tup h1 n h2 => cases h; exact ⟨_, rfl, .inl ⟨⟨_, rfl⟩, fun c2 H2 S2 x s2 g => ⟨_, sqT_at (x.k _ _ n (x.nt h1) h1), h2.ext2 x⟩⟩⟩
  | lst h1 n nz h2 => cases h; exact ⟨_, rfl, .inr ⟨rfl, fun c2 H2 S2 x s2 g => ⟨_, sqL_at (x.k _ _ n nz h1), h2.ext2 x⟩⟩⟩
  | scr h1 q n nz => cases h; exact ⟨_, rfl, .inr ⟨rfl, fun c2 H2 S2 x s2 g => ⟨_, sqL_ext q fun o e => x.k _ o n nz e, RelDs.ints _⟩⟩⟩
  | scK q => cases h; exact ⟨_, rfl, .inr ⟨rfl, fun c2 H2 S2 x s2 g => ⟨_, q H2, RelDs.ints _⟩⟩⟩
  | ref hm =>
    rename_i a i
    refine ⟨a, rfl, .inr ⟨h, fun c2 H2 S2 x s2 g => ?_⟩⟩
    have g : S2[i]? = some (.lst xs) := g
    obtain ⟨vs, h1, h2⟩ := s2.at g (x.get hm)
    exact ⟨vs, sqL_at h1, h2⟩
  | _ => cases h
end
section
variable {X : Cx} {W : WX} {tg a b e : Expr} {es : List Expr} {f g : Env → Store → R D} {fs : Env → Store → R (List D)} {pos : Pos}
theorem chars_get {z : Str} {i : Nat} {d : D} (h : (z.cps.toList.map fun c => D.str ⟨#[c]⟩)[i]? = some d) : ∃ c, z.cps[i]? = some c ∧ d = .str ⟨#[c]⟩ := by
  rw [List.getElem?_map] at h
  obtain ⟨c, h1, rfl⟩ := Option.map_eq_some_iff.mp h
  exact ⟨c, by simpa using h1, rfl⟩
theorem seqI_cases {S : Store} {x : D} {p : List D × Gd} (h : seqI S x = some p) :
    (∃ z, x = .str z ∧ p = (z.cps.toList.map (fun c => .str ⟨#[c]⟩), none)) ∨ (∃ xs, x = .tup xs ∧ p = (xs, none)) ∨ (∃ xs, listD S x = some xs ∧ p = (xs, guard x xs)) := by
  cases x with
  | str z => exact .inl ⟨z, rfl, (Option.some.inj h).symm⟩
  | tup xs => exact .inr (.inl ⟨xs, rfl, (Option.some.inj h).symm⟩)
  | lst xs => exact .inr (.inr ⟨xs, rfl, (Option.some.inj h).symm⟩)
  | scr ns => exact .inr (.inr ⟨_, rfl, (Option.some.inj h).symm⟩)
  | ref i =>
    obtain ⟨xs, h1, rfl⟩ := Option.map_eq_some_iff.mp h
    exact .inr (.inr ⟨xs, h1, rfl⟩)
  | _ => cases h
theorem itl_ok {K : PySem.W.Frag} {c : Ct} {H : Hp} {a : Addr} {xs : List D} {gd : Gd} (h : ∀ c2 H2 S2, Ext2 c H c2 H2 → RelS K c2 S2 H2 → gdOk gd S2 → ∃ vs, SqL K H2 a vs ∧ RelDs K c2 H2 xs vs) : ItOk K c H (xs, gd) (Itl K a) := by
  intro c2 H2 S2 x s2 g
  obtain ⟨vs, h1, h2⟩ := h c2 H2 S2 x s2 g
  refine ⟨fun i d hd => ?_, ⟨vs, h1, by rw [← h2.length]; exact Nat.le_refl _⟩⟩
  obtain ⟨v, e1, r1⟩ := h2.get hd
  refine ⟨⟨vs, v, h1, e1⟩, fun y H3 hy => ?_⟩
  obtain ⟨rfl, hy⟩ := hy
  have e2 := hy vs h1
  rw [e1] at e2; cases e2
  exact ⟨Ext.refl, s2, r1⟩
theorem itt_ok {K : PySem.W.Frag} {c : Ct} {H : Hp} {a : Addr} {xs : List D} {gd : Gd} (h : ∀ c2 H2 S2, Ext2 c H c2 H2 → RelS K c2 S2 H2 → gdOk gd S2 → ∃ vs, SqT K H2 a vs ∧ RelDs K c2 H2 xs vs) : ItOk K c H (xs, gd) (Itt K a) := by
  intro c2 H2 S2 x s2 g
  obtain ⟨vs, h1, h2⟩ := h c2 H2 S2 x s2 g
  refine ⟨fun i d hd => ?_, ⟨vs, h1, by rw [← h2.length]; exact Nat.le_refl _⟩⟩
  obtain ⟨v, e1, r1⟩ := h2.get hd
  refine ⟨⟨vs, v, h1, e1⟩, fun y H3 hy => ?_⟩
  obtain ⟨rfl, hy⟩ := hy
  have e2 := hy vs h1
  rw [e1] at e2; cases e2
  exact ⟨Ext.refl, s2, r1⟩
theorem its_ok {K : PySem.W.Frag} {c : Ct} {H : Hp} {z : Str} : ItOk K c H (z.cps.toList.map (fun c => .str ⟨#[c]⟩), none) (Its z) := by
  intro c2 H2 S3 x2 s3 g
  refine ⟨fun i d hd => ?_, ?_⟩
  · obtain ⟨ch, h1, rfl⟩ := chars_get hd
    refine ⟨?_, fun y H3 hy => ?_⟩
    · exact (Array.getElem?_eq_some_iff.mp h1).1
    · obtain ⟨rfl, ch2, h2, rfl⟩ := hy
      rw [h1] at h2; cases h2
      exact ⟨Ext.refl, s3, .str _⟩
  · show z.cps.size ≤ (z.cps.toList.map _).length
    simp
theorem so_seq (ha : PE X a (TX (Zx X W) f)) : PI X tg a (TIx (Zx X W) fun r S => (f r S).bnd fun x S1 => .opt (seqI S1 x) S1) := by
  refine ⟨fun pins s σ H R I ⟨c, r, S, s1, e1, p⟩ => ?_⟩
  have p : Post (Zx X W) (ItOk X.K) ((f r S).bnd fun x S1 => .opt (seqI S1 x) S1) c σ H R := p
  cases q : f r S with
  | bad => rw [q] at p; exact p.elim
  | exc nm fl S1 =>
    refine (pi_list ha).run pins s σ H R I ⟨c, r, S, s1, e1, ?_⟩
    rw [q] at p ⊢
    exact p
  | ok x S1 =>
    rw [q] at p
    obtain ⟨it, hi, p⟩ := Post.opt (show Post (Zx X W) (ItOk X.K) (.opt (seqI S1 x) S1) c σ H R from p)
    rcases seqI_cases hi with ⟨z, rfl, rfl⟩ | ⟨xs, rfl, rfl⟩ | ⟨xs, hx, rfl⟩
    · refine (pi_str ha).run pins s σ H R I ⟨c, r, S, s1, e1, ?_⟩
      rw [q]
      intro c1 v H1 x1 s2 r2
      cases r2
      exact ⟨z, rfl, p c1 _ H1 x1 s2 its_ok⟩
    · refine (pi_tup ha).run pins s σ H R I ⟨c, r, S, s1, e1, ?_⟩
      rw [q]
      intro c1 v H1 x1 s2 r2
      cases r2 with
      | tup h1 n h2 => exact ⟨_, rfl, ⟨_, sqT_at h1⟩, p c1 _ H1 x1 s2 (itt_ok fun c2 H2 S2 x s2 g => ⟨_, sqT_at (x.k _ _ n (x.nt h1) h1), h2.ext2 x⟩)⟩
    · refine (pi_list ha).run pins s σ H R I ⟨c, r, S, s1, e1, ?_⟩
      rw [q]
      intro c1 v H1 x1 s2 r2
      obtain ⟨z, vs, rfl, h1, h2⟩ := listD_at s2 hx r2
      refine ⟨z, rfl, ⟨vs, h1⟩, p c1 _ H1 x1 s2 (itl_ok ?_)⟩
      have hx2 : itemsD S1 x = some xs := by
        cases x <;> first | exact hx | cases hx
      obtain ⟨z2, e, q2⟩ := items_later s2 hx2 r2
      cases e
      rcases q2 with ⟨⟨ys, rfl⟩, _⟩ | ⟨_, q2⟩
      · cases hx
      · exact q2
/-- range(..) -/
theorem rgI_get {a b : Int} {i : Nat} {d : D} (h : (rgI a b)[i]? = some d) : i < (b - a).toNat ∧ d = .int (a + i) := by
  unfold rgI at h
  rw [List.getElem?_map] at h
  obtain ⟨j, h1, rfl⟩ := Option.map_eq_some_iff.mp h
  obtain ⟨h2, h3⟩ := List.getElem?_eq_some_iff.mp h1
  simp at h2 h3
  subst h3
  exact ⟨by omega, rfl⟩
theorem rgDn_get {a b : Int} {i : Nat} {d : D} (h : (rgDn a b)[i]? = some d) : i < (a - b).toNat ∧ d = .int (a - i) := by
  unfold rgDn at h
  rw [List.getElem?_map] at h
  obtain ⟨j, h1, rfl⟩ := Option.map_eq_some_iff.mp h
  obtain ⟨h2, h3⟩ := List.getElem?_eq_some_iff.mp h1
  simp at h2 h3
  subst h3
  exact ⟨by omega, rfl⟩
theorem itr_ok {K : PySem.W.Frag} {c : Ct} {H : Hp} {a b : Int} : ItOk K c H (rgI a b, none) (Itr a (b - a).toNat) := by
  intro c2 H2 S3 x2 s3 g
  refine ⟨fun i d hd => ?_, ?_⟩
  · obtain ⟨h1, rfl⟩ := rgI_get hd
    refine ⟨h1, fun y H3 hy => ?_⟩
    obtain ⟨rfl, rfl⟩ := hy
    exact ⟨Ext.refl, s3, .int _⟩
  · show (b - a).toNat ≤ (rgI a b).length
    unfold rgI
    simp
theorem itc_ok {K : PySem.W.Frag} {c : Ct} {H : Hp} {a b : Int} : ItOk K c H (rgDn a b, none) (Itc a (-1) (a - b).toNat) := by
  intro c2 H2 S3 x2 s3 g
  refine ⟨fun i d hd => ?_, ?_⟩
  · obtain ⟨h1, rfl⟩ := rgDn_get hd
    refine ⟨h1, fun y H3 hy => ?_⟩
    obtain ⟨rfl, rfl⟩ := hy
    refine ⟨Ext.refl, s3, ?_⟩
    rw [show a + ((i : Nat) : Int) * (-1) = a - i by omega]
    exact .int _
  · show (a - b).toNat ≤ (rgDn a b).length
    unfold rgDn
    simp
theorem so_rng {p : Pos} (hg : Gl X "range") (hm : X.mg "range" = none) (ha : PA X es (TXs (Zx X W) fs)) (hs : es.all noStar = true) (hl : es.length = 1 ∨ es.length = 2 ∨ es.length = 3)
    (hlen : ∀ r S xs S1, fs r S = .ok xs S1 → xs.length = es.length) : PI X tg (.Call (.Name "range" p) es [] pos) (TIx (Zx X W) fun r S => (fs r S).bnd fun xs S1 => .opt ((rngD xs).map fun ys => (ys, none)) S1) := by
  have key : ∀ σ H R, TIx (Zx X W) (fun r S => (fs r S).bnd fun xs S1 => .opt ((rngD xs).map fun ys => (ys, none)) S1) σ H R → TXs (Zx X W) fs σ H fun vs H1 => ∃ n, vs.length = n ∧ n = es.length ∧
      ((∃ j : Int, vs = [.int j] ∧ -(2 ^ 62) ≤ j ∧ j < 2 ^ 62 ∧ R (Itr 0 j.toNat) H1) ∨ (∃ i j : Int, vs = [.int i, .int j] ∧ (-(2 ^ 62) ≤ i ∧ i < 2 ^ 62 ∧ -(2 ^ 62) ≤ j ∧ j < 2 ^ 62) ∧ R (Itr i (j - i).toNat) H1) ∨
        (∃ (i j c : Int) (n : Nat), vs = [.int i, .int j, .int c] ∧ RgC i j c n ∧ R (Itc i c n) H1)) := by
    rintro σ H R ⟨c, r, S, s, e, p⟩
    have p : Post (Zx X W) (ItOk X.K) ((fs r S).bnd fun xs S1 => .opt ((rngD xs).map fun ys => (ys, none)) S1) c σ H R := p
    refine ⟨c, r, S, s, e, ?_⟩
    cases q : fs r S with
    | bad => rw [q] at p; exact p.elim
    | exc nm fl S1 => rw [q] at p; exact p
    | ok xs S1 =>
      rw [q] at p
      intro c1 vs H1 x1 s1 r1
      refine ⟨_, rfl, by rw [← r1.length]; exact hlen _ _ _ _ q, ?_⟩
      obtain ⟨it, hi, pp⟩ := Post.opt (show Post (Zx X W) (ItOk X.K) (.opt ((rngD xs).map fun ys => (ys, none)) S1) c σ H R from p)
      obtain ⟨ys, hy, rfl⟩ := Option.map_eq_some_iff.mp hi
      unfold rngD at hy
      split at hy
      · obtain ⟨v, rfl, r2⟩ := one_of r1
        cases r2
        split at hy
        · rename_i b hb
          cases hy
          obtain ⟨⟨h1, h2⟩, h3⟩ := hb
          refine .inl ⟨_, rfl, by omega, by omega, ?_⟩
          have z := pp c1 _ H1 x1 s1 (itr_ok (a := 0) (b := b))
          rw [Int.sub_zero] at z
          exact z
        · cases hy
      · obtain ⟨v, w, rfl, r2, r3⟩ := two_of r1
        cases r2
        cases r3
        split at hy
        · rename_i a b hb
          cases hy
          obtain ⟨⟨h1, h2⟩, ⟨h3, h4⟩, h5⟩ := hb
          exact .inr (.inl ⟨_, _, rfl, ⟨by omega, by omega, by omega, by omega⟩, pp c1 _ H1 x1 s1 itr_ok⟩)
        · cases hy
      · rename_i a b k
        split at hy
        · rename_i hb
          cases hy
          obtain ⟨rfl, ⟨h1, h2⟩, ⟨h3, h4⟩, h5⟩ := hb
          cases r1 with
          | cons r2 r1 =>
            obtain ⟨v, w, rfl, r3, r4⟩ := two_of r1
            cases r2; cases r3; cases r4
            exact .inr (.inr ⟨_, _, _, _, rfl, .neg (by omega) (by omega) (by omega) (by omega), pp c1 _ H1 x1 s1 itc_ok⟩)
        · cases hy
      · cases hy
  match es, hl, ha, hs, key with
  | [a], _, ha, hs, key =>
    refine ⟨fun pins s σ H R I h => (pi_range1 hg hm ha (by
      have := star_cons (es := []) (env := X.env) (show noStar a = true by simpa using hs)
      rw [this]; rfl)).run pins s σ H R I ?_⟩
    obtain ⟨c, r, S, s1, e1, p⟩ := key σ H R h
    refine ⟨c, r, S, s1, e1, p.mono fun vs H1 hv => ?_⟩
    obtain ⟨n, h1, h2, h3⟩ := hv
    rcases h3 with ⟨j, h3⟩ | ⟨i, j, rfl, _⟩ | ⟨i, j, k, n, rfl, _⟩
    · exact ⟨j, h3⟩
    · exact absurd (h1.trans h2) (by simp)
    · exact absurd (h1.trans h2) (by simp)
  | [a, b], _, ha, hs, key =>
    have hs : noStar a = true ∧ noStar b = true := by simpa using hs
    have sb := star_cons (es := []) (env := X.env) hs.2
    refine ⟨fun pins s σ H R I h => (pi_range2 hg hm ha (by rw [star_cons hs.1, sb]; rfl) (by rw [sb]; rfl)).run pins s σ H R I ?_⟩
    obtain ⟨c, r, S, s1, e1, p⟩ := key σ H R h
    refine ⟨c, r, S, s1, e1, p.mono fun vs H1 hv => ?_⟩
    obtain ⟨n, h1, h2, h3⟩ := hv
    rcases h3 with ⟨j, rfl, _⟩ | ⟨i, j, h3⟩ | ⟨i, j, k, n, rfl, _⟩
    · exact absurd (h1.trans h2) (by simp)
    · exact ⟨i, j, h3⟩
    · exact absurd (h1.trans h2) (by simp)
  | [a, b, d], _, ha, hs, key =>
    have hs : noStar a = true ∧ noStar b = true ∧ noStar d = true := by simpa using hs
    refine ⟨fun pins s σ H R I h => (pi_range3 hg hm ha (star_cons hs.1) (star_any (by simp [hs.2.1, hs.2.2]))).run pins s σ H R I ?_⟩
    obtain ⟨c, r, S, s1, e1, p⟩ := key σ H R h
    refine ⟨c, r, S, s1, e1, p.mono fun vs H1 hv => ?_⟩
    obtain ⟨n, h1, h2, h3⟩ := hv
    rcases h3 with ⟨j, rfl, _⟩ | ⟨i, j, rfl, _⟩ | h3
    · exact absurd (h1.trans h2) (by simp)
    · exact absurd (h1.trans h2) (by simp)
    · exact h3
  | [], h, _, _, _ => simp at h
  | _ :: _ :: _ :: _ :: _, h, _, _, _ => simp at h

/-- enumerate(a list) -/
theorem enumD_get : ∀ {xs : List D} {k i : Nat} {d : D}, (enumD k xs)[i]? = some d → ∃ x, xs[i]? = some x ∧ d = .tup [.int (k + i : Nat), x]
  | [], _, _, _, h => by simp [enumD] at h
  | x :: xs, k, 0, d, h => by
    simp [enumD] at h
    exact ⟨x, rfl, by rw [← h]; simp⟩
  | x :: xs, k, i + 1, d, h => by
    obtain ⟨y, h1, h2⟩ := enumD_get (xs := xs) (k := k + 1) (i := i) (d := d) (by simpa [enumD] using h)
    refine ⟨y, by simpa using h1, ?_⟩
    rw [h2, show k + 1 + i = k + (i + 1) from by omega]
theorem enumD_len : ∀ (xs : List D) (k : Nat), (enumD k xs).length = xs.length
  | [], _ => rfl
  | _ :: xs, k => by simp [enumD, enumD_len xs (k + 1)]
theorem ite_ok {K : PySem.W.Frag} {c : Ct} {H : Hp} {a : Addr} {xs : List D} {gd : Gd} (h : ∀ c2 H2 S2, Ext2 c H c2 H2 → RelS K c2 S2 H2 → gdOk gd S2 → ∃ vs, SqL K H2 a vs ∧ RelDs K c2 H2 xs vs) : ItOk K c H (enumD 0 xs, gd) (Ite K a) := by
  intro c2 H2 S2 x s2 g
  obtain ⟨vs, h1, h2⟩ := h c2 H2 S2 x s2 g
  refine ⟨fun i d hd => ?_, ⟨vs, h1, by show vs.length ≤ (enumD 0 xs).length; rw [enumD_len, h2.length]; exact Nat.le_refl _⟩⟩
  obtain ⟨d1, hd1, rfl⟩ := enumD_get hd
  obtain ⟨v, e1, r1⟩ := h2.get hd1
  refine ⟨⟨vs, v, h1, e1⟩, fun y H3 hy => ?_⟩
  obtain ⟨T, x2, rfl, hT, rfl, hy⟩ := hy
  have e2 := hy vs h1
  rw [e1] at e2; cases e2
  have xn : Ext c2 H2 c2 (upd H2 T (.tup [.int (i : Nat), v])) := Ext.new hT
  refine ⟨xn, s2.new hT, .tup upd_same (s2.fresh hT).1 (.cons ?_ (.cons (r1.ext xn) .nil))⟩
  rw [Nat.zero_add]
  exact .int _
theorem so_enm {p tpos : Pos} {elts : List Expr} {kk : Nat} (hg : Gl X "enumerate") (hm : X.mg "enumerate" = none) (ha : PE X a (TX (Zx X W) f)) (hs : noStar a = true) :
    PI X (.Tuple elts kk tpos) (.Call (.Name "enumerate" p) [a] [] pos) (TIx (Zx X W) fun r S => (f r S).bnd fun x S1 => .opt (((listD S1 x).map fun xs => (enumD 0 xs, guard x xs))) S1) := by
  refine ⟨fun pins s σ H R I ⟨c, r, S, s1, e1, p⟩ => (pi_enum hg hm (pa_cons ha pa_nil (star_cons hs)) (star_cons hs)).run pins s σ H R I ?_⟩
  show TX (Zx X W) f σ H _
  refine TXg.bnd s1 e1 p fun x S1 c1 v H1 _ s1 e1 r1 p1 => ?_
  obtain ⟨it, hi, pp⟩ := Post.opt p1
  obtain ⟨xs, hx, rfl⟩ := Option.map_eq_some_iff.mp hi
  obtain ⟨z, vs, rfl, h1, h2⟩ := listD_at s1 hx r1
  refine ⟨z, vs, rfl, h1, pp.here s1 (ite_ok ?_)⟩
  have hx2 : itemsD S1 x = some xs := by
    cases x <;> first | exact hx | cases hx
  obtain ⟨z2, e, q2⟩ := items_later s1 hx2 r1
  cases e
  rcases q2 with ⟨⟨ys, rfl⟩, _⟩ | ⟨_, q2⟩
  · cases hx
  · exact q2
/-- zip of two tuples, of two lists -/
theorem zipD_get : ∀ {xs ys : List D} {i : Nat} {d : D}, (zipD xs ys)[i]? = some d → ∃ x y, xs[i]? = some x ∧ ys[i]? = some y ∧ d = .tup [x, y]
  | [], _, _, _, h => by simp [zipD] at h
  | _ :: _, [], _, _, h => by simp [zipD] at h
  | x :: xs, y :: ys, 0, d, h => by
    simp [zipD] at h
    exact ⟨x, y, rfl, rfl, h.symm⟩
  | x :: xs, y :: ys, i + 1, d, h => by
    obtain ⟨u, w, h1, h2, h3⟩ := zipD_get (xs := xs) (ys := ys) (i := i) (d := d) (by simpa [zipD] using h)
    exact ⟨u, w, by simpa using h1, by simpa using h2, h3⟩
theorem zipD_len : ∀ (xs ys : List D), (zipD xs ys).length = min xs.length ys.length
  | [], _ => by simp [zipD]
  | _ :: _, [] => by simp [zipD]
  | _ :: xs, _ :: ys => by simp [zipD, zipD_len xs ys]
theorem itz_ok {K : PySem.W.Frag} {c : Ct} {H : Hp} {a b : Addr} {xs ys : List D} {us vs : List V} (ha : H a = some (.lst us)) (na : a ∉ c.m) (za : a ∉ c.z) (ra : RelDs K c H xs us) (hb : H b = some (.lst vs)) (nb : b ∉ c.m) (zb : b ∉ c.z) (rb : RelDs K c H ys vs) : ItOk K c H (zipD xs ys, none) (Itz K a b) := by
  intro c2 H2 S2 x s2 g
  have h1 : SqL K H2 a us := sqL_at (x.k _ _ na za ha)
  have h2 : SqL K H2 b vs := sqL_at (x.k _ _ nb zb hb)
  refine ⟨fun i d hd => ?_, ⟨us, vs, h1, h2, ?_⟩⟩
  · obtain ⟨d1, d2, hd1, hd2, rfl⟩ := zipD_get hd
    obtain ⟨v1, e1, r1⟩ := (ra.ext2 x).get hd1
    obtain ⟨v2, e2, r2⟩ := (rb.ext2 x).get hd2
    refine ⟨⟨us, vs, v1, v2, h1, h2, e1, e2⟩, fun y H3 hy => ?_⟩
    obtain ⟨T, x2, y2, rfl, hT, rfl, hx, hy⟩ := hy
    have q1 := hx us h1
    have q2 := hy vs h2
    rw [e1] at q1; cases q1
    rw [e2] at q2; cases q2
    have xn : Ext c2 H2 c2 (upd H2 T (.tup [v1, v2])) := Ext.new hT
    exact ⟨xn, s2.new hT, .tup upd_same (s2.fresh hT).1 (.cons (r1.ext xn) (.cons (r2.ext xn) .nil))⟩
  · show us.length ≤ (zipD xs ys).length ∨ vs.length ≤ (zipD xs ys).length
    rw [zipD_len, ra.length, rb.length]
    omega
theorem itzT_ok {K : PySem.W.Frag} {c : Ct} {H : Hp} {a b : Addr} {xs ys : List D} {us vs : List V} (ha : H a = some (.tup us)) (na : a ∉ c.m) (ra : RelDs K c H xs us) (hb : H b = some (.tup vs)) (nb : b ∉ c.m) (rb : RelDs K c H ys vs) : ItOk K c H (zipD xs ys, none) (RZ.ItzT K a b) := by
  intro c2 H2 S2 x s2 g
  have h1 : SqT K H2 a us := sqT_at (x.k _ _ na (x.nt ha) ha)
  have h2 : SqT K H2 b vs := sqT_at (x.k _ _ nb (x.nt hb) hb)
  refine ⟨fun i d hd => ?_, ⟨us, vs, h1, h2, ?_⟩⟩
  · obtain ⟨d1, d2, hd1, hd2, rfl⟩ := zipD_get hd
    obtain ⟨v1, e1, r1⟩ := (ra.ext2 x).get hd1
    obtain ⟨v2, e2, r2⟩ := (rb.ext2 x).get hd2
    refine ⟨⟨us, vs, v1, v2, h1, h2, e1, e2⟩, fun y H3 hy => ?_⟩
    obtain ⟨T, x2, y2, rfl, hT, rfl, hx, hy⟩ := hy
    have q1 := hx us h1
    have q2 := hy vs h2
    rw [e1] at q1; cases q1
    rw [e2] at q2; cases q2
    have xn : Ext c2 H2 c2 (upd H2 T (.tup [v1, v2])) := Ext.new hT
    exact ⟨xn, s2.new hT, .tup upd_same (s2.fresh hT).1 (.cons (r1.ext xn) (.cons (r2.ext xn) .nil))⟩
  · show us.length ≤ (zipD xs ys).length ∨ vs.length ≤ (zipD xs ys).length
    rw [zipD_len, ra.length, rb.length]
    omega
theorem so_zp {p tpos : Pos} {elts : List Expr} {kk : Nat} (hg : Gl X "zip") (hm : X.mg "zip" = none) (ha : PE X a (TX (Zx X W) f)) (hb : PE X b (TX (Zx X W) g)) (hs : noStar a = true) (hs2 : noStar b = true) :
    PI X (.Tuple elts kk tpos) (.Call (.Name "zip" p) [a, b] [] pos) (TIx (Zx X W) fun r S => (f r S).bnd fun x S1 => (g r S1).bnd fun y S2 => .opt (zpI S2 x y) S2) := by
  refine ⟨fun pins s σ H R I ⟨c, r, S, s1, e1, p⟩ => (RZ.pi_zipA hg hm (pa_cons ha (pa_cons hb pa_nil (star_cons hs2)) (star_cons hs)) (star_cons hs) (star_any (by simp [hs2]))).run pins s σ H R I ?_⟩
  show TX (Zx X W) f σ H _
  refine TXg.bnd s1 e1 p fun x S1 c1 v H1 _ s1 e1 r1 p1 => ?_
  show TX (Zx X W) g σ H1 _
  refine TXg.bnd s1 e1 p1 fun y S2 c2 w H2 x2 s2 e2 r2 p2 => ?_
  obtain ⟨it, hi, pp⟩ := Post.opt p2
  have r1 := r1.ext x2
  unfold zpI at hi
  split at hi
  · cases hi
    cases r1 with
    | tup h1 n1 q1 => cases r2 with
      | tup h2 n2 q2 => exact ⟨_, _, _, _, rfl, .inr ⟨sqT_at h1, sqT_at h2, pp.here s2 (itzT_ok h1 n1 q1 h2 n2 q2)⟩⟩
  · cases hi
    cases r1 with
    | lst h1 n1 z1 q1 => cases r2 with
      | lst h2 n2 z2 q2 => exact ⟨_, _, _, _, rfl, .inl ⟨sqL_at h1, sqL_at h2, pp.here s2 (itz_ok h1 n1 z1 q1 h2 n2 z2 q2)⟩⟩
  · cases hi
end
/-! ### targets -/
/-- no exception at all -/
abbrev no : WX := fun _ _ _ _ => False
def TXa (Z : Se) (ws : List Nat) (f : D → Env → Store → R Env) : TG := fun v σ H Q => ∃ c r S d, RelS Z.K c S H ∧ RelE Z.K c H r σ ∧ RelD Z.K c H d v ∧
  Post ⟨Z.K, Z.mg, no⟩ (fun c' H' r' σ' => RelE Z.K c' H' r' σ' ∧ σ'.length = σ.length ∧ ∀ j, j ∉ ws → σ'[j]? = σ[j]?) (f d r S) c σ H Q
def TXas (Z : Se) (ws : List Nat) (f : List D → Env → Store → R Env) : TGs := fun v σ H Q => ∃ c r S d, RelS Z.K c S H ∧ RelE Z.K c H r σ ∧ RelDs Z.K c H d v ∧
  Post ⟨Z.K, Z.mg, no⟩ (fun c' H' r' σ' => RelE Z.K c' H' r' σ' ∧ σ'.length = σ.length ∧ ∀ j, j ∉ ws → σ'[j]? = σ[j]?) (f d r S) c σ H Q
theorem PG.of {X : Cx} {e : Expr} {t t' : TG} (h : PG X e t) (w : ∀ v σ H Q, t' v σ H Q → t v σ H Q) : PG X e t' := ⟨fun pins s σ H v u Q I r q => h.run pins s σ H v u Q I r (w _ _ _ _ q)⟩
theorem PGs.of {X : Cx} {e : List Expr} {t t' : TGs} (h : PGs X e t) (w : ∀ v σ H Q, t' v σ H Q → t v σ H Q) : PGs X e t' := ⟨fun pins s σ H v u Q I r q => h.run pins s σ H v u Q I r (w _ _ _ _ q)⟩
theorem asgE_cons {e : Expr} {es : List Expr} {env : PySem.Env} (h : noStar e = true) : assignEach (e :: es) env = (false, assign e env) :: assignEach es env := by
  cases e <;> first | rfl | cases h
theorem asgE_len {env : PySem.Env} : ∀ {es : List Expr}, es.all noStar = true → (assignEach es env).length = es.length
  | [], _ => rfl
  | e :: es, h => by
    obtain ⟨h1, h2⟩ := Bool.and_eq_true_iff.mp (show (noStar e && es.all noStar) = true from h)
    rw [asgE_cons h1]
    show _ + 1 = _ + 1
    rw [asgE_len h2]
theorem asgE_star {env : PySem.Env} : ∀ {es : List Expr}, es.all noStar = true → (assignEach es env).findIdx? (·.1) = none
  | [], _ => rfl
  | e :: es, h => by
    obtain ⟨h1, h2⟩ := Bool.and_eq_true_iff.mp (show (noStar e && es.all noStar) = true from h)
    rw [asgE_cons h1, List.findIdx?_cons]
    simp [asgE_star h2]
section
variable {X : Cx} {W : WX} {a b e : Expr} {es : List Expr} {f g : Env → Store → R D} {pos : Pos} {ws us : List Nat} {fa : D → Env → Store → R Env} {fb : List D → Env → Store → R Env}
theorem so_gn {i : Nat} {x : Str} (hN : X.N.Nodup) (hi : X.N[i]? = some x) (hx : Loc X.env.scope x) (hf : X.fn x = true ∨ X.env.scope.names.lookup x = some .local) : PG X (.Name x pos) (TXa (Zx X W) [i] fun d r S => .ok (r.set i (some d)) S) :=
  PG.of (pg_name hN hi hx hf) fun v σ H Q ⟨c, r, S, d, s, e, q, p⟩ => p.here s ⟨e.set q, by simp, fun j hj => List.getElem?_set_ne fun z => hj (by simp [z])⟩
theorem so_gnil : PGs X [] (TXas (Zx X W) [] fun ds r S => (match ds with
    | [] => .ok r S
    | _ => .bad)) :=
  PGs.of pgs_nil fun v σ H Q ⟨c, r, S, d, s, e, q, p⟩ => by
    cases q with
    | nil => exact ⟨rfl, p.here s ⟨e, rfl, fun _ _ => rfl⟩⟩
    | cons _ _ => exact p.elim
theorem so_gcons (hs : noStar e = true) (h1 : PG X e (TXa (Zx X W) ws fa)) (h2 : PGs X es (TXas (Zx X W) us fb)) : PGs X (e :: es) (TXas (Zx X W) (ws ++ us) fun ds r S => (match ds with
    | d :: ds => (fa d r S).bnd fun r1 S1 => fb ds r1 S1
    | [] => .bad)) :=
  PGs.of (pgs_cons h1 h2 (by rw [asgE_cons hs]; rfl)) fun v σ H Q ⟨c, r, S, d, s, e, q, p⟩ => by
    cases q with
    | nil => exact p.elim
    | @cons d v ds vs q1 q2 =>
      have p : Post ⟨X.K, X.mg, no⟩ (fun c' H' r' σ' => RelE X.K c' H' r' σ' ∧ σ'.length = σ.length ∧ ∀ j, j ∉ ws ++ us → σ'[j]? = σ[j]?) ((fa d r S).bnd fun r1 S1 => fb ds r1 S1) c σ H Q := p
      refine ⟨v, vs, rfl, c, r, S, d, s, e, q1, ?_⟩
      cases z : fa d r S with
      | bad => rw [z] at p; exact p.elim
      | exc nm fl S1 => rw [z] at p; exact p
      | ok r1 S1 =>
        rw [z] at p
        have p : Post ⟨X.K, X.mg, no⟩ (fun c' H' r' σ' => RelE X.K c' H' r' σ' ∧ σ'.length = σ.length ∧ ∀ j, j ∉ ws ++ us → σ'[j]? = σ[j]?) (fb ds r1 S1) c σ H Q := p
        intro c1 σ1 H1 x1 s1 r1'
        refine ⟨c1, r1, S1, ds, s1, r1'.1, q2.ext x1, ?_⟩
        have p := Post.ext x1 p
        cases z2 : fb ds r1 S1 with
        | bad => rw [z2] at p; exact p.elim
        | exc nm fl S2 => rw [z2] at p; exact p
        | ok r2 S2 =>
          rw [z2] at p
          intro c2 σ2 H2 x2 s2 r2'
          exact p c2 σ2 H2 x2 s2 ⟨r2'.1, r2'.2.1.trans r1'.2.1, fun j hj => by rw [r2'.2.2 j (fun m => hj (List.mem_append_right _ m)), r1'.2.2 j (fun m => hj (List.mem_append_left _ m))]⟩
theorem so_gtup {kk n : Nat} (hc : X.calm = true) (hs : es.all noStar = true) (h : PGs X es (TXas (Zx X W) ws fb)) (hn : n = es.length) :
    PG X (.Tuple es kk pos) (TXa (Zx X W) ws fun d r S => (match d with
      | .tup xs => if xs.length = n then fb xs r S else .bad
      | _ => .bad)) :=
  PG.of (pg_tup hc h (n := es.length) (asgE_len hs) (asgE_star hs)) fun v σ H Q ⟨c, r, S, d, s, e, q, p⟩ => by
    cases q with
    | @tup a ds vs h1 h2 h3 =>
      have p : Post ⟨X.K, X.mg, no⟩ (fun c' H' r' σ' => RelE X.K c' H' r' σ' ∧ σ'.length = σ.length ∧ ∀ j, j ∉ ws → σ'[j]? = σ[j]?) (if ds.length = n then fb ds r S else .bad) c σ H Q := p
      by_cases hl : ds.length = n
      · rw [if_pos hl] at p
        exact ⟨_, _, rfl, sqT_at h1, by rw [← h3.length, hl, hn], c, r, S, _, s, e, h3, p⟩
      · rw [if_neg hl] at p; exact p.elim
    | _ => exact p.elim
theorem Post.no {α β : Type} {K : PySem.W.Frag} {mg : Str → Option Value} {W : WX} {Rl : Ct → Hp → α → β → Prop} {m : R α} {c : Ct} {σ : L2.St} {H : Hp} {Q : β → Hp → Prop} (h : Post ⟨K, mg, RR.no⟩ Rl m c σ H Q) : Post ⟨K, mg, W⟩ Rl m c σ H Q := by
  cases m with
  | ok d S => exact h
  | exc nm fl S => exact fun c2 cls z H2 y s r => (h c2 cls z H2 y s r).elim
  | bad => exact h
theorem so_gsub {o i : Expr} (ho : PE X o (TX (Zx X W) f)) (hi : PE X i (TX (Zx X W) g)) (hs : noSlice i = true) : PG X (.Subscript o i pos) (TXa (Zx X W) [] fun d r S => (f r S).bnd fun x S1 => (g r S1).bnd fun k S2 => (match subD S2 x k d with
    | some S3 => .ok r S3
    | none => .bad)) :=
  PG.of (pg_sub ho hi (i_set (Z := Zx X W)) (by
    cases i <;> first | (intro v; rfl) | cases hs)) fun v σ H Q ⟨c, r, S, d, s, e, q, p⟩ => by
    refine TXg.bnd s e p.no fun x S1 c1 w H1 x1 s1 e1 r1 p1 => TXg.bnd s1 e1 p1 fun k S2 c2 u H2 x2 s2 e2 r2 p2 => ?_
    cases z : subD S2 x k d with
    | none => rw [z] at p2; exact p2.elim
    | some S3 =>
      rw [z] at p2
      exact ⟨c2, S2, x, k, d, S3, s2, r1.ext x2, r2, (q.ext x1).ext x2, z, fun c3 H3 x3 s3 => p2 c3 σ H3 x3 s3 ⟨e2.ext x3, rfl, fun _ _ => rfl⟩⟩
end
end RR

set_option Elab.async false
set_option linter.all false
set_option maxRecDepth 100000
set_option maxHeartbeats 2000000
/-! enumerate(a tuple) -/
namespace RRS
open PySem PyProof.Rows
open Sem (wp)
set_option maxHeartbeats 4000000 in
theorem meets_enumerate_newT (t : Addr) (items : Array Value) :
    Meets (Builtin.«enumerate.__new__» ⟨[.type "enumerate", .ref t], []⟩) (fun _ R s => s.heap.IsTuple t items ∧
      R (.ok (.ret (.ref (s.heap.push { cls := .type "tuple_iterator", data := .fields #[.ref t, .int 0 0] }).objs.size)))
        { s with heap := (s.heap.push { cls := .type "tuple_iterator", data := .fields #[.ref t, .int 0 0] }).push { cls := .type "enumerate", data := .fields #[.none, .bool false, .ref s.heap.objs.size, rawInt 0, .none, .none] } }) :=
  .of_wp fun prog w A R s hh => by
    obtain ⟨ht, h⟩ := hh
    obtain ⟨hp, g, d, tk, os⟩ := s
    have hsub := sub_enumerate
    wp_walk
    refine wpAny_stack_any fun st => wpAny_pure ?_
    split
    · rename_i c _ _ _ _ _
      cases (c == Value.type "enumerate")
      · wp_walk using wpAny_pyIter_tuple ht
        exact ⟨_, rfl, h⟩
      · wp_walk using wpAny_pyIter_tuple ht
        exact ⟨_, rfl, h⟩
    · wp_walk using wpAny_pyIter_tuple ht
      exact ⟨_, rfl, h⟩
section
variable {prog : Program} {w : World} {A : Around} {E : Value → Shared → Prop} {s : Shared}
theorem call_enumerate_tuple {t : Addr} {items : Array Value} {Q : Value → Shared → Prop} (ht : s.heap.IsTuple t items)
    (h : ∀ h', IsEnum h' (s.heap.objs.size + 1) s.heap.objs.size 0 .none → h'.IsTupleIter s.heap.objs.size t 0 → h'.objs.size = s.heap.objs.size + 2 →
      (∀ b o, s.heap.get? b = some o → h'.get? b = some o) → Q (.ref (s.heap.objs.size + 1)) { s with heap := h' }) :
    wpAny (model prog w) A (call (.type "enumerate") [.ref t]) Q E s := by
  refine callType_new F.called_enumerate (by decide) (F.typeCall_enumerate_1 _) (F.newCall_enumerate_1 _) (fun obj => F.args_object_init_2 obj _) F.entry_enumerate_new
    (meets_enumerate_newT t items) ⟨ht, ?_⟩
  have hz : (s.heap.push { cls := .type "tuple_iterator", data := .fields #[.ref t, .int 0 0] }).objs.size = s.heap.objs.size + 1 := Heap.size_push ..
  show _ ∧ _
  rw [hz]
  have he : IsEnum ((s.heap.push { cls := .type "tuple_iterator", data := .fields #[.ref t, .int 0 0] }).push
      { cls := .type "enumerate", data := .fields #[.none, .bool false, .ref s.heap.objs.size, rawInt 0, .none, .none] }) (s.heap.objs.size + 1) s.heap.objs.size 0 .none := by
    have := Heap.get?_push_size (s.heap.push { cls := .type "tuple_iterator", data := .fields #[.ref t, .int 0 0] })
      (o := { cls := .type "enumerate", data := .fields #[.none, .bool false, .ref s.heap.objs.size, rawInt 0, .none, .none] }) rfl
    rw [hz] at this; exact this
  refine ⟨⟨_, he, rfl⟩, h _ he ⟨_, Heap.get?_push_of_some _ (Heap.get?_push_size _ rfl), rfl, rfl⟩ (by rw [Heap.size_push, hz]) fun b o x => Heap.get?_push_of_some _ (Heap.get?_push_of_some _ x)⟩
end
end RRS
namespace RR
open PySem PySem.Spec PyProof.Rows L2
/-- the tuple at a, each item in a new pair -/
def IteT (K : PySem.W.Frag) (a : Addr) : L2.It :=
  ⟨fun i H => ∃ (xs : List V) (x : V), SqT K H a xs ∧ xs[i]? = some x, fun i H v H' => ∃ T x, v = .ref T ∧ H T = none ∧ H' = upd H T (.tup [.int (i : Nat), x]) ∧ ∀ xs, SqT K H a xs → xs[i]? = some x, fun i H => ∃ xs : List V, SqT K H a xs ∧ xs.length ≤ i⟩
theorem turn_enumT {P : Program} {w : World} {K : PySem.W.Frag} {elts : List Expr} {kk : Nat} {tpos : Pos} (a e it : Addr) :
    Turn P w K (.Tuple elts kk tpos) (IteT K a) [e, it] e (fun i h => (∃ old, IsEnum h e it ((i : Nat) : Int) old) ∧ h.IsTupleIter it a i ∧ e ≠ it ∧ e ≠ a ∧ it ≠ a) where
  mem := by simp
  obj := fun i h st b hb => by
    obtain ⟨⟨old, he⟩, ⟨o, ho, hc, hd⟩, _⟩ := st
    have e' : b = e ∨ b = it := by simpa using hb
    rcases e' with z | z
    · rw [z]; exact ⟨_, he, fun v q => nomatch q⟩
    · rw [z]; exact ⟨o, ho, fun v q => by rw [hd] at q; cases q⟩
  keep := fun i h h' st k => let ⟨⟨old, he⟩, hi, hne⟩ := st; ⟨⟨old, k e (by simp) _ he⟩, hi.at fun o q => k it (by simp) o q, hne⟩
  item := by
    intro X hP hw hK hc i pins s σ H E I hf st hg
    subst hP hw hK
    obtain ⟨⟨old, he⟩, hit, hne, hea, hia⟩ := st
    obtain ⟨xs, x, hq, hx⟩ := hg
    obtain ⟨its, rv, p, hz⟩ := I.tuple hq
    obtain ⟨u, hu, ru⟩ := rv.get hx
    have hel : e < s.heap.objs.size := Heap.lt_size he
    have hil : it < s.heap.objs.size := by obtain ⟨_, q, _⟩ := hit; exact Heap.lt_size q
    have hlt : i < its.toArray.size := by
      have := (List.getElem?_eq_some_iff.mp hu).1
      simpa using this
    refine wpAny_pyNext_enum_itemC (Draws.tuple (A := X.A.in1) (show X.A.in1.handled = none from I.ok.hd hc) it a (Ne.symm hia) its.toArray) he ⟨hit, p⟩ hlt hne (by simp [hne, hea]) fun y h' tk hy ho hst hT hsz hk => ?_
    have hyu : y = u := by
      have : its.toArray[i]? = some u := by simpa using hu
      rw [this] at hy
      exact (Option.some.inj hy).symm
    subst hyu
    obtain ⟨hit', _⟩ := hst
    refine ⟨_, rfl, wpAny_letOwnedTupleGo_enum (s := { s with heap := h', toks := tk + 1 }) ho fun h'' he' sb => ?_⟩
    have hT2 : h''.get? s.heap.objs.size = some { cls := .type "tuple", data := .seq #[.int i tk, y] } := (sb.2 _ (Nat.ne_of_gt hel)).trans hT
    have new : ObjOk X.prog X.w (upd H s.heap.objs.size (.tup [.int (i : Nat), x])) h'' s.heap.objs.size (.tup [.int (i : Nat), x]) :=
      ⟨by show 2 ≤ sizeLine; decide, [.int i tk, y], .cons ⟨_, rfl⟩ (.cons ru .nil), ⟨_, hT2, rfl, _, rfl⟩⟩
    have I1 : Inv X pins σ (upd H s.heap.objs.size (.tup [.int (i : Nat), x])) { s with heap := h'', toks := tk + 1 } :=
      I.turnedNew (ch := [e, it]) (fun b ob hb q => (sb.2 b (fun z => hb (by simp [z]))).trans (hk b ob (fun z => hb (by simp [z])) (fun z => hb (by simp [z])) q)) hf (Nat.le_refl _) new
    refine ⟨.ref s.heap.objs.size, _, I1, rfl, ⟨_, x, rfl, I.hok.fresh (Nat.le_refl _), rfl, fun ys hy => by rw [I.tuple_inj hy hq]; exact hx⟩, ⟨⟨y, ?_⟩, hit'.at fun o q => (sb.2 it (Ne.symm hne)).trans q, hne, hea, hia⟩, fun b hb => ?_⟩
    · have e1 : ((i + 1 : Nat) : Int) = (i : Int) + 1 := by omega
      rw [e1]; exact he'
    · have hb' : b < s.heap.objs.size := by
        have e' : b = e ∨ b = it := by simpa using hb
        rcases e' with z | z
        · rw [z]; exact hel
        · rw [z]; exact hil
      rw [upd_ne (Nat.ne_of_lt hb')]
      exact (hf b hb).1
  done := by
    intro X hP hw hK hc i pins s σ H E I hf st hg
    subst hP hw hK
    obtain ⟨⟨old, he⟩, hit, hne, hea, hia⟩ := st
    obtain ⟨xs, hq, hx⟩ := hg
    obtain ⟨its, rv, p, hz⟩ := I.tuple hq
    obtain ⟨f0, f1, f2, f3, f4, f5⟩ := hf it (by simp)
    have hl := rv.length
    have hT : s.TypeIs (.ref e) "enumerate" := ⟨_, he, rfl⟩
    unfold pyNext
    refine wpAny_bind (wpAny_attempt (wpAny_callSpecial?_slot (name := Str.ofString "__next__") hT F.slot_enumerate_next
      (wpAny_call_entry F.slot_enumerate_next hT F.entry_enumerate_next ?_ (F.args_enumerate_next_1 _))))
    show wpAny _ _ (field (.ref e) 2 >>= _) _ _ _
    refine wpAny_bind (wpAny_field he rfl (x := .ref it) rfl ?_)
    refine wpAny_bind (wpAny_nextOf_tuple_end (I.ok.hd hc) hit p (Array.getElem?_eq_none (by simp; omega)) fun h' x he' hx' => ?_)
    obtain ⟨o, ho, hc⟩ := hx'
    refine wpAny_bind (wpAny_isInstance (T := "StopIteration") (b := true) ⟨o, ho, hc⟩ isSubtype_stop ?_)
    exact wpAny_pure ⟨rfl, I.turned (t' := s.toks) (fun b o hb q => he' b o hb q) f0 f1 f3 f4 f5⟩
  self := fun A i s Q E st h => let ⟨⟨_, he⟩, _⟩ := st; wpAny_pyIter_enum he h
def iEnumA (K : PySem.W.Frag) (ta : TA) : TI := fun σ H R => ta σ H fun vs H1 => ∃ a, vs = [.ref a] ∧ ((∃ xs, SqL K H1 a xs ∧ R (Ite K a) H1) ∨ ∃ xs, SqT K H1 a xs ∧ R (IteT K a) H1)
theorem pi_enumA {X : Cx} {e : Expr} {ta : TA} {p pos tpos : Pos} {elts : List Expr} {kk : Nat} (hg : Gl X "enumerate") (hm : X.mg "enumerate" = none) (ha : PA X [e] ta) (hs : starEach [e] X.env = [(false, eval e X.env)] := by rfl) :
    PI X (.Tuple elts kk tpos) (.Call (.Name "enumerate" p) [e] [] pos) (iEnumA X.K ta) := by
  refine ⟨fun pins s σ H R I h => ?_⟩
  refine Call_ (ld_blt I hg hm boot_enumerate (PyProof.Rows.callWith_type1 (thn (ha.run pos pins s σ H _ I h) fun us s1 ⟨vs, H1, I1, r1, q1⟩ => ?_) hs rfl))
  obtain ⟨a, ex, q⟩ := q1
  subst ex
  cases r1 with
  | cons r rr =>
    cases rr
    cases r
    rcases q with ⟨xs, hq, q⟩ | ⟨xs, hq, q⟩
    · obtain ⟨its, rv, p', hz⟩ := I1.list hq
      refine call_enumerate_list p'.isList fun h' he hit hsz hk => wpAny_pyIter_enum he ?_
      have I2 : Inv X pins σ H1 { s1 with heap := h' } := I1.kept (t' := s1.toks) hk
      refine ⟨s1.heap.objs.size + 1, [s1.heap.objs.size + 1, s1.heap.objs.size], _, _, H1, rfl, I2, turn_enum a (s1.heap.objs.size + 1) s1.heap.objs.size, ⟨⟨.none, he⟩, hit, Nat.succ_ne_self _⟩, fun b hb => ?_, q⟩
      have e' : b = s1.heap.objs.size + 1 ∨ b = s1.heap.objs.size := by simpa using hb
      have hle : s1.heap.objs.size ≤ b := by
        rcases e' with z | z
        · rw [z]; exact Nat.le_add_right _ _
        · rw [z]; exact Nat.le_refl _
      exact I1.fpOk hle (I1.hok.fresh hle)
    · obtain ⟨its, rv, p', hz⟩ := I1.tuple hq
      have hal : a < s1.heap.objs.size := by
        obtain ⟨o, ho, _⟩ := p'
        exact Heap.lt_size ho
      refine RRS.call_enumerate_tuple p' fun h' he hit hsz hk => wpAny_pyIter_enum he ?_
      have I2 : Inv X pins σ H1 { s1 with heap := h' } := I1.kept (t' := s1.toks) hk
      refine ⟨s1.heap.objs.size + 1, [s1.heap.objs.size + 1, s1.heap.objs.size], _, _, H1, rfl, I2, turn_enumT a (s1.heap.objs.size + 1) s1.heap.objs.size, ⟨⟨.none, he⟩, hit, Nat.succ_ne_self _, Nat.ne_of_gt (Nat.lt_succ_of_lt hal), Nat.ne_of_gt hal⟩, fun b hb => ?_, q⟩
      have e' : b = s1.heap.objs.size + 1 ∨ b = s1.heap.objs.size := by simpa using hb
      have hle : s1.heap.objs.size ≤ b := by
        rcases e' with z | z
        · rw [z]; exact Nat.le_add_right _ _
        · rw [z]; exact Nat.le_refl _
      exact I1.fpOk hle (I1.hok.fresh hle)
section
variable {X : Cx} {W : WX} {tg a b e : Expr} {es : List Expr} {f g : Env → Store → R D} {pos : Pos}
theorem iteT_ok {K : PySem.W.Frag} {c : Ct} {H : Hp} {a : Addr} {xs : List D} {gd : Gd} (h : ∀ c2 H2 S2, Ext2 c H c2 H2 → RelS K c2 S2 H2 → gdOk gd S2 → ∃ vs, SqT K H2 a vs ∧ RelDs K c2 H2 xs vs) : ItOk K c H (enumD 0 xs, gd) (IteT K a) := by
  intro c2 H2 S2 x s2 g
  obtain ⟨vs, h1, h2⟩ := h c2 H2 S2 x s2 g
  refine ⟨fun i d hd => ?_, ⟨vs, h1, by show vs.length ≤ (enumD 0 xs).length; rw [enumD_len, h2.length]; exact Nat.le_refl _⟩⟩
  obtain ⟨d1, hd1, rfl⟩ := enumD_get hd
  obtain ⟨v, e1, r1⟩ := h2.get hd1
  refine ⟨⟨vs, v, h1, e1⟩, fun y H3 hy => ?_⟩
  obtain ⟨T, x2, rfl, hT, rfl, hy⟩ := hy
  have e2 := hy vs h1
  rw [e1] at e2; cases e2
  have xn : Ext c2 H2 c2 (upd H2 T (.tup [.int (i : Nat), v])) := Ext.new hT
  refine ⟨xn, s2.new hT, .tup upd_same (s2.fresh hT).1 (.cons ?_ (.cons (r1.ext xn) .nil))⟩
  rw [Nat.zero_add]
  exact .int _
theorem so_enmA {p tpos : Pos} {elts : List Expr} {kk : Nat} (hg : Gl X "enumerate") (hm : X.mg "enumerate" = none) (ha : PE X a (TX (Zx X W) f)) (hs : noStar a = true) :
    PI X (.Tuple elts kk tpos) (.Call (.Name "enumerate" p) [a] [] pos) (TIx (Zx X W) fun r S => (f r S).bnd fun x S1 => .opt (enmI S1 x) S1) := by
  refine ⟨fun pins s σ H R I ⟨c, r, S, s1, e1, p⟩ => (pi_enumA hg hm (pa_cons ha pa_nil (star_cons hs)) (star_cons hs)).run pins s σ H R I ?_⟩
  show TX (Zx X W) f σ H _
  refine TXg.bnd s1 e1 p fun x S1 c1 v H1 _ s1 e1 r1 p1 => ?_
  obtain ⟨it, hi, pp⟩ := Post.opt p1
  obtain ⟨xs, hx2, rfl⟩ := Option.map_eq_some_iff.mp (show (itemsD S1 x).map (fun xs => (enumD 0 xs, guard x xs)) = some it from hi)
  obtain ⟨z2, e, q2⟩ := items_later s1 hx2 r1
  subst e
  obtain ⟨z3, vs, e3, h3, h4⟩ := itemsD_at s1 hx2 r1
  cases e3
  refine ⟨z2, rfl, ?_⟩
  rcases q2 with ⟨hy, q2⟩ | ⟨hl, q2⟩
  · refine .inr ⟨vs, ?_, pp.here s1 (iteT_ok q2)⟩
    rcases h3 with ⟨_, h3⟩ | ⟨hl, h3⟩
    · exact h3
    · obtain ⟨ys, rfl⟩ := hy
      cases hl
  · refine .inl ⟨vs, ?_, pp.here s1 (ite_ok q2)⟩
    rcases h3 with ⟨⟨ys, rfl⟩, h3⟩ | ⟨_, h3⟩
    · cases hl
    · exact h3
end
end RR

set_option Elab.async false
set_option linter.all false
set_option maxRecDepth 100000
set_option maxHeartbeats 1000000
/-! new lists, comprehensions, methods, calls -/
namespace RR
open PySem PySem.Spec PyProof.Rows L2
section
variable {K : PySem.W.Frag} {c c' c2 : Ct} {H H' H2 : Hp} {S : Store}
/-! ### a list in the making -/
mutual
theorem RelD.putz {L : Addr} {o : HO} {us : List V} (hL : L ∈ c.z) (hH : H L = some (.lst us)) : ∀ {d : D} {v : V}, RelD K c H d v → RelD K c (upd H L o) d v
  | _, _, .non => .non
  | _, _, .bl b => .bl b
  | _, _, .int i => .int i
  | _, _, .str z => .str z
  | _, _, .tup h n r => .tup (by rw [upd_ne (fun e => by rw [e, hH] at h; cases h)]; exact h) n (RelDs.putz hL hH r)
  | _, _, .lst h n nz r => .lst (by rw [upd_ne (fun e => nz (by rw [e]; exact hL))]; exact h) n nz (RelDs.putz hL hH r)
  | _, _, .scr h q n nz => .scr (by rw [upd_ne (fun e => nz (by rw [e]; exact hL))]; exact h) (sqL_ext q fun o e => by rw [upd_ne (fun e => nz (by rw [e]; exact hL))]; exact e) n nz
  | _, _, .scK q => .scK q
  | _, _, .dct h n nz l r => .dct (by rw [upd_ne (fun e => nz (by rw [e]; exact hL))]; exact h) n nz l (RelDs.putz hL hH r)
  | _, _, .ref h => .ref h
theorem RelDs.putz {L : Addr} {o : HO} {us : List V} (hL : L ∈ c.z) (hH : H L = some (.lst us)) : ∀ {ds : List D} {vs : List V}, RelDs K c H ds vs → RelDs K c (upd H L o) ds vs
  | _, _, .nil => .nil
  | _, _, .cons r t => .cons (RelD.putz hL hH r) (RelDs.putz hL hH t)
end
theorem RelS.putz {L : Addr} {us ys : List V} (s : RelS K c S H) (hL : L ∈ c.z) (hH : H L = some (.lst us)) : RelS K c S (upd H L (.lst ys)) := by
  refine ⟨s.len, s.nd, fun i o h => ?_, fun a ha => ⟨(s.zn a ha).1, ?_⟩⟩
  · obtain ⟨a, h1, h2⟩ := s.ob i o h
    refine ⟨a, h1, ?_⟩
    have hne : a ≠ L := fun e => (s.zn L hL).1 (by rw [← e]; exact List.mem_of_getElem? h1)
    cases o with
    | lst xs =>
      obtain ⟨vs, h3, h4⟩ := h2
      exact ⟨vs, by rw [upd_ne hne]; exact h3, h4.putz hL hH⟩
  · by_cases e : a = L
    · subst e; exact ⟨_, upd_same⟩
    · obtain ⟨o, h⟩ := (s.zn a ha).2
      exact ⟨o, by rw [upd_ne e]; exact h⟩

mutual
theorem RelD.out {L : Addr} {z : List Addr} {us : List V} {t : List Addr} (hz : c.z = L :: z) (hH : H L = some (.lst us)) (ht : ∀ a ∈ t, a = L) : ∀ {d : D} {v : V}, RelD K c H d v → RelD K ⟨c.m ++ t, z⟩ H d v
  | _, _, .non => .non
  | _, _, .bl b => .bl b
  | _, _, .int i => .int i
  | _, _, .str z => .str z
  | _, _, .tup h n r => .tup h (fun e => (List.mem_append.mp e).elim n fun q => by rw [ht _ q, hH] at h; cases h) (RelDs.out hz hH ht r)
  | _, _, .lst h n nz r => .lst h (fun e => (List.mem_append.mp e).elim n fun q => nz (by rw [hz, ht _ q]; exact List.mem_cons_self)) (fun e => nz (by rw [hz]; exact List.mem_cons_of_mem _ e)) (RelDs.out hz hH ht r)
  | _, _, .scr h q n nz => .scr h q (fun e => (List.mem_append.mp e).elim n fun q => nz (by rw [hz, ht _ q]; exact List.mem_cons_self)) (fun e => nz (by rw [hz]; exact List.mem_cons_of_mem _ e))
  | _, _, .scK q => .scK q
  | _, _, .dct h n nz l r => .dct h (fun e => (List.mem_append.mp e).elim n fun q => nz (by rw [hz, ht _ q]; exact List.mem_cons_self)) (fun e => nz (by rw [hz]; exact List.mem_cons_of_mem _ e)) l (RelDs.out hz hH ht r)
  | _, _, .ref h => .ref (by rw [List.getElem?_append_left (List.getElem?_eq_some_iff.mp h).1]; exact h)
theorem RelDs.out {L : Addr} {z : List Addr} {us : List V} {t : List Addr} (hz : c.z = L :: z) (hH : H L = some (.lst us)) (ht : ∀ a ∈ t, a = L) : ∀ {ds : List D} {vs : List V}, RelDs K c H ds vs → RelDs K ⟨c.m ++ t, z⟩ H ds vs
  | _, _, .nil => .nil
  | _, _, .cons r t' => .cons (RelD.out hz hH ht r) (RelDs.out hz hH ht t')
end
/-- what stood stands, as it was but for the store's -/
def Kp (c : Ct) (H H' : Hp) : Prop := ∀ a o, H a = some o → (∃ o', H' a = some o') ∧ (a ∉ c.m → H' a = some o)
/-- the list that was made is told -/
theorem made {Z : Se} {c1 : Ct} {H1 : Hp} {L : Addr} {al : Bool} {ds : List D} {us : List V} {S : Store} {σ : L2.St} {Q : VK} {S1 : Store} (s1 : RelS Z.K c1 S1 H1) (hL : H1 L = none) (x : Ext2 c1 H1 c H) (hz : c.z = L :: c1.z) (k : Kp c1 H1 H)
    (s : RelS Z.K c S H) (hH : H L = some (.lst us)) (r : RelDs Z.K c H ds us) (p : Post Z (RelD Z.K) (mkL al (.ok ds S)) c1 σ H1 Q) : Q (.ref L) H := by
  have hLz : L ∈ c.z := by rw [hz]; exact List.mem_cons_self
  have hLm := (s.zn L hLz).1
  obtain ⟨t, em, ft⟩ := x.m
  have nz : ∀ a ∈ c1.z, a ≠ L := fun a ha e => by
    obtain ⟨_, o, q⟩ := s1.zn a ha
    rw [e, hL] at q; cases q
  cases al with
  | false =>
    have p : Post Z (RelD Z.K) (.ok (.lst ds) S) c1 σ H1 Q := p
    have e0 : (⟨c.m ++ [], c1.z⟩ : Ct) = ⟨c.m, c1.z⟩ := by rw [List.append_nil]
    refine p ⟨c.m, c1.z⟩ (.ref L) H ⟨rfl, ⟨t, em, ft⟩, fun a o n h => (k a o h).2 n, fun a o h => (k a o h).1⟩ ⟨s.len, s.nd, fun i o h => ?_, fun a ha => ?_⟩ (.lst hH hLm (fun h => nz L h rfl) ?_)
    · obtain ⟨a, h1, h2⟩ := s.ob i o h
      refine ⟨a, h1, ?_⟩
      cases o with
      | lst xs =>
        obtain ⟨vs, h3, h4⟩ := h2
        have q := h4.out hz hH (t := []) (by simp)
        rw [e0] at q
        exact ⟨vs, h3, q⟩
    · exact s.zn a (by rw [hz]; exact List.mem_cons_of_mem _ ha)
    · have q := r.out hz hH (t := []) (by simp)
      rw [e0] at q
      exact q
  | true =>
    have p : Post Z (RelD Z.K) (.ok (.ref S.length) (S ++ [.lst ds])) c1 σ H1 Q := p
    have go : ∀ {ds : List D} {vs : List V}, RelDs Z.K c H ds vs → RelDs Z.K ⟨c.m ++ [L], c1.z⟩ H ds vs := fun r => r.out hz hH (by simp)
    refine p ⟨c.m ++ [L], c1.z⟩ (.ref L) H ⟨rfl, ⟨t ++ [L], by show c.m ++ [L] = _; rw [em, List.append_assoc], fun a ha => ?_⟩, fun a o n h => (k a o h).2 n, fun a o h => (k a o h).1⟩ ⟨?_, ?_, fun i o h => ?_, fun a ha => ?_⟩ (.ref ?_)
    · rcases List.mem_append.mp ha with q | q
      · exact ft a q
      · rw [List.mem_singleton.mp q]; exact hL
    · show (c.m ++ [L]).length = (S ++ [_]).length
      rw [List.length_append, List.length_append, s.len]; rfl
    · exact List.nodup_append.mpr ⟨s.nd, by simp, fun a ha b hb => by rw [List.mem_singleton.mp hb]; exact fun e => hLm (by rw [← e]; exact ha)⟩
    · by_cases hi : i < S.length
      · rw [List.getElem?_append_left hi] at h
        obtain ⟨a, h1, h2⟩ := s.ob i o h
        refine ⟨a, by show (c.m ++ [L])[i]? = _; rw [List.getElem?_append_left (by rw [s.len]; exact hi)]; exact h1, ?_⟩
        cases o with
        | lst xs =>
          obtain ⟨vs, h3, h4⟩ := h2
          exact ⟨vs, h3, go h4⟩
      · rw [List.getElem?_append_right (by omega)] at h
        have hi0 : i = S.length := by
          have := (List.getElem?_eq_some_iff.mp h).1
          simp at this
          omega
        subst hi0
        simp at h
        subst h
        refine ⟨L, by show (c.m ++ [L])[S.length]? = _; rw [← s.len]; simp, us, hH, go r⟩
    · refine ⟨fun h => ?_, (s.zn a (by rw [hz]; exact List.mem_cons_of_mem _ ha)).2⟩
      rcases List.mem_append.mp h with q | q
      · exact (s.zn a (by rw [hz]; exact List.mem_cons_of_mem _ ha)).1 q
      · exact nz a ha (List.mem_singleton.mp q)
    · show (c.m ++ [L])[S.length]? = some L
      rw [← s.len]; simp
/-- a list that comes at once -/
theorem mk_new {Z : Se} {al : Bool} {ds : List D} {vs : List V} {σ : L2.St} {Q : VK} {p : Addr} (s : RelS Z.K c S H) (r : RelDs Z.K c H ds vs) (hp : H p = none) (q : Post Z (RelD Z.K) (mkL al (.ok ds S)) c σ H Q) : Q (.ref p) (upd H p (.lst vs)) := by
  have x : Ext c H c (upd H p (.lst vs)) := Ext.new hp
  have x2 : Ext2 c H ⟨c.m, p :: c.z⟩ (upd H p (.lst vs)) := ⟨fun a ha => (s.zn a ha).2, fun a ha => (List.mem_cons.mp ha).elim (fun e => .inr (by rw [e]; exact hp)) .inl, ⟨[], by simp, by simp⟩, fun a o n _ h => x.k a o n h⟩
  have s2 := s.new (o := .lst vs) hp
  refine made (c := ⟨c.m, p :: c.z⟩) (S := S) s hp x2 rfl (fun a o h => ⟨x.s a o h, fun n => x.k a o n h⟩) ⟨s2.len, s2.nd, fun i o h => ?_, fun a ha => ?_⟩ upd_same (r.ext2 x2) q
  · obtain ⟨a, h1, h2⟩ := s.ob i o h
    refine ⟨a, h1, ?_⟩
    cases o with
    | lst xs =>
      obtain ⟨us, h3, h4⟩ := h2
      exact ⟨us, upd_there hp h3, h4.ext2 x2⟩
  · rcases List.mem_cons.mp ha with e | e
    · rw [e]; exact ⟨(s.fresh hp).1, _, upd_same⟩
    · exact s2.zn a e
end
section
variable {X : Cx} {W : WX} {a b e : Expr} {es : List Expr} {f g : Env → Store → R D} {fs : Env → Store → R (List D)} {pos : Pos} {al : Bool}
theorem mk_some {Z : Se} {c : Ct} {σ : L2.St} {H : Hp} {Q : VK} {S : Store} {o : Option (List D)} (h : Post Z (RelD Z.K) (mkL al (.opt o S)) c σ H Q) : ∃ ds, o = some ds ∧ Post Z (RelD Z.K) (mkL al (.ok ds S)) c σ H Q := by
  cases o with
  | none => exact h.elim
  | some ds => exact ⟨ds, rfl, h⟩
theorem mk_bnd {α : Type} {m : R α} {k : α → Store → R (List D)} : mkL al (m.bnd k) = m.bnd fun x S => mkL al (k x S) := by
  cases m <;> rfl
theorem so_dis (ha : PA X es (TXs (Zx X W) fs)) (hl : ∀ r S xs S1, fs r S = .ok xs S1 → xs.length ≤ 16777216) : PE X (.List es pos) (TX (Zx X W) fun r S => mkL al (fs r S)) :=
  PE.of (pe_lst ha) fun σ H Q ⟨c, r, S, s, e, p⟩ => by
    have p : Post (Zx X W) (RelD X.K) (mkL al (fs r S)) c σ H Q := p
    refine ⟨c, r, S, s, e, ?_⟩
    cases q : fs r S with
    | ok xs S1 =>
      rw [q] at p
      intro c1 vs H1 x1 s1 r1
      refine ⟨by rw [line_eq, ← r1.length]; exact hl _ _ _ _ q, fun p0 hp => ?_⟩
      exact mk_new s1 r1 hp (Post.ext x1 p)
    | exc nm fl S1 => rw [q] at p; exact p
    | bad => rw [q] at p; exact p
theorem repD_of {S : Store} {x y : D} {ds : List D} (h : repD S x y = some ds) : ∃ k xs, y = .int k ∧ lsD S x = some xs ∧ -(2 ^ 63) ≤ k ∧ k < 2 ^ 63 ∧ xs.length * k.toNat ≤ 16777216 ∧ ds = (List.replicate k.toNat xs).flatten := by
  unfold repD at h
  split at h
  · split at h
    · rename_i xs hx
      split at h
      · rename_i hc
        exact ⟨_, xs, rfl, hx, hc.1, hc.2.1, hc.2.2, (Option.some.inj h).symm⟩
      · cases h
    · cases h
  · cases h
theorem so_rep (ha : PE X a (TX (Zx X W) f)) (hb : PE X b (TX (Zx X W) g)) : PE X (.BinOp a .Mult b pos) (TX (Zx X W) fun r S => mkL al ((f r S).bnd fun x S1 => (g r S1).bnd fun y S2 => .opt (repD S2 x y) S2)) :=
  PE.of (pe_op op_rep ha hb) fun σ H Q ⟨c, r, S, s, e, p⟩ => by
    simp only [mk_bnd] at p
    refine TXg.bnd s e p fun x S1 c1 v H1 x1 s1 e1 r1 p1 => ?_
    refine TXg.bnd s1 e1 p1 fun y S2 c2 u H2 x2 s2 e2 r2 p2 => ?_
    obtain ⟨ds, hd, p2⟩ := mk_some p2
    obtain ⟨k, xs, rfl, hx, h1, h2, h3, rfl⟩ := repD_of hd
    cases r2
    obtain ⟨z, vs, rfl, h4, h5⟩ := lsD_at s2 hx (r1.ext x2)
    exact ⟨z, k, vs, rfl, rfl, h4, h1, h2, by rw [line_eq, ← h5.length]; exact h3, fun p hp => mk_new s2 (h5.rep _) hp p2⟩
theorem so_ofl {p : Pos} (hg : Gl X "list") (hm : X.mg "list" = none) (ha : PE X a (TX (Zx X W) f)) (hs : noStar a = true) : PE X (.Call (.Name "list" p) [a] [] pos) (TX (Zx X W) fun r S => mkL al ((f r S).bnd fun x S1 => .opt (itemsD S1 x) S1)) :=
  PE.of (pe_callTy call_list_of hg hm boot_list (pa_cons ha pa_nil (star_cons hs)) (by decide) (by decide) (star_cons hs)) fun σ H Q ⟨c, r, S, s, e, p⟩ => by
    simp only [mk_bnd] at p
    show TX (Zx X W) f σ H _
    refine TXg.bnd s e p fun x S1 c1 v H1 x1 s1 e1 r1 p1 => ?_
    obtain ⟨ds, hd, p1⟩ := mk_some p1
    obtain ⟨z, vs, rfl, h1, h2⟩ := itemsD_at s1 hd r1
    exact ⟨z, vs, rfl, h1.elim (fun h => .inr h.2) (fun h => .inl h.2), fun l hl => mk_new s1 h2 hl p1⟩
theorem rg_rel {K : PySem.W.Frag} {c : Ct} {H : Hp} (a b : Int) : RelDs K c H (rgI a b) (rgV a b) := by
  unfold rgI rgV
  generalize (List.range (b - a).toNat) = l
  induction l with
  | nil => exact .nil
  | cons n l ih => exact .cons (.int _) ih
theorem so_lrg1 {p p2 pos2 : Pos} (hc : X.calm = true) (hg : Gl X "list") (hm : X.mg "list" = none) (hg2 : Gl X "range") (hm2 : X.mg "range" = none) (ha : PE X a (TX (Zx X W) f)) (hs : noStar a = true) :
    PE X (.Call (.Name "list" p) [.Call (.Name "range" p2) [a] [] pos2] [] pos) (TX (Zx X W) fun r S => mkL al ((f r S).bnd fun x S1 => .opt (rngD [x]) S1)) :=
  PE.of (pe_listRg hc hg hm (prg_1 hg2 hm2 ha (star_cons hs))) fun σ H Q ⟨c, r, S, s, e, p⟩ => by
    simp only [mk_bnd] at p
    show TX (Zx X W) f σ H _
    refine TXg.bnd s e p fun x S1 c1 v H1 x1 s1 e1 r1 p1 => ?_
    obtain ⟨ds, hd, p1⟩ := mk_some p1
    unfold rngD at hd
    split at hd
    · rename_i b hb
      cases hb
      cases r1
      split at hd
      · rename_i hb
        cases hd
        obtain ⟨⟨h1, h2⟩, h3⟩ := hb
        exact ⟨b, rfl, ⟨by omega, by omega, by omega, by omega, by omega⟩, fun q hq => mk_new s1 (rg_rel 0 b) hq p1⟩
      · cases hd
    · rename_i hb; cases hb
    · rename_i hb; cases hb
    · cases hd
theorem so_lrg2 {p p2 pos2 : Pos} (hc : X.calm = true) (hg : Gl X "list") (hm : X.mg "list" = none) (hg2 : Gl X "range") (hm2 : X.mg "range" = none) (ha : PE X a (TX (Zx X W) f)) (hb : PE X b (TX (Zx X W) g)) (hs : noStar a = true) (hs2 : noStar b = true) :
    PE X (.Call (.Name "list" p) [.Call (.Name "range" p2) [a, b] [] pos2] [] pos) (TX (Zx X W) fun r S => mkL al ((f r S).bnd fun x S1 => (g r S1).bnd fun y S2 => .opt (rngD [x, y]) S2)) :=
  PE.of (pe_listRg hc hg hm (prg_2 hg2 hm2 ha hb (star_cons hs) (star_cons hs2) (star_any (by simp [hs2])))) fun σ H Q ⟨c, r, S, s, e, p⟩ => by
    simp only [mk_bnd] at p
    show TX (Zx X W) f σ H _
    refine TXg.bnd s e p fun x S1 c1 v H1 x1 s1 e1 r1 p1 => ?_
    show TX (Zx X W) g σ H1 _
    refine TXg.bnd s1 e1 p1 fun y S2 c2 w H2 x2 s2 e2 r2 p2 => ?_
    obtain ⟨ds, hd, p2⟩ := mk_some p2
    unfold rngD at hd
    split at hd
    · rename_i hb; cases hb
    · rename_i i j hb
      cases hb
      cases r1
      cases r2
      split at hd
      · rename_i hb
        cases hd
        obtain ⟨⟨h1, h2⟩, ⟨h3, h4⟩, h5⟩ := hb
        exact ⟨i, j, rfl, rfl, ⟨by omega, by omega, by omega, by omega, by omega⟩, fun q hq => mk_new s2 (rg_rel i j) hq p2⟩
      · cases hd
    · rename_i hb; cases hb
    · cases hd
theorem rngD1 {x : D} {ds : List D} (h : rngD [x] = some ds) : ∃ b, x = .int b ∧ smI b ∧ b ≤ 16777216 ∧ ds = rgI 0 b := by
  unfold rngD at h
  split at h
  · rename_i b hb
    cases hb
    split at h
    · rename_i hb
      exact ⟨b, rfl, hb.1, hb.2, (Option.some.inj h).symm⟩
    · cases h
  · rename_i hb; cases hb
  · rename_i hb; cases hb
  · cases h
theorem so_trg1 {p p2 pos2 : Pos} (hc : X.calm = true) (hg : Gl X "tuple") (hm : X.mg "tuple" = none) (hg2 : Gl X "range") (hm2 : X.mg "range" = none) (ha : PE X a (TX (Zx X W) f)) (hs : noStar a = true) :
    PE X (.Call (.Name "tuple" p) [.Call (.Name "range" p2) [a] [] pos2] [] pos) (TX (Zx X W) fun r S => (f r S).bnd fun x S1 => .opt ((rngD [x]).map .tup) S1) :=
  PE.of (pe_tupRg hc hg hm (prg_1 hg2 hm2 ha (star_cons hs))) fun σ H Q ⟨c, r, S, s, e, p⟩ => by
    show TX (Zx X W) f σ H _
    refine TXg.bnd s e p fun x S1 c1 v H1 x1 s1 e1 r1 p1 => ?_
    obtain ⟨d, hd, pp⟩ := Post.opt p1
    obtain ⟨ds, hd2, rfl⟩ := Option.map_eq_some_iff.mp hd
    obtain ⟨b, rfl, ⟨h1, h2⟩, h3, rfl⟩ := rngD1 hd2
    cases r1
    exact ⟨b, rfl, ⟨by omega, by omega, by omega, by omega, by omega⟩, Wt.tup pp s1 (rg_rel 0 b)⟩
/-- [.. for .. in .. if ..] -/
theorem wipe_get : ∀ (vs : List Nat) (σ : L2.St) (j : Nat), (L2.wipe σ vs)[j]? = if j ∈ vs ∧ j < σ.length then some none else σ[j]?
  | [], σ, j => by simp [L2.wipe]
  | v :: vs, σ, j => by
    unfold L2.wipe
    by_cases hj : v = j
    · subst hj
      by_cases hl : v < σ.length
      · rw [List.getElem?_set_self (by rw [wipe_length]; exact hl)]
        simp [hl]
      · rw [List.getElem?_eq_none (by simp [wipe_length]; omega), List.getElem?_eq_none (by omega)]
        simp [hl]
    · rw [List.getElem?_set_ne hj, wipe_get vs σ j]
      have : (j ∈ v :: vs) ↔ j ∈ vs := by simp [show j ≠ v from fun e => hj e.symm]
      simp only [this]
theorem wipe_same {σ σ2 : L2.St} {vs ws : List Nat} (hl : σ2.length = σ.length) (h : ∀ j, j ∉ ws → σ2[j]? = (L2.wipe σ vs)[j]?) (hw : ∀ j ∈ ws, j ∈ vs) : L2.wipe σ2 vs = L2.wipe σ vs := by
  refine List.ext_getElem? fun j => ?_
  rw [wipe_get, wipe_get, hl]
  by_cases hj : j ∈ vs
  · by_cases hlt : j < σ.length
    · simp [hj, hlt]
    · simp only [hj, hlt, and_false, if_false]
      rw [List.getElem?_eq_none (by omega), List.getElem?_eq_none (by omega)]
  · have q := h j (fun m => hj (hw j m))
    rw [wipe_get] at q
    simp only [hj, false_and, if_false] at q ⊢
    exact q
theorem lc_tx {Z : Se} {own : List (Str × Nat)} {fi : Env → Store → R (List D × Gd)} {fa : D → Env → Store → R Env} {ft : Env → Store → R Bool} {f : Env → Store → R D} {ws : List Nat} {al : Bool} (hw : ∀ j ∈ ws, j ∈ own.map (·.2)) : ∀ σ H Q,
    TX Z (fun r S => mkL al ((fi r S).bnd fun p S1 => if p.1.length ≤ 16777216 then (cmpS fa ft f p.2 (wipeE r own) p.1 S1).nx else .bad)) σ H Q →
      tLc (TIx Z fi) (TXa ⟨Z.K, Z.mg, no⟩ ws fa) (TXb ⟨Z.K, Z.mg, no⟩ ft) (TX ⟨Z.K, Z.mg, no⟩ f) (own.map (·.2)) σ H Q := by
    rintro σ H Q ⟨c, r, S, s, e, p⟩
    simp only [mk_bnd] at p
    refine TXg.bnd s e p fun it S1 c1 J H1 x1 s1 e1 r1 p1 => ?_
    intro L hL
    obtain ⟨xs, gd⟩ := it
    by_cases hlen : xs.length ≤ 16777216
    case neg =>
      rw [if_neg hlen] at p1
      exact p1.elim
    rw [if_pos hlen] at p1
    cases q : cmpS fa ft f gd (wipeE r own) xs S1 with
    | bad => have p1 : Post Z (RelD Z.K) (mkL al (cmpS fa ft f gd (wipeE r own) xs S1).nx) c1 σ H1 Q := p1; rw [q] at p1; exact p1.elim
    | exc nm fl S2 => have p1 : Post Z (RelD Z.K) (mkL al (cmpS fa ft f gd (wipeE r own) xs S1).nx) c1 σ H1 Q := p1; rw [q] at p1; exact p1.elim
    | ok ds SF =>
      have p1 : Post Z (RelD Z.K) (mkL al (cmpS fa ft f gd (wipeE r own) xs S1).nx) c1 σ H1 Q := p1
      rw [q] at p1
      have p1 : Post Z (RelD Z.K) (mkL al (.ok ds SF)) c1 σ H1 Q := p1
      have ew := e1.wipe own
      refine ⟨fun i m H => m = xs.length - i ∧ i ≤ xs.length ∧ ∃ c S ds1 ds2 acc, Ext2 c1 H1 c H ∧ c.z = L :: c1.z ∧ Kp c1 H1 H ∧ RelS Z.K c S H ∧ H L = some (.lst acc) ∧ RelDs Z.K c H ds1 acc ∧ ds1.length ≤ i ∧
        cmpS fa ft f gd (wipeE r own) (xs.drop i) S = .ok ds2 SF ∧ ds = ds1 ++ ds2, ⟨xs.length, rfl, Nat.zero_le _, c1.res L, S1, [], ds, [], ?_, rfl, ?_, ?_, upd_same, .nil, Nat.le_refl _, q, rfl⟩, ?_⟩
      · exact ⟨fun a ha => (s1.zn a ha).2, fun a ha => (List.mem_cons.mp ha).elim (fun e => .inr (by rw [e]; exact hL)) .inl, ⟨[], by simp [Ct.res], by simp⟩, fun a o _ _ h => upd_there hL h⟩
      · exact fun a o h => ⟨⟨o, upd_there hL h⟩, fun _ => upd_there hL h⟩
      · have x2 : Ext2 c1 H1 (c1.res L) (upd H1 L (.lst [])) := ⟨fun a ha => (s1.zn a ha).2, fun a ha => (List.mem_cons.mp ha).elim (fun e => .inr (by rw [e]; exact hL)) .inl, ⟨[], by simp [Ct.res], by simp⟩, fun a o _ _ h => upd_there hL h⟩
        have s2 := s1.new (o := .lst []) hL
        refine ⟨s2.len, s2.nd, fun i o h => ?_, fun a ha => ?_⟩
        · obtain ⟨a, h1, h2⟩ := s1.ob i o h
          refine ⟨a, h1, ?_⟩
          cases o with
          | lst xs =>
            obtain ⟨us, h3, h4⟩ := h2
            exact ⟨us, upd_there hL h3, h4.ext2 x2⟩
        · rcases List.mem_cons.mp ha with e | e
          · rw [e]; exact ⟨(s1.fresh hL).1, _, upd_same⟩
          · exact s2.zn a e
      · rintro i m H' ⟨rfl, hi, c2, S2, ds1, ds2, acc, x2, hz, hk, s2, hacc, hrel, hle, hq, rfl⟩
        have hLz : L ∈ c2.z := by rw [hz]; exact List.mem_cons_self
        have hLm := (s2.zn L hLz).1
        by_cases hlt : i < xs.length
        · have hx : xs[i]? = some xs[i] := List.getElem?_eq_getElem hlt
          rw [List.drop_eq_getElem_cons hlt] at hq
          unfold cmpS at hq
          by_cases hgd : gdOk gd S2
          case neg => rw [if_neg hgd] at hq; cases hq
          rw [if_pos hgd] at hq
          obtain ⟨hgo, hy⟩ := (r1 c2 H' S2 x2 s2 hgd).1 i xs[i] hx
          refine .inr ⟨hgo, fun H' => ∃ m', m' < xs.length - i ∧ _, fun H' h => h, fun x3 H3 hy3 => ?_⟩
          obtain ⟨x3, s3, r3⟩ := hy x3 H3 hy3
          refine ⟨c2, wipeE r own, S2, xs[i], s3, (ew.ext2 x2).ext x3, r3, ?_⟩
          have hacc3 := x3.k L _ hLm hacc
          cases z1 : fa xs[i] (wipeE r own) S2 with
          | bad => rw [z1] at hq; cases hq
          | exc nm fl S3 => rw [z1] at hq; cases hq
          | ok ra S3 =>
            rw [z1] at hq
            intro c4 σ4 H4 x4 s4 r4
            refine ⟨wipe_same (by rw [r4.2.1, wipe_length]) r4.2.2 hw, ?_⟩
            refine ⟨c4, ra, S3, s4, r4.1, ?_⟩
            have hz4 : c4.z = L :: c1.z := by rw [x4.z, hz]
            have hLm4 := (s4.zn L (by rw [hz4]; exact List.mem_cons_self)).1
            have hacc4 := x4.k L _ hLm hacc3
            have hq : ((ft ra S3).bnd fun b S4 => if b = true then (f ra S4).bnd fun y S5 => (cmpS fa ft f gd (wipeE r own) (xs.drop (i + 1)) S5).bnd fun ys S6 => .ok (y :: ys) S6 else cmpS fa ft f gd (wipeE r own) (xs.drop (i + 1)) S4) = .ok ds2 SF := hq
            cases z2 : ft ra S3 with
            | bad => rw [z2] at hq; cases hq
            | exc nm fl S4 => rw [z2] at hq; cases hq
            | ok b S4 =>
              rw [z2] at hq
              intro c5 b' H5 x5 s5 rb
              subst rb
              have hz5 : c5.z = L :: c1.z := by rw [x5.z, hz4]
              have hLm5 := (s5.zn L (by rw [hz5]; exact List.mem_cons_self)).1
              have hacc5 := x5.k L _ hLm4 hacc4
              have x25 : Ext c2 H' c5 H5 := (x3.trans x4).trans x5
              cases b with
              | false =>
                rw [if_neg Bool.false_ne_true]
                have hq : cmpS fa ft f gd (wipeE r own) (xs.drop (i + 1)) S4 = .ok ds2 SF := hq
                refine ⟨xs.length - (i + 1), by omega, rfl, hlt, c5, S4, ds1, ds2, acc, x2.trans (fun a o h => (hk a o h).1) (x25.two s2), hz5, fun a o h => ?_, s5, hacc5, hrel.ext x25, by omega, hq, rfl⟩
                obtain ⟨⟨o', h'⟩, h2⟩ := hk a o h
                exact ⟨x25.s a o' h', fun n => x25.k a o (x2.mem h n) (h2 n)⟩
              | true =>
                rw [if_pos rfl]
                have hq : ((f ra S4).bnd fun y S5 => (cmpS fa ft f gd (wipeE r own) (xs.drop (i + 1)) S5).bnd fun ys S6 => .ok (y :: ys) S6) = .ok ds2 SF := hq
                refine ⟨c5, ra, S4, s5, r4.1.ext x5, ?_⟩
                cases z3 : f ra S4 with
                | bad => rw [z3] at hq; cases hq
                | exc nm fl S5 => rw [z3] at hq; cases hq
                | ok y S5 =>
                  rw [z3] at hq
                  intro c6 v H6 x6 s6 r6
                  have hz6 : c6.z = L :: c1.z := by rw [x6.z, hz5]
                  have hLz6 : L ∈ c6.z := by rw [hz6]; exact List.mem_cons_self
                  have hacc6 := x6.k L _ hLm5 hacc5
                  have x26 : Ext c2 H' c6 H6 := x25.trans x6
                  have hq : ((cmpS fa ft f gd (wipeE r own) (xs.drop (i + 1)) S5).bnd fun ys S6 => .ok (y :: ys) S6) = .ok ds2 SF := hq
                  cases z4 : cmpS fa ft f gd (wipeE r own) (xs.drop (i + 1)) S5 with
                  | bad => rw [z4] at hq; cases hq
                  | exc nm fl S6 => rw [z4] at hq; cases hq
                  | ok ys S6 =>
                    rw [z4] at hq
                    cases hq
                    have hl := hrel.length
                    refine ⟨acc, hacc6, by rw [line_eq]; omega, xs.length - (i + 1), by omega, rfl, hlt, c6, S5, ds1 ++ [y], ys, acc ++ [v], ?_, hz6, fun a o h => ?_, s6.putz hLz6 hacc6, upd_same, ?_, by simp; omega, z4, by simp⟩
                    · have x16 := x2.trans (fun a o h => (hk a o h).1) (x26.two s2)
                      refine ⟨x16.l, x16.z, x16.m, fun a o hn hnz h => ?_⟩
                      rw [upd_ne (fun e => by rw [e, hL] at h; cases h)]
                      exact x16.k a o hn hnz h
                    · obtain ⟨⟨o', h'⟩, h3⟩ := hk a o h
                      obtain ⟨o2, h2⟩ := x26.s a o' h'
                      rw [upd_ne (fun e => by rw [e, hL] at h; cases h)]
                      exact ⟨⟨o2, h2⟩, fun n => x26.k a o (x2.mem h n) (h3 n)⟩
                    · exact ((hrel.ext x26).append (.cons r6 .nil)).putz hLz6 hacc6
        · have hi0 : i = xs.length := by omega
          subst hi0
          rw [List.drop_length] at hq
          unfold cmpS at hq
          by_cases hgd : gdOk gd S2
          case neg => rw [if_neg hgd] at hq; cases hq
          rw [if_pos hgd] at hq
          have hst := (r1 c2 H' S2 x2 s2 hgd).2
          cases hq
          refine .inl ⟨hst, ?_⟩
          rw [List.append_nil] at p1
          exact made s1 hL x2 hz hk s2 hacc hrel p1
theorem so_lc {tg iter elt : Expr} {ifs : List Expr} {scope : Scope} {own : List (Str × Nat)} {fi : Env → Store → R (List D × Gd)} {fa : D → Env → Store → R Env} {ft : Env → Store → R Bool} {ws : List Nat} (hc : X.calm = true) (hN : X.N.Nodup)
    (hi : PI X tg iter (TIx (Zx X W) fi)) (ok : BlkOk X.N X.env.scope scope own)
    (hg : ∀ (s : Shared) (H : Hp) (C : Addr) (cl : List (Str × Addr)) (fp : List Addr), PG (X.blk s H scope (compEnvC scope cl C X.env) fp) tg (TXa (Zx X no) ws fa))
    (ht : ∀ (s : Shared) (H : Hp) (C : Addr) (cl : List (Str × Addr)) (fp : List Addr), PTs (X.blk s H scope (compEnvC scope cl C X.env) fp) ifs (TXb (Zx X no) ft))
    (he : ∀ (s : Shared) (H : Hp) (C : Addr) (cl : List (Str × Addr)) (fp : List Addr), PE (X.blk s H scope (compEnvC scope cl C X.env) fp) elt (TX (Zx X no) f)) (hw : ∀ j ∈ ws, j ∈ own.map (·.2)) (hs : ∀ x, foldedSetIterable iter X.env x = pure x) :
    PE X (.ListComp elt [⟨tg, iter, ifs, 0⟩] scope pos) (TX (Zx X W) fun r S => mkL al ((fi r S).bnd fun p S1 => if p.1.length ≤ 16777216 then (cmpS fa ft f p.2 (wipeE r own) p.1 S1).nx else .bad)) :=
  PE.of (pe_lc hc hN hi ok hg ht he hs) (lc_tx (Z := Zx X W) hw)
end
end RR

set_option Elab.async false
set_option linter.all false
set_option maxRecDepth 100000
set_option maxHeartbeats 1000000
/-! methods, tests of comprehensions, calls of defs -/
namespace RR
open PySem PySem.Spec PyProof.Rows L2
section
variable {X : Cx} {W : WX} {a b e o : Expr} {es : List Expr} {f g : Env → Store → R D} {fs : Env → Store → R (List D)} {pos apos : Pos}
def noCall : Expr → Bool
  | .Call _ _ _ _ => false
  | _ => true
theorem base_plain {o : Expr} {name : Str} {env : PySem.Env} (h : noCall o = true) (w : Sem Value) : attributeBase o name env w = w := by
  cases o <;> first | rfl | cases h
def Mt.nm : Mt → Str
  | .append => "append"
  | .extend => "extend"
  | .pop => "pop"
theorem few_ok {es : List Expr} {env : PySem.Env} {pos : Pos} (h : es.all noStar = true) (hl : es.length < 30) : ((backTo pos (starEach es env)).all (fun x => !x.1) && (backToKw pos (keywordEach [] env)).all (fun x => x.1.isSome)
      && decide (es.length + ([] : List Keyword).length + (if ([] : List Keyword).isEmpty then 0 else 1) < 30)) = true := by
  rw [star_few h, show backToKw pos (keywordEach [] env) = [] from rfl]
  simp [hl]
theorem so_met1 (m : Mt) (hm : m ≠ .pop) (ho : PE X o (TX (Zx X W) f)) (ha : PA X [a] (TXs (Zx X W) fs)) (hs : noStar a = true) (hc : noCall o = true) (hl : (apos.endLine == pos.line) = true) :
    PE X (.Call (.Attribute o m.nm apos) [a] [] pos) (TX (Zx X W) fun r S => (f r S).bnd fun x S1 => (match x with
      | .ref i => (fs r S1).bnd fun xs S2 => metD S2 m (.ref i) xs
      | _ => .bad)) := by
  have key : ∀ σ H Q, TX (Zx X W) (fun r S => (f r S).bnd fun x S1 => (match x with
      | .ref i => (fs r S1).bnd fun xs S2 => metD S2 m (.ref i) xs
      | _ => .bad)) σ H Q → tBM X.K "list" (rM (Zx X W) fun S x xs => metD S m x xs) (TX (Zx X W) f) (TXs (Zx X W) fs) σ H Q := by
    rintro σ H Q ⟨c, r, S, s, e, p⟩
    refine TXg.bnd s e p fun x S1 c1 v H1 x1 s1 e1 r1 p1 => ?_
    cases r1 with
    | @ref a i h1 =>
      have hi : i < S1.length := by rw [← s1.len]; exact (List.getElem?_eq_some_iff.mp h1).1
      obtain ⟨xs, hxs⟩ : ∃ xs, S1[i]? = some (.lst xs) := by
        cases q : S1[i] with
        | lst xs => exact ⟨xs, by rw [List.getElem?_eq_getElem hi, q]⟩
      obtain ⟨vs, h2, h3⟩ := s1.at hxs h1
      refine ⟨.inl ⟨rfl, vs, sqL_at h2⟩, ?_⟩
      refine TXg.bnd s1 e1 p1 fun ys S2 c2 us H2 x2 s2 e2 r2 p2 => ?_
      exact ⟨c2, S2, _, ys, σ, s2, .ref (x2.get h1), r2, p2⟩
    | _ => exact p1.elim
  have hs' : [a].all noStar = true := by simp [hs]
  cases m with
  | append => exact PE.of (pe_bm F.plainAttrs_list F.slot_list_append F.type_list_append m_append ho ha (base_plain hc _) (few_ok hs' (by simp)) hl (star_cons hs) rfl) key
  | extend => exact PE.of (pe_bm F.plainAttrs_list F.slot_list_extend F.type_list_extend m_extend ho ha (base_plain hc _) (few_ok hs' (by simp)) hl (star_cons hs) rfl) key
  | pop => exact absurd rfl hm
theorem so_met0 (ho : PE X o (TX (Zx X W) f)) (hc : noCall o = true) (hl : (apos.endLine == pos.line) = true) :
    PE X (.Call (.Attribute o "pop" apos) [] [] pos) (TX (Zx X W) fun r S => (f r S).bnd fun x S1 => (match x with
      | .ref i => (R.ok [] S1).bnd fun xs S2 => metD S2 .pop (.ref i) xs
      | _ => .bad)) :=
  PE.of (pe_bm0 F.plainAttrs_list F.slot_list_pop F.type_list_pop m_pop ho (base_plain hc _) hl) fun σ H Q ⟨c, r, S, s, e, p⟩ => by
    refine TXg.bnd s e p fun x S1 c1 v H1 x1 s1 e1 r1 p1 => ?_
    cases r1 with
    | @ref a i h1 =>
      have hi : i < S1.length := by rw [← s1.len]; exact (List.getElem?_eq_some_iff.mp h1).1
      obtain ⟨xs, hxs⟩ : ∃ xs, S1[i]? = some (.lst xs) := by
        cases q : S1[i] with
        | lst xs => exact ⟨xs, by rw [List.getElem?_eq_getElem hi, q]⟩
      obtain ⟨vs, h2, h3⟩ := s1.at hxs h1
      exact ⟨.inl ⟨rfl, vs, sqL_at h2⟩, c1, S1, _, [], σ, s1, .ref h1, .nil, p1⟩
    | _ => exact p1.elim
/-! ### the tests of a comprehension -/
theorem so_t0 : PTs X [] (TXb (Zx X W) fun _ S => .ok true S) := ⟨fun pins s σ H Q I ⟨c, r, S, s1, e1, p⟩ => pts_nil.run pins s σ H Q I (p.here s1 rfl)⟩
theorem so_t1 (h : PT X a (TXb (Zx X W) (tv f))) : PTs X [a] (TXb (Zx X W) (tv f)) := pts_one h
end
/-! ### defs -/
def SpG (K : PySem.W.Frag) (mg : Str → Option Value) (g : Fn) : Sp := fun vs H Q E => ∃ c S ds, RelS K c S H ∧ RelDs K c H ds vs ∧ Post ⟨K, mg, fun cls x _ H => E cls x H⟩ (RelD K) (g ds S) c [] H Q
structure MyFn (P : Program) (w : World) (K : PySem.W.Frag) (mg : Str → Option Value) (base : Heap) (k : Nat) (f : Addr) (fd : FuncData) (ps : List Str) (g : Fn) : Prop where
  len : ∀ ds S, g ds S ≠ .bad → ds.length = ps.length
  run : ∀ (A : Around) (outer : List PySem.Env) (s : Shared) (H : Hp) (args : Args) (us : List Value) (vs : List V) (Q : VK) (E : XK), A.guards = some [] → Room k A → Env0 P w K mg base A outer s H → BindsTo s fd args (ps.zip us) → Vals vs us → SpG K mg g vs H Q E →
    codeAny (model P w) A (.call (.ref f) args) (CR (CX P w) outer P w H s Q E) s
theorem MyFn.mono {P : Program} {w : World} {K : PySem.W.Frag} {mg : Str → Option Value} {base : Heap} {j k : Nat} {f : Addr} {fd : FuncData} {ps : List Str} {g : Fn} (F : MyFn P w K mg base j f fd ps g) (h : j ≤ k) : MyFn P w K mg base k f fd ps g :=
  ⟨F.len, fun A outer s H args us vs Q E hg hr => F.run A outer s H args us vs Q E hg (hr.mono h)⟩
section
variable {X : Cx} {W : WX} {k : Nat} {f : Addr} {fd : FuncData} {ps : List Str} {g : Fn} {x : Str} {p pos : Pos} {e : Expr} {es : List Expr} {fs : Env → Store → R (List D)}
theorem spg_len {K : PySem.W.Frag} {mg : Str → Option Value} {vs : List V} {H : Hp} {Q : VK} {E : XK} (hl : ∀ ds S, g ds S ≠ .bad → ds.length = ps.length) (h : SpG K mg g vs H Q E) : vs.length = ps.length := by
  obtain ⟨c, S, ds, s, r, p⟩ := h
  rw [← r.length]
  exact hl ds S fun z => by rw [z] at p; exact p
theorem run_my {pins : List (Addr × Obj)} {σ : L2.St} {H : Hp} {s : Shared} {Q : VK} {us : List Value} {vs : List V} (F : MyFn X.prog X.w X.K X.mg X.base k f fd ps g) (hr : Room k X.A) (hgd : X.A.guards = some []) (hb : Binds X.K fd ps []) (tk : Takes X W)
    (I : L2.Inv X pins σ H s) (r : Vals vs us) (h : SpG X.K X.mg g vs H Q fun cls x H' => W cls x σ H') : wpAny (model X.prog X.w) X.A (call (.ref f) us) (EP X pins σ Q) X.xe s := by
  have hl := spg_len F.len h
  refine wpAny_call (codeAny_mono (F.run X.A X.stack s H ⟨us, []⟩ us vs Q _ hgd hr I.env0 (by
    have q := hb s us I.kIn (by rw [List.append_nil, ← r.length]; exact hl)
    rw [List.append_nil] at q
    exact q) r h) fun r s' hq => ?_)
  cases r with
  | error e => exact tk e s' (XE.of_call I (fun _ _ _ q => q) hq)
  | ok fl =>
    cases fl with
    | ret u => exact I.after hq
    | next => exact False.elim hq
    | brk => exact False.elim hq
    | cont => exact False.elim hq
theorem so_call (F : MyFn X.prog X.w X.K X.mg X.base k f fd ps g) (hr : Room k X.A) (hgd : X.A.guards = some []) (hb : Binds X.K fd ps []) (tk : Takes X W) (hg : Gl X x) (hm : X.mg x = some (.ref f)) (hk : PySem.W.keepIn X.K (.ref f) = true)
    (ha : PA X (e :: es) (TXs (Zx X W) fs)) (hs : (e :: es).all noStar = true) (hdb : (x == ("__debug__" : Str)) = false) : PE X (.Call (.Name x p) (e :: es) [] pos) (TX (Zx X W) fun r S => (fs r S).bnd fun xs S1 => g xs S1) := by
  refine ⟨fun pins s σ H Q I ⟨c, r, S, s1, e1, q⟩ => ?_⟩
  have key : TXs (Zx X W) fs σ H fun vs H1 => SpG X.K X.mg g vs H1 Q fun cls x H' => W cls x σ H' := by
    refine TXg.bnd s1 e1 q fun xs S1 c1 vs H1 x1 s1 e1 r1 p1 => ⟨c1, S1, xs, s1, r1, ?_⟩
    have p1 : Post (Zx X W) (RelD X.K) (g xs S1) c1 σ H1 Q := p1
    cases z : g xs S1 with
    | ok d S2 => rw [z] at p1; exact p1
    | exc nm fl S2 => rw [z] at p1; exact p1
    | bad => rw [z] at p1; exact p1
  refine wpAny_Call_Name_kw (ld_glob I hg hm ?_ hdb)
  obtain ⟨h1, h2⟩ := Bool.and_eq_true_iff.mp (show (noStar e && es.all noStar) = true from hs)
  refine PySem.W.callWith_K (h₀ := X.base) I.ok.mod.kin hk (thn (ha.run pos pins s σ H _ I key) fun us s1 ⟨vs, H1, I1, r1, q1⟩ => ⟨I1.kIn, ?_⟩) (star_cons h1) (star_any h2)
  exact run_my F hr hgd hb tk I1 r1 q1
theorem so_call0 (F : MyFn X.prog X.w X.K X.mg X.base k f fd ps g) (hr : Room k X.A) (hgd : X.A.guards = some []) (hb : Binds X.K fd ps []) (tk : Takes X W) (hg : Gl X x) (hm : X.mg x = some (.ref f)) (hk : PySem.W.keepIn X.K (.ref f) = true)
    (hdb : (x == ("__debug__" : Str)) = false) : PE X (.Call (.Name x p) [] [] pos) (TX (Zx X W) fun _ S => g [] S) := by
  refine ⟨fun pins s σ H Q I ⟨c, r, S, s1, e1, q⟩ => ?_⟩
  refine wpAny_Call_Name_kw (ld_glob I hg hm ?_ hdb)
  refine PySem.W.callWith_K0 I.kIn hk (run_my F hr hgd hb tk I .nil ⟨c, S, [], s1, .nil, ?_⟩)
  have q : Post (Zx X W) (RelD X.K) (g [] S) c σ H Q := q
  cases z : g [] S with
  | ok d S2 => rw [z] at q; exact q
  | exc nm fl S2 => rw [z] at q; exact q
  | bad => rw [z] at q; exact q
end
end RR

set_option Elab.async false
set_option linter.all false
set_option maxRecDepth 100000
set_option maxHeartbeats 1000000
/-! statements, the body of a def -/
namespace RR
open PySem PySem.Spec PyProof.Rows L2
def PostF (Z : Se) (o : Fl) (c : Ct) (H : Hp) (D : Ends) : Prop := match o with
  | .next r S => ∀ c' σ' H', Ext c H c' H' → RelS Z.K c' S H' → RelE Z.K c' H' r σ' → D.nx σ' H'
  | .brk r S => ∀ c' σ' H', Ext c H c' H' → RelS Z.K c' S H' → RelE Z.K c' H' r σ' → D.bk σ' H'
  | .con r S => ∀ c' σ' H', Ext c H c' H' → RelS Z.K c' S H' → RelE Z.K c' H' r σ' → D.ct σ' H'
  | .ret d S => ∀ c' v H', Ext c H c' H' → RelS Z.K c' S H' → RelD Z.K c' H' d v → D.rt v H'
  | .exc nm fs r S => ∀ c' cls x σ' H', Ext c H c' H' → RelS Z.K c' S H' → RelE Z.K c' H' r σ' → RelX Z.K Z.mg c' H' nm fs cls x → Z.W cls x σ' H'
  | .bad => False
def TXf (Z : Se) (f : Env → Store → Fl) : TS := fun D σ H => ∃ c r S, RelS Z.K c S H ∧ RelE Z.K c H r σ ∧ PostF Z (f r S) c H D
section
variable {Z : Se} {c c' : Ct} {H H' : Hp} {S : Store} {D D' : Ends} {σ : L2.St} {r : Env}
theorem PostF.ext {o : Fl} (x : Ext c H c' H') (h : PostF Z o c H D) : PostF Z o c' H' D := by
  cases o with
  | next r S => exact fun c2 v H2 y s e => h c2 v H2 (x.trans y) s e
  | brk r S => exact fun c2 v H2 y s e => h c2 v H2 (x.trans y) s e
  | con r S => exact fun c2 v H2 y s e => h c2 v H2 (x.trans y) s e
  | ret d S => exact fun c2 v H2 y s e => h c2 v H2 (x.trans y) s e
  | exc nm fs r S => exact fun c2 cls z v H2 y s e => h c2 cls z v H2 (x.trans y) s e
  | bad => exact h
/-- an expression ahead of the rest -/
theorem fl_bnd {α β : Type} {Rl : Ct → Hp → α → β → Prop} {f : Env → Store → R α} {k : α → Store → Fl} {Q1 : β → Hp → Prop} (s : RelS Z.K c S H) (e : RelE Z.K c H r σ) (h : PostF Z ((f r S).fl r k) c H D)
    (step : ∀ d S1 c1 v H1, Ext c H c1 H1 → RelS Z.K c1 S1 H1 → RelE Z.K c1 H1 r σ → Rl c1 H1 d v → PostF Z (k d S1) c1 H1 D → Q1 v H1) : TXg Z Rl f σ H Q1 := by
  refine ⟨c, r, S, s, e, ?_⟩
  cases q : f r S with
  | ok d S1 =>
    rw [q] at h
    exact fun c1 v H1 x s1 r1 => step d S1 c1 v H1 x s1 (e.ext x) r1 (PostF.ext x h)
  | exc nm fs S1 =>
    rw [q] at h
    exact fun c1 cls z H1 x s1 r1 => h c1 cls z σ H1 x s1 (e.ext x) r1
  | bad =>
    rw [q] at h
    exact h
end
section
variable {X : Cx} {W : WX} {a b e tg iter : Expr} {es : List Expr} {f g : Env → Store → R D} {fs : Env → Store → R (List D)} {pos : Pos} {ws : List Nat} {fa : D → Env → Store → R Env} {fb fc : Env → Store → Fl} {st : Stmt} {sts : List Stmt}
theorem so_nil : PSs X [] (TXf (Zx X W) fun r S => .next r S) := PSs.of pss_nil fun D σ H ⟨c, r, S, s, e, p⟩ => p c σ H Ext.refl s e
theorem so_seqS (h1 : PS X st (TXf (Zx X W) fb)) (h2 : PSs X sts (TXf (Zx X W) fc)) : PSs X (st :: sts) (TXf (Zx X W) fun r S => (match fb r S with
    | .next r1 S1 => fc r1 S1
    | o => o)) := PSs.of (pss_cons h1 h2) fun D σ H ⟨c, r, S, s, e, p⟩ => by
  refine ⟨c, r, S, s, e, ?_⟩
  have p : PostF (Zx X W) (match fb r S with
    | .next r1 S1 => fc r1 S1
    | o => o) c H D := p
  cases q : fb r S with
  | next r1 S1 =>
    rw [q] at p
    exact fun c1 σ1 H1 x s1 e1 => ⟨c1, r1, S1, s1, e1, PostF.ext x p⟩
  | brk r1 S1 => rw [q] at p; exact p
  | con r1 S1 => rw [q] at p; exact p
  | ret d S1 => rw [q] at p; exact p
  | exc nm fl r1 S1 => rw [q] at p; exact p
  | bad => rw [q] at p; exact p
theorem so_pas : PS X (.Pass pos) (TXf (Zx X W) fun r S => .next r S) := PS.of ps_pass fun D σ H ⟨c, r, S, s, e, p⟩ => p c σ H Ext.refl s e
theorem so_doc {j : Nat} {x : Str} {pos' : Pos} : PS X (.Expr (.Constant (.str x) j pos) pos') (TXf (Zx X W) fun r S => .next r S) := PS.of ps_doc fun D σ H ⟨c, r, S, s, e, p⟩ => p c σ H Ext.refl s e
theorem so_brk : PS X (.Break pos) (TXf (Zx X W) fun r S => .brk r S) := PS.of ps_break fun D σ H ⟨c, r, S, s, e, p⟩ => p c σ H Ext.refl s e
theorem so_cnt : PS X (.Continue pos) (TXf (Zx X W) fun r S => .con r S) := PS.of ps_continue fun D σ H ⟨c, r, S, s, e, p⟩ => p c σ H Ext.refl s e
theorem so_retn : PS X (.Return none pos) (TXf (Zx X W) fun _ S => .ret .non S) := PS.of ps_retN fun D σ H ⟨c, r, S, s, e, p⟩ => p c .non H Ext.refl s .non
theorem so_ret (ha : PE X a (TX (Zx X W) f)) : PS X (.Return (some a) pos) (TXf (Zx X W) fun r S => (f r S).fl r fun x S1 => .ret x S1) :=
  PS.of (ps_ret ha) fun D σ H ⟨c, r, S, s, e, p⟩ => fl_bnd s e p fun x S1 c1 v H1 x1 s1 e1 r1 p1 => p1 c1 v H1 Ext.refl s1 r1
def noLc : Expr → Bool
  | .ListComp _ _ _ _ => false
  | .SetComp _ _ _ _ => false
  | .DictComp _ _ _ _ _ => false
  | _ => true
theorem swaps_no {e : Expr} {t : Option Expr} {l : Nat} {env : PySem.Env} (h : noLc e = true) : swapsWith e t l env = pure false := by
  cases e <;> first | rfl | cases h
theorem so_exp (ha : PE X a (TX (Zx X W) f)) (h : noLc a = true) : PS X (.Expr a pos) (TXf (Zx X W) fun r S => (f r S).fl r fun _ S1 => .next r S1) :=
  PS.of (ps_expr ha (swaps_no h)) fun D σ H ⟨c, r, S, s, e, p⟩ => fl_bnd s e p fun x S1 c1 v H1 x1 s1 e1 r1 p1 => p1 c1 σ H1 Ext.refl s1 e1
theorem so_iff {as bs : List Stmt} (hc : PT X a (TXb (Zx X W) (tv f))) (ha : PSs X as (TXf (Zx X W) fb)) (hb : PSs X bs (TXf (Zx X W) fc)) : PS X (.If a as bs pos) (TXf (Zx X W) fun r S => (f r S).fl r fun x S1 => (match truthD S1 x with
    | some true => fb r S1
    | some false => fc r S1
    | none => .bad)) := PS.of (ps_if hc ha hb) fun D σ H ⟨c, r, S, s, e, p⟩ => by
  have p : PostF (Zx X W) ((tv f r S).fl r fun t S1 => if t = true then fb r S1 else fc r S1) c H D := by
    have p : PostF (Zx X W) ((f r S).fl r fun x S1 => (match truthD S1 x with
      | some true => fb r S1
      | some false => fc r S1
      | none => .bad)) c H D := p
    show PostF (Zx X W) (((f r S).bnd fun x S1 => .opt (truthD S1 x) S1).fl r fun t S1 => if t = true then fb r S1 else fc r S1) c H D
    cases q : f r S with
    | bad => rw [q] at p; exact p.elim
    | exc nm fl S1 => rw [q] at p; exact p
    | ok x S1 =>
      rw [q] at p
      have p : PostF (Zx X W) (match truthD S1 x with
        | some true => fb r S1
        | some false => fc r S1
        | none => .bad) c H D := p
      show PostF (Zx X W) ((R.opt (truthD S1 x) S1).fl r fun t S1 => if t = true then fb r S1 else fc r S1) c H D
      cases q2 : truthD S1 x with
      | none => rw [q2] at p; exact p.elim
      | some t =>
        rw [q2] at p
        cases t with
        | true => exact p
        | false => exact p
  refine fl_bnd s e p fun t S1 c1 v H1 x1 s1 e1 r1 p1 => ?_
  subst r1
  cases t with
  | true => rw [if_pos rfl] at p1 ⊢; exact ⟨c1, r, S1, s1, e1, p1⟩
  | false => rw [if_neg Bool.false_ne_true] at p1 ⊢; exact ⟨c1, r, S1, s1, e1, p1⟩
/-- an assignment behind an expression -/
theorem asg_end {Z : Se} {c1 : Ct} {H1 : Hp} {S1 : Store} {σ : L2.St} {r : Env} {x : D} {v : V} {D : Ends} (s1 : RelS Z.K c1 S1 H1) (e1 : RelE Z.K c1 H1 r σ) (r1 : RelD Z.K c1 H1 x v) (p1 : PostF Z ((fa x r S1).nx.fl r fun r1 S2 => .next r1 S2) c1 H1 D) : TXa Z ws fa v σ H1 D.nx := by
  refine ⟨c1, r, S1, x, s1, e1, r1, ?_⟩
  cases q : fa x r S1 with
  | bad => rw [q] at p1; exact p1.elim
  | exc nm fl S2 => rw [q] at p1; exact p1.elim
  | ok r2 S2 =>
    rw [q] at p1
    exact fun c2 σ2 H2 x2 s2 r2 => p1 c2 σ2 H2 x2 s2 r2.1
theorem so_asg (ha : PE X a (TX (Zx X W) f)) (hg : PG X tg (TXa (Zx X W) ws fa)) (hs : swapsWithSole [tg] a pos.line X.env = pure false) (hw : swappedStores [tg] a X.env = pure none) (h1 : noStar tg = true) :
    PS X (.Assign [tg] a pos) (TXf (Zx X W) fun r S => (f r S).fl r fun x S1 => (fa x r S1).nx.fl r fun r1 S2 => .next r1 S2) :=
  PS.of (ps_asg ha hg hs hw (by rw [asgE_cons h1]; rfl)) fun D σ H ⟨c, r, S, s, e, p⟩ => fl_bnd s e p fun x S1 c1 v H1 x1 s1 e1 r1 p1 => asg_end s1 e1 r1 p1
/-- name = [..] -/
theorem so_setLc {i : Nat} {y : Str} {py : Pos} {elt : Expr} {ifs : List Expr} {scope : Scope} {own : List (Str × Nat)} {spos : Pos} {fi : Env → Store → R (List D × Gd)} {ft : Env → Store → R Bool} {us : List Nat} {al : Bool} (hc : X.calm = true) (hN : X.N.Nodup)
    (hy : X.N[i]? = some y) (hyl : X.env.scope.names.lookup y = some .local) (hsw : swapsWith (.ListComp elt [⟨tg, iter, ifs, 0⟩] scope pos) (some (.Name y py)) spos.line X.env = pure true)
    (hi : PI X tg iter (TIx (Zx X W) fi)) (ok : BlkOk X.N X.env.scope scope own)
    (hg : ∀ (s : Shared) (H : Hp) (C : Addr) (cl : List (Str × Addr)) (fp : List Addr), PG (X.blk s H scope (compEnvC scope cl C X.env) fp) tg (TXa (Zx X no) us fa))
    (ht : ∀ (s : Shared) (H : Hp) (C : Addr) (cl : List (Str × Addr)) (fp : List Addr), PTs (X.blk s H scope (compEnvC scope cl C X.env) fp) ifs (TXb (Zx X no) ft))
    (he : ∀ (s : Shared) (H : Hp) (C : Addr) (cl : List (Str × Addr)) (fp : List Addr), PE (X.blk s H scope (compEnvC scope cl C X.env) fp) elt (TX (Zx X no) f)) (hw : ∀ j ∈ us, j ∈ own.map (·.2)) (hs : ∀ x, foldedSetIterable iter X.env x = pure x) :
    PS X (.Assign [.Name y py] (.ListComp elt [⟨tg, iter, ifs, 0⟩] scope pos) spos) (TXf (Zx X W) fun r S => (mkL al ((fi r S).bnd fun p S1 => if p.1.length ≤ 16777216 then (cmpS fa ft f p.2 (wipeE r own) p.1 S1).nx else .bad)).fl r fun x S1 => (R.ok (r.set i (some x)) S1).nx.fl r fun r1 S2 => .next r1 S2) :=
  PS.of (ps_setLc hc hN hy hyl hsw hi ok hg ht he hs) fun D σ H ⟨c, r, S, s, e, p⟩ => by
    refine lc_tx (Z := Zx X W) (al := al) hw σ H _ ?_
    refine fl_bnd s e p fun x S1 c1 v H1 x1 s1 e1 r1 p1 => ?_
    exact p1 c1 _ H1 Ext.refl s1 (e1.set r1)
/-- loops -/
theorem so_for {body : List Stmt} {fi : Env → Store → R (List D × Gd)} (hp : PassesOwn (model X.prog X.w) X.A X.env X.xe) (hc : X.calm = true) (hi : PI X tg iter (TIx (Zx X W) fi)) (hg : PG X tg (TXa (Zx X W) ws fa)) (hb : PSs X body (TXf (Zx X W) fb))
    (hs : ∀ x, foldedSetIterable iter X.env x = pure x) : PS X (.For tg iter body [] pos) (TXf (Zx X W) fun r S => (fi r S).fl r fun p S1 => forS fa fb p.2 p.1 r S1) :=
  PS.of (ps_for hp hc hi hg hb hs) fun D σ H ⟨c, r, S, s, e, p⟩ => by
    refine fl_bnd s e p fun it S1 c1 J H1 x1 s1 e1 r1 p1 => ?_
    obtain ⟨xs, gd⟩ := it
    refine ⟨fun i m σ H => m = xs.length - i ∧ i ≤ xs.length ∧ ∃ c r S, Ext c1 H1 c H ∧ RelS X.K c S H ∧ RelE X.K c H r σ ∧ PostF (Zx X W) (forS fa fb gd (xs.drop i) r S) c H D, ⟨xs.length, rfl, Nat.zero_le _, c1, r, S1, Ext.refl, s1, e1, p1⟩, ?_⟩
    rintro i m σ2 H2 ⟨rfl, hi, c2, r2, S2, x2, s2, e2, p2⟩
    by_cases hlt : i < xs.length
    · have hx : xs[i]? = some xs[i] := List.getElem?_eq_getElem hlt
      rw [List.drop_eq_getElem_cons hlt] at p2
      unfold forS at p2
      by_cases hgd : gdOk gd S2
      case neg => rw [if_neg hgd] at p2; exact p2.elim
      rw [if_pos hgd] at p2
      obtain ⟨hgo, hy⟩ := (r1 c2 H2 S2 (x2.two s1) s2 hgd).1 i xs[i] hx
      refine .inr ⟨hgo, fun σ' H' => ∃ m', m' < xs.length - i ∧ _, fun σ' H' h => h, fun x3 H3 hy3 => ?_⟩
      obtain ⟨x3, s3, r3⟩ := hy x3 H3 hy3
      have p2 := PostF.ext x3 p2
      refine ⟨c2, r2, S2, xs[i], s3, e2.ext x3, r3, ?_⟩
      cases q : fa xs[i] r2 S2 with
      | bad => rw [q] at p2; exact p2.elim
      | exc nm fl S3 => rw [q] at p2; exact p2.elim
      | ok r4 S4 =>
        rw [q] at p2
        intro c4 σ4 H4 x4 s4 e4
        have p2 : PostF (Zx X W) (match fb r4 S4 with
          | .next r2 S2 => forS fa fb gd (xs.drop (i + 1)) r2 S2
          | .con r2 S2 => forS fa fb gd (xs.drop (i + 1)) r2 S2
          | .brk r2 S2 => .next r2 S2
          | o => o) c2 H3 D := p2
        refine ⟨c4, r4, S4, s4, e4.1, ?_⟩
        have p2 := PostF.ext x4 p2
        have x14 : Ext c1 H1 c4 H4 := (x2.trans x3).trans x4
        cases q5 : fb r4 S4 with
        | bad => rw [q5] at p2; exact p2.elim
        | next r5 S5 =>
          rw [q5] at p2
          intro c5 σ5 H5 x5 s5 e5
          exact ⟨xs.length - (i + 1), by omega, rfl, hlt, c5, r5, S5, x14.trans x5, s5, e5, PostF.ext x5 p2⟩
        | con r5 S5 =>
          rw [q5] at p2
          intro c5 σ5 H5 x5 s5 e5
          exact ⟨xs.length - (i + 1), by omega, rfl, hlt, c5, r5, S5, x14.trans x5, s5, e5, PostF.ext x5 p2⟩
        | brk r5 S5 => rw [q5] at p2; exact p2
        | ret d S5 => rw [q5] at p2; exact p2
        | exc nm fl r5 S5 => rw [q5] at p2; exact p2
    · have hi0 : i = xs.length := by omega
      subst hi0
      rw [List.drop_length] at p2
      unfold forS at p2
      by_cases hgd : gdOk gd S2
      case neg => rw [if_neg hgd] at p2; exact p2.elim
      rw [if_pos hgd] at p2
      exact .inl ⟨(r1 c2 H2 S2 (x2.two s1) s2 hgd).2, p2 c2 σ2 H2 Ext.refl s2 e2⟩
theorem so_whl {body : List Stmt} (hp : PassesOwn (model X.prog X.w) X.A X.env X.xe) (hc : PT X a (TXb (Zx X W) (tv f))) (hb : PSs X body (TXf (Zx X W) fb)) : PS X (.While a body [] pos) (TXf (Zx X W) fun r S => whlS (tv f) fb r S) :=
  PS.of (ps_while hp hc hb) fun D σ H ⟨c, r, S, s, e, p⟩ => by
    have p : PostF (Zx X W) (whlS (tv f) fb r S) c H D := p
    unfold whlS at p
    split at p
    case isFalse => exact p.elim
    case isTrue h =>
      have hn := h.choose_spec.choose_spec
      refine ⟨fun m σ H => ∃ c r S o, whlN (tv f) fb m r S = some o ∧ RelS X.K c S H ∧ RelE X.K c H r σ ∧ PostF (Zx X W) o c H D, ⟨_, c, r, S, _, hn, s, e, p⟩, ?_⟩
      rintro m σ1 H1 ⟨c1, r1, S1, o, hm, s1, e1, p1⟩
      cases m with
      | zero => cases hm
      | succ m =>
        unfold whlN at hm
        refine ⟨c1, r1, S1, s1, e1, ?_⟩
        show Post _ _ (tv f r1 S1) _ _ _ _
        cases q : tv f r1 S1 with
        | bad => rw [q] at hm; cases hm; exact p1.elim
        | exc nm fl S2 =>
          rw [q] at hm
          cases hm
          exact fun c2 cls x H2 x2 s2 rx => p1 c2 cls x σ1 H2 x2 s2 (e1.ext x2) rx
        | ok t S2 =>
          rw [q] at hm
          intro c2 t' H2 x2 s2 rt
          subst rt
          cases t with
          | false =>
            cases hm
            rw [if_neg Bool.false_ne_true]
            exact p1 c2 σ1 H2 x2 s2 (e1.ext x2)
          | true =>
            rw [if_pos rfl]
            refine ⟨fun σ' H' => ∃ m', m' < m + 1 ∧ _, fun σ' H' h => h, c2, r1, S2, s2, e1.ext x2, ?_⟩
            have p2 := PostF.ext x2 p1
            have hm : (match fb r1 S2 with
              | .next r2 S2 => whlN (tv f) fb m r2 S2
              | .con r2 S2 => whlN (tv f) fb m r2 S2
              | .brk r2 S2 => some (.next r2 S2)
              | o => some o) = some o := hm
            cases q3 : fb r1 S2 with
            | bad => rw [q3] at hm; cases hm; exact p1.elim
            | next r5 S5 =>
              rw [q3] at hm
              intro c5 σ5 H5 x5 s5 e5
              exact ⟨m, by omega, c5, r5, S5, o, hm, s5, e5, PostF.ext x5 p2⟩
            | con r5 S5 =>
              rw [q3] at hm
              intro c5 σ5 H5 x5 s5 e5
              exact ⟨m, by omega, c5, r5, S5, o, hm, s5, e5, PostF.ext x5 p2⟩
            | brk r5 S5 => rw [q3] at hm; cases hm; exact p2
            | ret d S5 => rw [q3] at hm; cases hm; exact p2
            | exc nm fl r5 S5 => rw [q3] at hm; cases hm; exact p2
/-- a, b = x, y with local names -/
theorem so_par {i j : Nat} {x y : Str} {a b : Expr} {px py pt pt2 : Pos} {kt k2 : Nat} (hc : X.calm = true) (hN : X.N.Nodup) (hi : X.N[i]? = some x) (hj : X.N[j]? = some y) (hij : i ≠ j)
    (hx : X.env.scope.names.lookup x = some .local) (hy : X.env.scope.names.lookup y = some .local) (ha : PA X [a, b] (TXs (Zx X W) fs))
    (hw : swappedStores [.Tuple [.Name x px, .Name y py] kt pt] (.Tuple [a, b] k2 pt2) X.env = pure (some [x, y]))
    (hfa : ∀ u w r S, fa (.tup [u, w]) r S = .ok ((r.set i (some u)).set j (some w)) S) (hbad : ∀ xs r S, xs.length ≠ 2 → fa (.tup xs) r S = .bad) :
    PS X (.Assign [.Tuple [.Name x px, .Name y py] kt pt] (.Tuple [a, b] k2 pt2) pos) (TXf (Zx X W) fun r S => ((fs r S).bnd fun xs S1 => R.ok (D.tup xs) S1).fl r fun x S1 => (fa x r S1).nx.fl r fun r1 S2 => .next r1 S2) :=
  PS.of (ps_par hc hN hi hj hij hx hy ha hw rfl) fun Dn σ H ⟨c, r, S, s, e, p⟩ => by
    have p : PostF (Zx X W) ((fs r S).fl r fun xs S1 => (fa (.tup xs) r S1).nx.fl r fun r1 S2 => .next r1 S2) c H Dn := by
      have p : PostF (Zx X W) (((fs r S).bnd fun xs S1 => R.ok (RR.D.tup xs) S1).fl r fun x S1 => (fa x r S1).nx.fl r fun r1 S2 => .next r1 S2) c H Dn := p
      cases q : fs r S with
      | bad => rw [q] at p; exact p
      | exc nm fl S1 => rw [q] at p; exact p
      | ok xs S1 => rw [q] at p; exact p
    refine fl_bnd s e p fun xs S1 c1 vs H1 x1 s1 e1 r1 p1 => ?_
    match xs, r1, p1 with
    | [u, w], r1, p1 =>
      obtain ⟨v, v2, rfl, h1, h2⟩ := two_of r1
      rw [hfa] at p1
      exact ⟨v, v2, rfl, p1 c1 _ H1 Ext.refl s1 ((e1.set h1).set h2)⟩
    | [], _, p1 => rw [hbad _ _ _ (by simp)] at p1; exact p1.elim
    | [_], _, p1 => rw [hbad _ _ _ (by simp)] at p1; exact p1.elim
    | _ :: _ :: _ :: _, _, p1 => rw [hbad _ _ _ (by simp)] at p1; exact p1.elim
theorem so_par3 {i j l : Nat} {x y z : Str} {a b d : Expr} {px py pz pt pt2 : Pos} {kt k2 : Nat} (hc : X.calm = true) (hN : X.N.Nodup) (hi : X.N[i]? = some x) (hj : X.N[j]? = some y) (hl : X.N[l]? = some z) (hij : i ≠ j) (hil : i ≠ l) (hjl : j ≠ l)
    (hx : X.env.scope.names.lookup x = some .local) (hy : X.env.scope.names.lookup y = some .local) (hz : X.env.scope.names.lookup z = some .local) (ha : PA X [a, b, d] (TXs (Zx X W) fs))
    (hw : swappedStores [.Tuple [.Name x px, .Name y py, .Name z pz] kt pt] (.Tuple [a, b, d] k2 pt2) X.env = pure (some [x, y, z]))
    (hfa : ∀ u v w r S, fa (.tup [u, v, w]) r S = .ok (((r.set i (some u)).set j (some v)).set l (some w)) S) (hbad : ∀ xs r S, xs.length ≠ 3 → fa (.tup xs) r S = .bad) :
    PS X (.Assign [.Tuple [.Name x px, .Name y py, .Name z pz] kt pt] (.Tuple [a, b, d] k2 pt2) pos) (TXf (Zx X W) fun r S => ((fs r S).bnd fun xs S1 => R.ok (D.tup xs) S1).fl r fun x S1 => (fa x r S1).nx.fl r fun r1 S2 => .next r1 S2) :=
  PS.of (ps_par3 hc hN hi hj hl hij hil hjl hx hy hz ha hw rfl) fun Dn σ H ⟨c, r, S, s, e, p⟩ => by
    have p : PostF (Zx X W) ((fs r S).fl r fun xs S1 => (fa (.tup xs) r S1).nx.fl r fun r1 S2 => .next r1 S2) c H Dn := by
      have p : PostF (Zx X W) (((fs r S).bnd fun xs S1 => R.ok (RR.D.tup xs) S1).fl r fun x S1 => (fa x r S1).nx.fl r fun r1 S2 => .next r1 S2) c H Dn := p
      cases q : fs r S with
      | bad => rw [q] at p; exact p
      | exc nm fl S1 => rw [q] at p; exact p
      | ok xs S1 => rw [q] at p; exact p
    refine fl_bnd s e p fun xs S1 c1 vs H1 x1 s1 e1 r1 p1 => ?_
    match xs, r1, p1 with
    | [u, v, w], r1, p1 =>
      cases r1 with
      | cons h0 rr =>
        obtain ⟨v1, v2, rfl, h1, h2⟩ := two_of rr
        rw [hfa] at p1
        exact ⟨_, v1, v2, rfl, p1 c1 _ H1 Ext.refl s1 (((e1.set h0).set h1).set h2)⟩
    | [], _, p1 => rw [hbad _ _ _ (by simp)] at p1; exact p1.elim
    | [_], _, p1 => rw [hbad _ _ _ (by simp)] at p1; exact p1.elim
    | [_, _], _, p1 => rw [hbad _ _ _ (by simp)] at p1; exact p1.elim
    | _ :: _ :: _ :: _ :: _, _, p1 => rw [hbad _ _ _ (by simp)] at p1; exact p1.elim
end
/-! ### what leaves a def -/
section
variable {K : PySem.W.Frag} {c c' : Ct} {H H' : Hp} {S S' : Store}
mutual
theorem RelD.bel : ∀ {d : D} {v : V}, RelD K c H d v → below c.m.length d = true
  | _, _, .non => rfl
  | _, _, .bl b => rfl
  | _, _, .int i => rfl
  | _, _, .str z => rfl
  | _, _, .tup h n r => RelDs.bel r
  | _, _, .lst h n nz r => RelDs.bel r
  | _, _, .scr h q n nz => rfl
  | _, _, .scK q => rfl
  | _, _, .dct h n nz l r => RelDs.bel r
  | _, _, .ref h => by simpa [below] using (List.getElem?_eq_some_iff.mp h).1
theorem RelDs.bel : ∀ {ds : List D} {vs : List V}, RelDs K c H ds vs → belows c.m.length ds = true
  | _, _, .nil => rfl
  | _, _, .cons r t => by simp only [belows, RelD.bel r, RelDs.bel t, Bool.and_self]
end
/-- from a greater store to a lesser one -/
structure Less (c c' : Ct) : Prop where
  z : c'.z = c.z
  m : ∃ t, c'.m = c.m ++ t
theorem Less.not (x : Less c c') {a : Addr} (h : a ∉ c'.m) : a ∉ c.m := fun q => by
  obtain ⟨t, e⟩ := x.m
  exact h (by rw [e]; exact List.mem_append_left _ q)
theorem Less.get (x : Less c c') {i : Nat} {a : Addr} (h : c'.m[i]? = some a) (hi : i < c.m.length) : c.m[i]? = some a := by
  obtain ⟨t, e⟩ := x.m
  rw [e, List.getElem?_append_left hi] at h
  exact h
mutual
theorem RelD.less (x : Less c c') : ∀ {d : D} {v : V}, RelD K c' H d v → below c.m.length d = true → RelD K c H d v
  | _, _, .non, _ => .non
  | _, _, .bl b, _ => .bl b
  | _, _, .int i, _ => .int i
  | _, _, .str z, _ => .str z
  | _, _, .tup h n r, b => .tup h (x.not n) (RelDs.less x r b)
  | _, _, .lst h n nz r, b => .lst h (x.not n) (by rw [← x.z]; exact nz) (RelDs.less x r b)
  | _, _, .scr h q n nz, _ => .scr h q (x.not n) (by rw [← x.z]; exact nz)
  | _, _, .scK q, _ => .scK q
  | _, _, .dct h n nz l r, b => .dct h (x.not n) (by rw [← x.z]; exact nz) l (RelDs.less x r b)
  | _, _, .ref h, b => .ref (x.get h (by simpa [below] using b))
theorem RelDs.less (x : Less c c') : ∀ {ds : List D} {vs : List V}, RelDs K c' H ds vs → belows c.m.length ds = true → RelDs K c H ds vs
  | _, _, .nil, _ => .nil
  | _, _, .cons r t, b => by
    obtain ⟨b1, b2⟩ := Bool.and_eq_true_iff.mp (show (below c.m.length _ && belows c.m.length _) = true from b)
    exact .cons (RelD.less x r b1) (RelDs.less x t b2)
end
mutual
theorem RelD.fz (x : Less c c') {r : Nat → Option D} (hr : ∀ i a d', c.m.length ≤ i → c'.m[i]? = some a → r i = some d' → RelD K c H d' (.ref a)) :
    ∀ {d d' : D} {v : V}, RelD K c' H d v → fzR c.m.length r d = some d' → RelD K c H d' v
  | _, _, _, .non, e => by cases e; exact .non
  | _, _, _, .bl b, e => by cases e; exact .bl b
  | _, _, _, .int i, e => by cases e; exact .int i
  | _, _, _, .str z, e => by cases e; exact .str z
  | _, _, _, .tup h n q, e => by
    obtain ⟨ys, h1, rfl⟩ := Option.map_eq_some_iff.mp e
    exact .tup h (x.not n) (RelDs.fz x hr q h1)
  | _, _, _, .lst h n nz q, e => by
    obtain ⟨ys, h1, rfl⟩ := Option.map_eq_some_iff.mp e
    exact .lst h (x.not n) (by rw [← x.z]; exact nz) (RelDs.fz x hr q h1)
  | _, _, _, .scr h q n nz, e => by cases e; exact .scr h q (x.not n) (by rw [← x.z]; exact nz)
  | _, _, _, .scK q, e => by cases e; exact .scK q
  | _, _, _, .dct h n nz l q, e => by
    obtain ⟨ys, h1, rfl⟩ := Option.map_eq_some_iff.mp e
    have q2 := RelDs.fz x hr q h1
    exact .dct h (x.not n) (by rw [← x.z]; exact nz) (by rw [l, q.length, q2.length]) q2
  | _, _, _, @RelD.ref _ _ _ a i h, e => by
    by_cases hi : i < c.m.length
    · have e : (if i < c.m.length then some (D.ref i) else r i) = some _ := e
      rw [if_pos hi] at e
      cases e
      exact .ref (x.get h hi)
    · have e : (if i < c.m.length then some (D.ref i) else r i) = some _ := e
      rw [if_neg hi] at e
      exact hr i a _ (by omega) h e
theorem RelDs.fz (x : Less c c') {r : Nat → Option D} (hr : ∀ i a d', c.m.length ≤ i → c'.m[i]? = some a → r i = some d' → RelD K c H d' (.ref a)) :
    ∀ {ds ds' : List D} {vs : List V}, RelDs K c' H ds vs → fzsR c.m.length r ds = some ds' → RelDs K c H ds' vs
  | _, _, _, .nil, e => by cases e; exact .nil
  | _, _, _, .cons (d := d) (ds := ds) q t, e => by
    unfold fzsR at e
    cases h1 : fzR c.m.length r d with
    | none => rw [h1] at e; cases e
    | some d' =>
      cases h2 : fzsR c.m.length r ds with
      | none => rw [h1, h2] at e; cases e
      | some ds' =>
        rw [h1, h2] at e
        cases e
        exact .cons (RelD.fz x hr q h1) (RelDs.fz x hr t h2)
end
mutual
theorem noRef_bel (n : Nat) : ∀ d : D, noRef d = true → below n d = true
  | .non, _ => rfl
  | .bl _, _ => rfl
  | .int _, _ => rfl
  | .str _, _ => rfl
  | .scr _, _ => rfl
  | .tup xs, h => noRefs_bel n xs h
  | .lst xs, h => noRefs_bel n xs h
  | .dct _ xs, h => noRefs_bel n xs h
  | .ref _, h => nomatch h
theorem noRefs_bel (n : Nat) : ∀ ds : List D, noRefs ds = true → belows n ds = true
  | [], _ => rfl
  | d :: ds, h => by
    obtain ⟨h1, h2⟩ := Bool.and_eq_true_iff.mp (show (noRef d && noRefs ds) = true from h)
    simp only [belows, noRef_bel n d h1, noRefs_bel n ds h2, Bool.and_self]
end
theorem ob_fz (s : RelS K c' S' H) (x : Less c c') {r : Nat → Option D} (hr : ∀ i a d', c.m.length ≤ i → c'.m[i]? = some a → r i = some d' → RelD K c H d' (.ref a)) :
    ∀ i a d', c.m.length ≤ i → c'.m[i]? = some a → obFz c.m.length r S'[i]? = some d' → RelD K c H d' (.ref a) := by
  intro i a d' hi ha e
  cases q : S'[i]? with
  | none => rw [q] at e; cases e
  | some o =>
    cases o with
    | lst xs =>
      rw [q] at e
      obtain ⟨ys, h1, rfl⟩ := Option.map_eq_some_iff.mp e
      obtain ⟨vs, h2, h3⟩ := s.at q ha
      obtain ⟨t, em⟩ := x.m
      have hn : a ∉ c.m := fun hm => by
        obtain ⟨j, hj, ej⟩ := List.getElem_of_mem hm
        have h4 : c'.m[j]? = some a := by rw [em, List.getElem?_append_left hj, List.getElem?_eq_getElem hj, ej]
        have h5 := (List.getElem?_inj (by rw [em, List.length_append]; omega) s.nd).mp (h4.trans ha.symm)
        omega
      exact .lst h2 hn (fun hz => (s.zn a (by rw [x.z]; exact hz)).1 (List.mem_of_getElem? ha)) (RelDs.fz x hr h3 h1)
theorem agree_get : ∀ {S S' : Store} {n i : Nat} {o : Ob}, agree n S S' → S[i]? = some o → ∃ o', S'[i]? = some o' ∧ (o' = o ∨ belowO n o' = true)
  | [], _, _, _, _, _, h => by simp at h
  | _ :: _, [], _, _, _, h, _ => h.elim
  | o :: os, o' :: os', n, 0, p, h, e => by
    simp at e; subst e
    exact ⟨o', rfl, h.1⟩
  | o :: os, o' :: os', n, i + 1, p, h, e => by
    obtain ⟨q, h1, h2⟩ := agree_get (S := os) (S' := os') (i := i) h.2 (by simpa using e)
    exact ⟨q, by simpa using h1, h2⟩
theorem agree_len : ∀ {S S' : Store} {n : Nat}, agree n S S' → S.length ≤ S'.length
  | [], _, _, _ => Nat.zero_le _
  | _ :: _, [], _, h => h.elim
  | _ :: os, _ :: os', _, h => Nat.succ_le_succ (agree_len (S := os) (S' := os') h.2)
theorem Ext.less (x : Ext c H c' H') : Less c c' := ⟨x.z, let ⟨t, e, _⟩ := x.m; ⟨t, e⟩⟩
/-- the store as it stands for the caller -/
theorem leave (s : RelS K c S H) (x : Ext c H c' H') (s' : RelS K c' S' H') (ag : agree S.length S S') : Ext c H c H' ∧ RelS K c (S'.take S.length) H' := by
  refine ⟨⟨rfl, ⟨[], by simp, by simp⟩, x.k, x.s⟩, ?_, s.nd, fun i o h => ?_, fun a ha => ?_⟩
  · rw [List.length_take, Nat.min_eq_left (agree_len ag)]
    exact s.len
  · have hi : i < S.length := by
      have := (List.getElem?_eq_some_iff.mp h).1
      rw [List.length_take] at this
      omega
    rw [List.getElem?_take_of_lt hi] at h
    have e0 : S[i]? = some S[i] := List.getElem?_eq_getElem hi
    obtain ⟨o', h1, h2⟩ := agree_get ag e0
    rw [h] at h1; cases h1
    obtain ⟨a, h3, h4⟩ := s'.ob i o h
    refine ⟨a, x.less.get h3 (by rw [s.len]; exact hi), ?_⟩
    cases o with
    | lst xs =>
      obtain ⟨vs, h5, h6⟩ := h4
      refine ⟨vs, h5, h6.less x.less ?_⟩
      rcases h2 with h2 | h2
      · obtain ⟨b, h7, h8⟩ := s.ob i _ e0
        rw [← h2] at h8
        obtain ⟨us, _, h9⟩ := h8
        exact h9.bel
      · rw [s.len]; exact h2
  · obtain ⟨h1, o, h2⟩ := s.zn a ha
    exact ⟨h1, o, x.k a _ h1 h2⟩
theorem RelD.leave {d d' : D} {v : V} (s : RelS K c S H) (x : Ext c H c' H') (s' : RelS K c' S' H') (e : fzD S' S.length d = some d') (r : RelD K c' H' d v) : RelD K c H' d' v := by
  unfold fzD at e
  split at e
  · rename_i h
    cases e
    exact r.less x.less (noRef_bel _ _ h)
  · rw [← s.len] at e
    exact RelD.fz x.less (ob_fz s' x.less (ob_fz s' x.less fun i a d' _ _ h => by cases h)) r e
end
/-- a def by its body -/
theorem fin_ok {Z : Se} {keep : Bool} {S S' : Store} {c c' : Ct} {H H' : Hp} {d : D} {v : V} {Q : VK} (s : RelS Z.K c S H) (p : Post Z (RelD Z.K) (fin keep S d S') c [] H Q) (x : Ext c H c' H') (s' : RelS Z.K c' S' H') (r : RelD Z.K c' H' d v) : Q v H' := by
  unfold fin at p
  split at p
  · exact p c' v H' x s' r
  · split at p
    · rename_i ag
      split at p
      · rename_i d' e
        obtain ⟨x1, s1⟩ := leave s x s' ag
        exact p c v H' x1 s1 (RelD.leave s x s' e r)
      · exact p.elim
    · exact p.elim
theorem takes_cx {P : Program} {w : World} {K : PySem.W.Frag} {mg : Str → Option Value} {base : Heap} {N : List Str} {qual : Str} {scope : Scope} {f : Addr} {cd : Value} {A : Around} {outer : List PySem.Env} {s : Shared} {H : Hp} {E : XK} :
    Takes (cxOf (CX P w) P w K mg base N qual scope f cd A outer s H E) (fun cls d _ H => E cls d H) := takes_of rfl rfl rfl rfl
theorem passes_cx {P : Program} {w : World} {K : PySem.W.Frag} {mg : Str → Option Value} {base : Heap} {N : List Str} {qual : Str} {scope : Scope} {f : Addr} {cd : Value} {A : Around} {outer : List PySem.Env} {s : Shared} {H : Hp} {E : XK} :
    PassesOwn (model P w) (cxOf (CX P w) P w K mg base N qual scope f cd A outer s H E).A (cxOf (CX P w) P w K mg base N qual scope f cd A outer s H E).env (cxOf (CX P w) P w K mg base N qual scope f cd A outer s H E).xe :=
  passes_of (X := cxOf (CX P w) P w K mg base N qual scope f cd A outer s H E) (K := fun e s'' => CX P w outer H s E e s'') rfl
theorem runF_len {G : List Fn} {F : FnI} {ds : List D} {S : Store} (h : runF G F ds S ≠ .bad) : ds.length = F.np := by
  unfold runF at h
  split at h
  · assumption
  · exact absurd rfl h
open Classical in
/-- the body's outcome at the entry -/
theorem body_ok {Z : Se} {G : List Fn} {F : FnI} {c : Ct} {S : Store} {ds : List D} {vs : List V} {H : Hp} {Q : VK} {N : List Str} (s : RelS Z.K c S H) (r : RelDs Z.K c H ds vs) (hN : N.length = F.ns) (hnp : F.np ≤ F.ns) (hW : ∀ cls x σ σ' H', Z.W cls x σ H' → Z.W cls x σ' H')
    (p : Post Z (RelD Z.K) (runF G F ds S) c [] H Q) : TXf Z (fun r S => exs G F.body r S) { nx := fun _ H' => Q .non H', rt := Q } (L2.start N vs) H := by
  have hl : ds.length = F.np := runF_len fun z => by rw [z] at p; exact p
  unfold runF at p
  rw [if_pos hl] at p
  refine ⟨c, ds.map some ++ List.replicate (F.ns - F.np) none, S, s, ⟨?_, fun i d hd => ?_⟩, ?_⟩
  · unfold L2.start
    rw [List.length_append, List.length_append, List.length_map, List.length_map, List.length_replicate, List.length_replicate, ← r.length]
    omega
  · rw [look_get] at hd
    by_cases hi : i < ds.length
    · rw [List.getElem?_append_left (by simpa using hi), List.getElem?_map] at hd
      obtain ⟨d', h1, h2⟩ := Option.map_eq_some_iff.mp hd
      cases h2
      obtain ⟨v, h3, h4⟩ := r.get h1
      refine ⟨v, ?_, h4⟩
      unfold L2.start
      rw [List.getElem?_append_left (by rw [List.length_map, ← r.length]; exact hi), List.getElem?_map, h3]
      rfl
    · rw [List.getElem?_append_right (by simpa using hi), List.getElem?_replicate] at hd
      split at hd <;> cases hd
  · have p : Post Z (RelD Z.K) (exitR F.keep S (exs G F.body (ds.map some ++ List.replicate (F.ns - F.np) none) S)) c [] H Q := p
    show PostF Z (exs G F.body (ds.map some ++ List.replicate (F.ns - F.np) none) S) c H _
    cases q : exs G F.body (ds.map some ++ List.replicate (F.ns - F.np) none) S with
    | next r' S' =>
      rw [q] at p
      exact fun c' σ' H' x s' e' => fin_ok s p x s' .non
    | ret d S' =>
      rw [q] at p
      exact fun c' v H' x s' r' => fin_ok s p x s' r'
    | brk r' S' => rw [q] at p; exact p.elim
    | con r' S' => rw [q] at p; exact p.elim
    | bad => rw [q] at p; exact p.elim
    | exc nm fl r' S' =>
      rw [q] at p
      have p : Post Z (RelD Z.K) (if agree S.length S S' ∧ belows S.length (fl.map (·.2)) = true then .exc nm fl (S'.take S.length) else .bad) c [] H Q := p
      split at p
      case isFalse => exact p.elim
      case isTrue h =>
        obtain ⟨ag, hb⟩ := h
        intro c' cls x σ' H' xx s' e' rx
        obtain ⟨x1, s1⟩ := leave s xx s' ag
        refine hW _ _ _ _ _ (p c cls x H' x1 s1 ⟨rx.1, ?_⟩)
        rcases rx.2 with h0 | ⟨a, us, h1, h2, h3, h4, h5⟩
        · exact .inl h0
        · exact .inr ⟨a, us, h1, h2, xx.less.not h3, by rw [← xx.z]; exact h4, h5.less xx.less (by rw [s.len]; exact hb)⟩
theorem fn_my {P : Program} {w : World} {K : PySem.W.Frag} {mg : Str → Option Value} {base : Heap} {k : Nat} {f : Addr} {name qual : Str} {params : Arguments} {body : List Stmt} {scope : Scope} {dV kV doc pm cdv ct oc : Value} {an od : Option Addr}
    {osl : Array (Option Value)} {N ps : List Str} {G : List Fn} {F : FnI} (lk : K.lookup f = some ⟨oc, od, .func (PySem.W.fnOf name qual params body scope dV kV doc pm an cdv ct), osl⟩) (hcd : PySem.W.codeIn K cdv qual = true) (S : FnScope N ps scope)
    (hN : N.length = F.ns) (hnp : ps.length = F.np) (hle : F.np ≤ F.ns)
    (hbody : ∀ (A : Around) (outer : List PySem.Env) (s : Shared) (H : Hp) (E : XK), A.guards = some [] → Room k (A.deeper (envOfC qual scope s.heap.objs.size f cdv)) →
      PSs (cxOf (CX P w) P w K mg base N qual scope f cdv A outer s H E) body (TXf ⟨K, mg, fun cls x _ H => E cls x H⟩ fun r S => exs G F.body r S)) :
    MyFn P w K mg base (k + 1) f (PySem.W.fnOf name qual params body scope dV kV doc pm an cdv ct) ps (runF G F) := by
  refine ⟨fun ds S h => (runF_len h).trans hnp.symm, fun A outer s H args us vs Q E hgd hr e0 hb r hsp => ?_⟩
  have hl := spg_len (ps := ps) (fun ds S h => (runF_len h).trans hnp.symm) hsp
  have KX : K.In s.heap := e0.mod.kin.keeps fun b o e => (e0.bs b o e).1
  have lim : s.heap.NoLimit := e0.mod.nolimit.keeps fun b o e => (e0.bs b o e).1
  have hkind : ∀ y ∈ ps.zip us, scope.names.lookup y.1 = some .local ∨ (scope.names.lookup y.1 = some .cell ∧ ((cellsFrom (s.heap.objs.size + 1) scope.names []).lookup y.1).isSome = true) := fun ⟨n, v⟩ hy =>
    (S.par n (List.of_mem_zip hy).1).elim .inl fun q => .inr ⟨q, PySem.W.cellsFrom_some _ _ _ (.inl q)⟩
  refine codeAny_call_function hr.depth (KX _ _ lk) rfl S.co S.gen rfl (PySem.W.codeRec_of KX hcd) (hb _ _ _ _ ?_)
  refine wpAny_newFunctionEnv_cells S.kind hkind fun env he s1 x => ?_
  subst he
  refine ⟨lim.keeps x.toInCall.keep, codeAny_func ?_⟩
  obtain ⟨c, S0, ds, hs, hds, hp⟩ := hsp
  have ht := hbody A outer s H E hgd (hr.deeper _)
  have hq := body_ok (N := N) hs hds hN hle (fun _ _ _ _ _ h => h) hp
  have I : L2.Inv (cxOf (CX P w) P w K mg base N qual scope f cdv A outer s H E) [] (start N vs) H s1 := inv_start S hr.hd e0 hl r x
  refine wpAny_mono (ht.run [] s1 (L2.start N vs) H _ I hq) (fun fl s' hs => ?_) fun e s' hs => hs
  cases fl with
  | ret u =>
    obtain ⟨v, σ', H', J, rv, q⟩ := hs
    exact ⟨v, H', J.os, J.bare, J.base, J.hok, rv, q⟩
  | next =>
    obtain ⟨σ', H', J, q⟩ := hs
    exact ⟨.non, H', J.os, J.bare, J.base, J.hok, rfl, q⟩
  | brk => exact hs.elim fun _ h => h.elim fun _ h => h.2.elim
  | cont => exact hs.elim fun _ h => h.elim fun _ h => h.2.elim
end RR

set_option Elab.async false
set_option linter.all false
set_option maxRecDepth 100000
set_option maxHeartbeats 4000000
/-! sorted(..) of ints, of tuples of ints, whatever their number -/
namespace RRS
open PySem PyProof.Rows Srt SrtO
/-- the order of tuples -/
def lexL : List Int → List Int → Bool
  | _, [] => false
  | [], _ :: _ => true
  | a :: as, b :: bs => if a = b then lexL as bs else decide (a < b)
theorem lexL_cons {a b : Int} {as bs : List Int} : lexL (a :: as) (b :: bs) = if a = b then lexL as bs else decide (a < b) := rfl
theorem lexL_asym : ∀ {x y : List Int}, lexL x y = true → lexL y x = false
  | _, [], h => by cases ‹List Int› <;> cases h
  | [], _ :: _, _ => rfl
  | a :: as, b :: bs, h => by
    unfold lexL at h ⊢
    by_cases e : a = b
    · rw [if_pos e] at h; rw [if_pos e.symm]; exact lexL_asym h
    · rw [if_neg e] at h; rw [if_neg (fun q => e q.symm)]
      have := of_decide_eq_true h
      exact decide_eq_false (by omega)
theorem lexL_tr : ∀ {x y z : List Int}, lexL y x = false → lexL z y = false → lexL z x = false
  | [], y, z, _, _ => by cases z <;> rfl
  | _ :: _, [], _, h, _ => by cases h
  | _ :: _, _ :: _, [], _, h => by cases h
  | a :: as, b :: bs, c :: cs, h1, h2 => by
    unfold lexL at h1 h2 ⊢
    by_cases e : c = a
    · rw [if_pos e]
      by_cases e1 : b = a
      · rw [if_pos e1] at h1
        rw [if_pos (e.trans e1.symm)] at h2
        exact lexL_tr h1 h2
      · rw [if_neg e1] at h1
        rw [if_neg (fun q => e1 (q.symm.trans e))] at h2
        have := of_decide_eq_false h1
        have := of_decide_eq_false h2
        omega
    · rw [if_neg e]
      by_cases e1 : b = a
      · rw [if_neg (fun q => e (q.trans e1))] at h2
        have := of_decide_eq_false h2
        exact decide_eq_false (by omega)
      · rw [if_neg e1] at h1
        have h1 := of_decide_eq_false h1
        by_cases e2 : c = b
        · exact decide_eq_false (by omega)
        · rw [if_neg e2] at h2
          have := of_decide_eq_false h2
          exact decide_eq_false (by omega)
theorem lexL_total : ∀ {x y : List Int}, lexL x y = false → lexL y x = false → x = y
  | [], [], _, _ => rfl
  | [], _ :: _, h, _ => by cases h
  | _ :: _, [], _, h => by cases h
  | a :: as, b :: bs, h1, h2 => by
    unfold lexL at h1 h2
    by_cases e : a = b
    · rw [if_pos e] at h1
      rw [if_pos e.symm] at h2
      rw [e, lexL_total h1 h2]
    · rw [if_neg e] at h1
      rw [if_neg (fun q => e q.symm)] at h2
      have := of_decide_eq_false h1
      have := of_decide_eq_false h2
      omega
theorem swo_lexL {α : Type} (k : α → List Int) : Swo fun v u => lexL (k v) (k u) := ⟨fun _ _ h => lexL_asym h, fun _ _ _ h1 h2 => lexL_tr h1 h2⟩
/-- v is a tuple of these ints -/
def IsT (h : Heap) (v : Value) (ns : List Int) : Prop := ∃ a o us n, v = .ref a ∧ h.get? a = some o ∧ o.cls = .type "tuple" ∧ o.data = .seq us n ∧ IntsAre us.toList ns
theorem IsT.keeps {h h' : Heap} {v : Value} {ns : List Int} (p : IsT h v ns) (k : ∀ b o, h.get? b = some o → o.cls = .type "tuple" → h'.get? b = some o) : IsT h' v ns := by
  obtain ⟨a, o, us, n, e, ho, hc, hd, hi⟩ := p
  exact ⟨a, o, us, n, e, k _ _ ho hc, hc, hd, hi⟩
section
variable {prog : Program} {w : World} {A : Around} {E : Value → Shared → Prop} {s : Shared}
theorem lex_ints : ∀ {us vs : List Value} {ns ms : List Int} (i : Nat) (b : Bool), IntsAre us ns → IntsAre vs ms → b = true →
    PySem.W.KatLex prog w A b (decide (ns.length < ms.length)) (fun r s' => s' = s ∧ r = lexL ns ms) (us.zip vs) i s
  | _, _, _, _, i, b, .nil, .nil, _ => PySem.W.kat_nil ⟨rfl, rfl⟩
  | _, _, _, _, i, b, .nil, .cons y u r, _ => PySem.W.kat_nil ⟨rfl, by simp [lexL]⟩
  | _, _, _, _, i, b, .cons x t r, .nil, _ => PySem.W.kat_nil ⟨rfl, by simp [lexL]⟩
  | _, _, _, _, i, b, .cons (vs := us) (ns := ns) x t r, .cons (vs := vs) (ns := ms) y u r', hb => by
    have ih := lex_ints (us := us) (vs := vs) (ns := ns) (ms := ms) (i + 1) b r r' hb
    have el : decide ((x :: ns).length < (y :: ms).length) = decide (ns.length < ms.length) := by simp
    rw [el]
    refine PySem.W.kat_cons (SeqAt.EqAt.int_int x t y u prog w _ _ ?_)
    refine PySem.W.kat_go (fun e1 => ?_) (fun e1 => ?_)
    · have ex : x = y := by simpa using e1
      refine PySem.W.kat_yes ?_
      have e3 : lexL (x :: ns) (y :: ms) = lexL ns ms := by rw [lexL_cons]; exact if_pos ex
      rw [e3]
      exact ih
    · have ex : ¬ x = y := by simpa using e1
      have e3 : lexL (x :: ns) (y :: ms) = decide (x < y) := by rw [lexL_cons]; exact if_neg ex
      rw [e3]
      subst hb
      by_cases h0 : i = 0
      · subst h0
        exact PySem.W.kat_no (oneLt_int ⟨rfl, rfl⟩)
      · have hi : (true && i == 0) = false := by simp [h0]
        refine PySem.W.kat_no ?_
        rw [hi]
        exact PySem.W.kat_one _ _ (PyProof.Rows.lt_int ⟨rfl, rfl⟩)
theorem tup_cmp {vs : List Value} {k : Value → List Int} (hp : ∀ v ∈ vs, IsT s.heap v (k v)) : Cmp prog w A s (tuples' true) (fun p => p.1 ∈ vs) (lt2 fun v u => lexL (k v) (k u)) := by
  intro p q hm hm'
  obtain ⟨a, o, us, n, e, ho, hc, hd, hi⟩ := hp _ hm
  obtain ⟨a', o', us', n', e', ho', hc', hd', hi'⟩ := hp _ hm'
  show wpAny (model prog w) A (keyLt' (tuples' true) p.1 q.1) (fun r s' => s' = s ∧ r = lexL (k p.1) (k q.1)) (fun _ _ => False) s
  rw [show p.1 = Value.ref a from e, show q.1 = Value.ref a' from e']
  rw [show p.1 = Value.ref a from e] at hi
  rw [show q.1 = Value.ref a' from e'] at hi'
  refine PySem.W.kat_lt ho hd ho' hd' ?_
  have l1 := hi.length
  have l2 := hi'.length
  have : decide (us.size < us'.size) = decide ((k (.ref a)).length < (k (.ref a')).length) := by
    rw [← l1, ← l2, Array.length_toList, Array.length_toList]
  rw [this]
  exact lex_ints 0 true hi hi' rfl
theorem firsts_T {h : Heap} {k : Value → List Int} : ∀ {vs : List Value}, (∀ v ∈ vs, IsT h v (k v) ∧ k v ≠ []) → ∃ fs : List Value, PySem.W.KatTups h vs fs ∧ fs.length = vs.length ∧ ∀ f ∈ fs, ∃ x t, f = Value.int x t
  | [], _ => ⟨[], PySem.W.KatTups.nil, rfl, fun _ hm => by simp at hm⟩
  | v :: vs, hp => by
    obtain ⟨fs, h1, h2, h3⟩ := firsts_T (vs := vs) fun v' hm => hp v' (List.mem_cons_of_mem _ hm)
    obtain ⟨⟨a, o, us, n, e, ho, hc, hd, hi⟩, hne⟩ := hp v List.mem_cons_self
    subst e
    obtain ⟨x, t, hx⟩ : ∃ x t, us[0]? = some (Value.int x t) := by
      obtain ⟨l⟩ := us
      generalize k (.ref a) = ns at hi hne
      have hi : IntsAre l ns := hi
      cases hi with
      | nil => exact absurd rfl hne
      | cons x t r => exact ⟨x, t, by simp⟩
    refine ⟨.int x t :: fs, PySem.W.KatTups.cons ho hc hd hx h1, by rw [List.length_cons, List.length_cons, h2], fun f hm => ?_⟩
    rcases List.mem_cons.mp hm with rfl | hm
    · exact ⟨x, t, rfl⟩
    · exact h3 f hm
theorem tups_sortable {a : Addr} {vs : List Value} {k : Value → List Int} (h0 : 0 < vs.length) (hp : ∀ v ∈ vs, IsT s.heap v (k v) ∧ k v ≠ []) (ha : ∀ o, s.heap.get? a = some o → o.cls ≠ .type "tuple") : SortableO prog w A s a vs fun v u => lexL (k v) (k u) := by
  intro h' keep
  have hp' : ∀ v ∈ vs, IsT h' v (k v) ∧ k v ≠ [] := fun v hm => ⟨(hp v hm).1.keeps fun b o e c => keep b o (fun z => by subst z; exact ha o e c) e, (hp v hm).2⟩
  obtain ⟨fs, h1, h2, h3⟩ := firsts_T hp'
  refine ⟨tuples' true, fun Q E hq => ?_, tup_cmp fun v hm => (hp' v hm).1⟩
  refine PySem.W.kat_kind (T := .type "int") h1 (by omega) (fun f hm => ?_) (by rfl) ?_
  · obtain ⟨x, t, rfl⟩ := h3 f hm
    exact PySem.W.Looks.now
  · have e : (Value.type "int" != Value.type "tuple") = true := by first | decide +kernel | rfl | decide
    rw [e]
    exact hq
/-- what stands in a list or a tuple, told -/
theorem collect_seq {l : Addr} {o : Obj} {n : Nat} {vs : List Value} {Q : List Value → Shared → Prop} (ho : s.heap.get? l = some o) (hc : o.cls = .type "list" ∨ o.cls = .type "tuple") (hd : o.data = .seq vs.toArray n)
    (h : Q vs { s with heap := (s.heap.push (seqObj "list" #[] 0)).update s.heap.objs.size (Obj.mapSeq (· ++ vs.toArray)) }) (hsz : vs.length ≤ sizeLine) :
    wpAny (model prog w) A (collect (.ref l)) Q E s := by
  unfold collect
  refine wpAny_bind (wpAny_runValue (codeAny_builtin entry_proto_collect' ?_))
  show wpAny _ _ (do again (.builtin "list.__iadd__" ⟨[← newList [], .ref l], []⟩)) _ _ s
  refine wpAny_bind (wpAny_newList (wpAny_pure ⟨Code.quiet_builtin _ (by decide +kernel), codeAny_builtin entry_list_iadd' ?_⟩))
  show wpAny _ _ (Builtin.List.listExtendWith (.ref s.heap.objs.size) (.ref l) (.ref s.heap.objs.size)) _ _ { s with heap := s.heap.push (seqObj "list" #[] 0) }
  unfold Builtin.List.listExtendWith
  have ho' : (s.heap.push (seqObj "list" #[] 0)).get? l = some o := Heap.get?_push_of_some _ ho
  rcases hc with hc | hc
  · refine wpAny_bind (wpAny_typeOf (T := "list") ⟨o, ho', hc⟩ ?_)
    have ht : (Value.type "list" == Value.type "list") = true := by rfl
    rw [if_pos (by rw [ht]; simp)]
    refine wpAny_bind (listItems_at ho' hd ?_)
    refine wpAny_bind (listItems_at (xs := #[]) (n := 0) (Heap.get?_push_size _ rfl) rfl ?_)
    rw [if_neg (by simp)]
    refine wpAny_bind (listUpdate_at (xs := #[]) (n := 0) (Heap.get?_push_size _ rfl) rfl ?_ (Nat.zero_le _) (by show (#[] ++ vs.toArray).size ≤ sizeLine + 1; simp only [Array.size_append, List.size_toArray, List.length_nil]; omega))
    refine wpAny_pure ?_
    show wpAny (model prog w) A (do
        let o ← load s.heap.objs.size
        match o.data with
        | .seq xs _ => pure xs.toList
        | _ => unsupported "internal:collect") Q E { s with heap := (s.heap.push (seqObj "list" #[] 0)).update s.heap.objs.size (Obj.mapSeq (· ++ vs.toArray)) }
    refine wpAny_bind (wpAny_load (get?_update_seq (Heap.get?_push_size _ rfl) _) ?_)
    show wpAny _ _ (pure ((#[] : Array Value) ++ vs.toArray).toList) Q E _
    rw [show ((#[] : Array Value) ++ vs.toArray).toList = vs by simp]
    exact wpAny_pure h
  · refine wpAny_bind (wpAny_typeOf (T := "tuple") ⟨o, ho', hc⟩ ?_)
    have ht : (Value.type "tuple" == Value.type "tuple") = true := by rfl
    rw [if_pos (by rw [ht]; simp)]
    refine wpAny_bind (listItems_at ho' hd ?_)
    refine wpAny_bind (listItems_at (xs := #[]) (n := 0) (Heap.get?_push_size _ rfl) rfl ?_)
    rw [if_neg (by simp)]
    refine wpAny_bind (listUpdate_at (xs := #[]) (n := 0) (Heap.get?_push_size _ rfl) rfl ?_ (Nat.zero_le _) (by show (#[] ++ vs.toArray).size ≤ sizeLine + 1; simp only [Array.size_append, List.size_toArray, List.length_nil]; omega))
    refine wpAny_pure ?_
    show wpAny (model prog w) A (do
        let o ← load s.heap.objs.size
        match o.data with
        | .seq xs _ => pure xs.toList
        | _ => unsupported "internal:collect") Q E { s with heap := (s.heap.push (seqObj "list" #[] 0)).update s.heap.objs.size (Obj.mapSeq (· ++ vs.toArray)) }
    refine wpAny_bind (wpAny_load (get?_update_seq (Heap.get?_push_size _ rfl) _) ?_)
    show wpAny _ _ (pure ((#[] : Array Value) ++ vs.toArray).toList) Q E _
    rw [show ((#[] : Array Value) ++ vs.toArray).toList = vs by simp]
    exact wpAny_pure h
theorem sorted_seq {l : Addr} {o : Obj} {n : Nat} {vs : List Value} {ltv : Value → Value → Bool} {Q : Value → Shared → Prop} (O : Swo ltv) (ho : s.heap.get? l = some o) (hc : o.cls = .type "list" ∨ o.cls = .type "tuple") (hd : o.data = .seq vs.toArray n) (hz : vs.length ≤ sizeLine)
    (hS : 2 ≤ vs.length → ∀ (h₁ : Heap) (a : Addr), h₁.get? a = some (seqObj "list" vs.toArray 0) → (∀ b o, s.heap.get? b = some o → b ≠ a ∧ h₁.get? b = some o) → SortableO prog w A.in1.in1 { s with heap := h₁ } a vs ltv)
    (h : ∀ (h' : Heap) (d : Addr) (out : List Value), Srtd ltv out → Stb ltv out vs → (∀ b o, s.heap.get? b = some o → h'.get? b = some o) → s.heap.objs.size ≤ d → (∃ n, h'.get? d = some (seqObj "list" out.toArray n)) → Q (.ref d) { s with heap := h' }) :
    wpAny (model prog w) A (call (.builtin "sorted") [.ref l]) Q E s := by
  refine Calls.call_function_entry kind_sorted plain_sorted entry_sorted (args_sorted1 _) ?_
  unfold Builtin.«sorted»
  refine wpAny_bind (m := checkCount "sorted" 1 1 _) (wpAny_pure ?_)
  refine wpAny_bind (collect_seq ho hc hd ?_ hz)
  refine wpAny_bind (wpAny_newList ?_ hz)
  have hsz : ((s.heap.push (seqObj "list" #[] 0)).update s.heap.objs.size (Obj.mapSeq (· ++ vs.toArray))).objs.size = s.heap.objs.size + 1 := by
    rw [Heap.size_update, size_push']
  have hoL : (((s.heap.push (seqObj "list" #[] 0)).update s.heap.objs.size (Obj.mapSeq (· ++ vs.toArray))).push (seqObj "list" vs.toArray 0)).get? (s.heap.objs.size + 1) = some (seqObj "list" vs.toArray 0) := by
    rw [← hsz]; exact Heap.get?_push_size _ rfl
  have keep : ∀ b o, s.heap.get? b = some o → b ≠ s.heap.objs.size + 1 ∧ (((s.heap.push (seqObj "list" #[] 0)).update s.heap.objs.size (Obj.mapSeq (· ++ vs.toArray))).push (seqObj "list" vs.toArray 0)).get? b = some o := fun b o q => by
    have hlt : b < s.heap.objs.size := Heap.lt_size q
    refine ⟨Nat.ne_of_lt (Nat.lt_succ_of_lt hlt), Heap.get?_push_of_some _ ?_⟩
    rw [Heap.get?_update_ne _ _ _ _ (Nat.ne_of_lt hlt)]
    exact Heap.get?_push_of_some _ q
  show wpAny _ _ _ _ _ { s with heap := ((s.heap.push (seqObj "list" #[] 0)).update s.heap.objs.size (Obj.mapSeq (· ++ vs.toArray))).push (seqObj "list" vs.toArray 0) }
  rw [hsz]
  refine wpAny_bind (wpAny_holding (wpAny_call_entry slot_list_sort ⟨_, hoL, rfl⟩ entry_list_sort (list_sort_ord O hoL hz (fun h2 => hS h2 _ _ hoL keep) fun out hs hb => ⟨_, rfl, ?_⟩) (args_list_sort _)))
  refine wpAny_pure ⟨_, rfl, ?_⟩
  exact h _ _ out hs hb (fun b o e => sortedAll_old e) (Nat.le_succ _) (sortedAll_at s.heap vs out.toArray)
end
end RRS
namespace RR
open PySem PySem.Spec PyProof.Rows L2
section
variable {X : Cx}
/-- a list or a tuple, as it lies -/
theorem seq_at {pins : List (Addr × Obj)} {σ : L2.St} {H : Hp} {s : Shared} {a : Addr} {vs : List V} (I : L2.Inv X pins σ H s) (h : SqT X.K H a vs ∨ SqL X.K H a vs) :
    ∃ (its : List Value) (o : Obj) (n : Nat), Vals vs its ∧ s.heap.get? a = some o ∧ (o.cls = .type "list" ∨ o.cls = .type "tuple") ∧ o.data = .seq its.toArray n ∧ vs.length ≤ sizeLine := by
  rcases h with h | h
  · obtain ⟨its, r, ⟨o, e, c, n, d⟩, z⟩ := I.tuple h
    exact ⟨its, o, n, r, e, .inr c, d, z⟩
  · obtain ⟨its, r, ⟨o, n, e, c, _, d⟩, z⟩ := I.list h
    exact ⟨its, o, n, r, e, .inl c, d, z⟩
/-- sorted(ints) -/
theorem srt_ints {pins : List (Addr × Obj)} {s : Shared} {σ : L2.St} {H : Hp} {a : Addr} {ns : List Int} {Q : VK} (I : L2.Inv X pins σ H s) (h : SqT X.K H a (ns.map V.int) ∨ SqL X.K H a (ns.map V.int))
    (q : ∀ (ns' : List Int) (p : Addr), ns'.Perm ns → ns'.Pairwise (· ≤ ·) → H p = none → Q (.ref p) (upd H p (.lst (ns'.map V.int)))) :
    wpAny (model X.prog X.w) X.A (call (.builtin "sorted") [.ref a]) (EP X pins σ Q) X.xe s := by
  obtain ⟨its, o, n, rv, ho, hc, hd, hz⟩ := seq_at I h
  have hi := rv.ints
  refine RRS.sorted_seq SrtO.swo_int ho hc hd (by rw [← rv.length]; exact hz) (fun h2 h₁ a' _ _ => SrtO.ints_sortable hi h2) fun h' d out h1 h2 kp hdz hn => ?_
  obtain ⟨k1, k2, k3⟩ := SrtO.ints_out hi h1 h2
  obtain ⟨n', hn⟩ := hn
  have hlen : ((out.map SrtO.iv).map V.int).length ≤ sizeLine := by
    rw [List.length_map, k2.length_eq]
    rw [List.length_map] at hz
    exact hz
  exact ⟨.ref d, upd H d (.lst ((out.map SrtO.iv).map V.int)), I.laid (t' := s.toks) kp hdz ⟨hlen, out, n', vals_of_ints k1, hn⟩, rfl, q _ _ k2 k3 (I.hok.fresh hdz)⟩
/-- sorted(tuples of ints, none of them empty) -/
theorem srt_tups {pins : List (Addr × Obj)} {s : Shared} {σ : L2.St} {H : Hp} {a : Addr} {xs : List V} {k : V → List Int} {Q : VK} (I : L2.Inv X pins σ H s) (h : SqT X.K H a xs ∨ SqL X.K H a xs)
    (hx : ∀ x ∈ xs, k x ≠ [] ∧ ∃ t, x = V.ref t ∧ H t = some (.tup ((k x).map V.int)))
    (q : ∀ (ys : List V) (p : Addr), ys.Perm xs → ys.Pairwise (fun x y => RRS.lexL (k y) (k x) = false) → H p = none → Q (.ref p) (upd H p (.lst ys))) :
    wpAny (model X.prog X.w) X.A (call (.builtin "sorted") [.ref a]) (EP X pins σ Q) X.xe s := by
  obtain ⟨its, o, n, rv, ho, hc, hd, hz⟩ := seq_at I h
  obtain ⟨e1, e2⟩ := refs_back rv fun x m => by
    obtain ⟨_, t, e, _⟩ := hx x m
    exact ⟨t, e⟩
  have hp : ∀ v ∈ its, RRS.IsT s.heap v (k (backV v)) ∧ k (backV v) ≠ [] := fun v hv => by
    obtain ⟨t, rfl⟩ := e2 v hv
    have hm : V.ref t ∈ xs := by rw [e1]; exact List.mem_map.mpr ⟨_, hv, rfl⟩
    obtain ⟨hne, t', e, ht⟩ := hx _ hm
    cases e
    obtain ⟨_, its2, r2, o, ho, hc, n, hd⟩ := I.hok _ _ ht
    refine ⟨⟨t, o, its2.toArray, n, rfl, ho, hc, hd, ?_⟩, hne⟩
    have := r2.ints
    show IntsAre its2.toArray.toList (k (V.ref t))
    simpa using this
  refine RRS.sorted_seq (RRS.swo_lexL fun u => k (backV u)) ho hc hd (by rw [← rv.length]; exact hz) (fun h2 h₁ a' ha kk => ?_) fun h' d out h1 h2 kp hdz hn => ?_
  · refine RRS.tups_sortable (s := { s with heap := h₁ }) (by omega) (fun v hm => ⟨(hp v hm).1.keeps fun b o e _ => (kk b o e).2, (hp v hm).2⟩) fun o e => ?_
    have e' : some o = some (seqObj "list" its.toArray 0) := e.symm.trans ha
    cases e'
    intro c
    exact absurd (Value.type.inj c) (by decide)
  · have h3 : ∀ u ∈ out, ∃ a, u = Value.ref a := fun u hu => e2 u (h2.perm.mem_iff.mp hu)
    obtain ⟨n', hn⟩ := hn
    have hb : (out.map backV).Perm xs := by
      rw [e1]
      exact h2.perm.map _
    refine ⟨.ref d, upd H d (.lst (out.map backV)), I.laid (t' := s.toks) kp hdz ⟨?_, out, n', vals_back h3, hn⟩, rfl, q _ d hb (List.pairwise_map.mpr h1) (I.hok.fresh hdz)⟩
    rw [hb.length_eq]
    exact hz
end
end RR

set_option Elab.async false
set_option linter.all false
set_option maxRecDepth 100000
set_option maxHeartbeats 2000000
/-! further constructs: never, forget, sorted, tuples backwards, raise, try, += at a place -/
namespace RR
open PySem PySem.Spec PyProof.Rows L2
section
variable {X : Cx} {W : WX} {a b e o i : Expr} {es : List Expr} {f g h : Env → Store → R D} {fs : Env → Store → R (List D)} {pos p2 : Pos} {fb fc : Env → Store → Fl} {st : Stmt} {sts : List Stmt}
theorem so_bot {x : Expr} : PE X x (TX (Zx X W) fun _ _ => .bad) := ⟨fun _ _ _ _ _ _ ⟨_, _, _, _, _, p⟩ => p.elim⟩
theorem so_botT {x : Expr} {f : Env → Store → R D} : PT X x (TXb (Zx X W) (tv fun _ _ => .bad)) := ⟨fun _ _ _ _ _ _ ⟨_, _, _, _, _, p⟩ => p.elim⟩
theorem so_botS {x : Stmt} : PS X x (TXf (Zx X W) fun _ _ => .bad) := ⟨fun _ _ _ _ _ _ ⟨_, _, _, _, _, p⟩ => p.elim⟩
theorem look_wipe : ∀ (is : List Nat) (r : Env) {j : Nat} {d : D}, look (wipeN r is) j = some d → look r j = some d
  | [], _, _, _, h => h
  | v :: vs, r, j, d, h => by
    have h : look ((wipeN r vs).set v none) j = some d := h
    rw [look_get] at h
    by_cases hv : v = j
    · subst hv
      by_cases hl : v < (wipeN r vs).length
      · rw [List.getElem?_set_self hl] at h; cases h
      · rw [List.getElem?_eq_none (by simp; omega)] at h; cases h
    · rw [List.getElem?_set_ne hv] at h
      exact look_wipe vs r (look_get.mpr h)
theorem wipeN_len : ∀ (is : List Nat) (r : Env), (wipeN r is).length = r.length
  | [], _ => rfl
  | v :: vs, r => by
    show ((wipeN r vs).set v none).length = _
    rw [List.length_set, wipeN_len vs r]
theorem RelE.fgt {K : PySem.W.Frag} {c : Ct} {H : Hp} {r : Env} {σ : L2.St} (h : RelE K c H r σ) (is : List Nat) : RelE K c H (wipeN r is) σ :=
  ⟨by rw [wipeN_len]; exact h.len, fun j d e => h.at_ j d (look_wipe is r e)⟩
theorem so_fgt {is : List Nat} (hs : PSs X sts (TXf (Zx X W) fc)) : PSs X sts (TXf (Zx X W) fun r S => fc (wipeN r is) S) := PSs.of hs fun D σ H ⟨c, r, S, s, e, p⟩ => ⟨c, wipeN r is, S, s, e.fgt is, p⟩
/-! ### sorted -/
theorem leL_lex : ∀ {x y : List Int}, leL x y = !RRS.lexL y x
  | [], y => by cases y <;> rfl
  | _ :: _, [] => rfl
  | a :: as, b :: bs => by
    show (if a = b then leL as bs else decide (a < b)) = !(if b = a then RRS.lexL bs as else decide (b < a))
    by_cases h : a = b
    · rw [if_pos h, if_pos h.symm]; exact leL_lex
    · rw [if_neg h, if_neg fun q => h q.symm]
      by_cases h2 : a < b
      · rw [decide_eq_true h2, decide_eq_false (by omega)]; rfl
      · rw [decide_eq_false h2, decide_eq_true (by omega)]; rfl
theorem leL_trans (x y z : List Int) (h1 : leL x y = true) (h2 : leL y z = true) : leL x z = true := by
  rw [leL_lex] at h1 h2 ⊢
  have a := RRS.lexL_tr (x := x) (y := y) (z := z) (by simpa using h1) (by simpa using h2)
  rw [a]; rfl
theorem leL_total (x y : List Int) : (leL x y || leL y x) = true := by
  rw [leL_lex, leL_lex]
  cases h : RRS.lexL y x with
  | false => rfl
  | true => rw [RRS.lexL_asym h]; rfl
theorem sortI_perm (ns : List Int) : (sortI ns).Perm ns := List.mergeSort_perm _ _
theorem sortI_asc (ns : List Int) : (sortI ns).Pairwise (· ≤ ·) := by
  have := List.pairwise_mergeSort (le := fun a b : Int => decide (a ≤ b)) (fun a b c h1 h2 => by simp at *; omega) (fun a b => by simp; omega) ns
  exact this.imp fun h => of_decide_eq_true h
theorem sortT_perm (ns : List (List Int)) : (sortT ns).Perm ns := List.mergeSort_perm _ _
theorem sortT_asc (ns : List (List Int)) : (sortT ns).Pairwise fun x y => leL x y = true := List.pairwise_mergeSort leL_trans leL_total ns
theorem asc_uniqI {xs ys : List Int} (p : xs.Perm ys) (h1 : xs.Pairwise (· ≤ ·)) (h2 : ys.Pairwise (· ≤ ·)) : xs = ys := p.eq_of_pairwise (fun a b _ _ ha hb => by omega) h1 h2
theorem intsT_of : ∀ {ds : List D} {l : List (List Int)}, intsT ds = some l → ds = l.map (fun ns => .tup (ns.map .int)) ∧ ∀ ns ∈ l, ns ≠ []
  | [], _, h => by cases h; exact ⟨rfl, by simp⟩
  | d :: ds, l, h => by
    cases d with
    | tup xs =>
      have h : (match intsD xs, intsT ds with
        | some (n :: ns), some l => some ((n :: ns) :: l)
        | _, _ => none) = some l := h
      split at h
      · rename_i n ns l' e1 e2
        cases h
        obtain ⟨h1, h2⟩ := intsT_of e2
        refine ⟨by rw [intsD_of e1, h1]; rfl, fun m hm => ?_⟩
        rcases List.mem_cons.mp hm with rfl | hm
        · simp
        · exact h2 m hm
      · cases h
    | _ => cases h
/-- where tuples of ints lie -/
theorem rel_tups {K : PySem.W.Frag} {c : Ct} {H : Hp} : ∀ {l : List (List Int)} {vs : List V}, RelDs K c H (l.map fun ns => D.tup (ns.map .int)) vs →
    vs.length = l.length ∧ ∀ (j : Nat) (ns : List Int), l[j]? = some ns → ∃ t, vs[j]? = some (.ref t) ∧ H t = some (.tup (ns.map V.int)) ∧ t ∉ c.m
  | [], _, .nil => ⟨rfl, by simp⟩
  | ns :: l, _, .cons r t => by
    obtain ⟨h1, h2⟩ := rel_tups t
    cases r with
    | tup g1 g2 g3 =>
      rw [rel_ints g3] at g1
      refine ⟨by simp [h1], fun j ms hj => ?_⟩
      cases j with
      | zero => simp at hj; subst hj; exact ⟨_, rfl, g1, g2⟩
      | succ j => simpa using h2 j ms (by simpa using hj)
def keyV (H : Hp) : V → List Int
  | .ref t => (match H t with
    | some (.tup vs) => vs.map fun v => (match v with
      | .int n => n
      | _ => 0)
    | _ => [])
  | _ => []
theorem keyV_at {H : Hp} {t : Addr} {ns : List Int} (h : H t = some (.tup (ns.map V.int))) : keyV H (.ref t) = ns := by
  simp only [keyV, h, List.map_map]
  exact (List.map_congr_left fun n _ => rfl).trans (List.map_id ns)
theorem rel_of_keys {K : PySem.W.Frag} {c : Ct} {H : Hp} : ∀ {vs : List V}, (∀ v ∈ vs, ∃ t, v = .ref t ∧ H t = some (.tup ((keyV H v).map V.int)) ∧ t ∉ c.m) → RelDs K c H ((vs.map (keyV H)).map fun ns => D.tup (ns.map .int)) vs
  | [], _ => .nil
  | v :: vs, h => by
    obtain ⟨t, rfl, h1, h2⟩ := h v List.mem_cons_self
    exact .cons (.tup h1 h2 (RelDs.ints _)) (rel_of_keys fun u hu => h u (List.mem_cons_of_mem _ hu))
theorem b_srt : CallR X (.builtin "sorted") (rF X.K fun S ds => bltD S .srt ds) := by
  intro pins s σ H xs us Q I r h
  obtain ⟨c, S, ds, d', hs, h1, hF, q⟩ := h
  match ds, hF with
  | [d], hF =>
    obtain ⟨zs, e1, rfl⟩ := Option.map_eq_some_iff.mp (show ((itemsD S d).bind sortD).map D.lst = some d' from hF)
    obtain ⟨xs, e2, e3⟩ := Option.bind_eq_some_iff.mp e1
    obtain ⟨v, rfl, rd⟩ := one_of h1
    obtain ⟨a, vs, rfl, hk, rv⟩ := itemsD_at hs e2 rd
    rw [Vals.ref1 r]
    have hk : SqT X.K H a vs ∨ SqL X.K H a vs := hk.elim (fun z => .inl z.2) (fun z => .inr z.2)
    unfold sortD at e3
    cases q1 : intsD xs with
    | some ns =>
      rw [q1] at e3
      cases e3
      rw [intsD_of q1] at rv
      rw [rel_ints rv] at hk
      refine srt_ints I hk fun ns' p k1 k2 hp => ?_
      have e : ns' = sortI ns := asc_uniqI (k1.trans (sortI_perm ns).symm) k2 (sortI_asc ns)
      subst e
      exact q.lst hs (RelDs.ints _) p hp
    | none =>
      rw [q1] at e3
      obtain ⟨l, q2, rfl⟩ := Option.map_eq_some_iff.mp e3
      obtain ⟨e4, e5⟩ := intsT_of q2
      rw [e4] at rv
      obtain ⟨l1, l2⟩ := rel_tups rv
      have hkey : vs.map (keyV H) = l := by
        refine List.ext_getElem? fun j => ?_
        rw [List.getElem?_map]
        by_cases hj : j < l.length
        · obtain ⟨t, t1, t2, _⟩ := l2 j l[j] (List.getElem?_eq_getElem hj)
          rw [t1, List.getElem?_eq_getElem hj]
          show some (keyV H (.ref t)) = _
          rw [keyV_at t2]
        · rw [List.getElem?_eq_none (by omega), List.getElem?_eq_none (by omega)]; rfl
      have hx : ∀ x ∈ vs, keyV H x ≠ [] ∧ ∃ t, x = V.ref t ∧ H t = some (.tup ((keyV H x).map V.int)) ∧ t ∉ c.m := fun x hx => by
        obtain ⟨j, hj⟩ := List.mem_iff_getElem?.mp hx
        have hl : j < l.length := by rw [← l1]; exact (List.getElem?_eq_some_iff.mp hj).1
        obtain ⟨t, t1, t2, t3⟩ := l2 j l[j] (List.getElem?_eq_getElem hl)
        rw [hj] at t1
        cases t1
        rw [keyV_at t2]
        exact ⟨e5 _ (List.getElem_mem hl), t, rfl, t2, t3⟩
      refine srt_tups (k := keyV H) I hk (fun x m => ⟨(hx x m).1, let ⟨t, t1, t2, _⟩ := (hx x m).2; ⟨t, t1, t2⟩⟩) fun ys p k1 k2 hp => ?_
      have hr : RelDs X.K c H ((ys.map (keyV H)).map fun ns => D.tup (ns.map .int)) ys := rel_of_keys fun v hv => (hx v (k1.mem_iff.mp hv)).2
      have e : ys.map (keyV H) = sortT l := by
        have p1 : (ys.map (keyV H)).Perm (sortT l) := by
          rw [← hkey]
          exact (k1.map _).trans (sortT_perm _).symm
        refine p1.eq_of_pairwise (fun a b _ _ ha hb => ?_) (le := fun x y => leL x y = true) (List.pairwise_map.mpr (k2.imp fun h => ?_)) (sortT_asc l)
        · rw [leL_lex] at ha hb
          exact RRS.lexL_total (by simpa using hb) (by simpa using ha)
        · rw [leL_lex, h]; rfl
      rw [e] at hr
      exact q.lst hs hr p hp
end
end RR

set_option Elab.async false
set_option linter.all false
set_option maxRecDepth 100000
set_option maxHeartbeats 2000000
namespace RRS
open PySem PyProof.Rows HT
section
variable {prog : Program} {w : World} {A : Around} {E : Value → Shared → Prop} {s : Shared}
theorem sliceApplied_bk {sl : Addr} {vl vu vs : Value} {hi : Option Int} {n : Nat} {Q : Int × Int × Nat → Shared → Prop} (hs : s.heap.IsSliceOf sl vl vu vs) (pl : IsPart vl none) (pu : IsPart vu hi) (ps : IsPart vs (some (-1)))
    (h : Q ((Builtin.Slice.sliceAdjust none hi (-1) (n : Int)).1, -1, Builtin.Slice.slicePlaces (Builtin.Slice.sliceAdjust none hi (-1) (n : Int)).1 (Builtin.Slice.sliceAdjust none hi (-1) (n : Int)).2 (-1)) s) :
    wpAny (model prog w) A (Builtin.Slice.sliceApplied (.ref sl) (pure (n : Int))) Q E s := by
  obtain ⟨os, hos, hcs, hds⟩ := id hs
  unfold Builtin.Slice.sliceApplied Builtin.Slice.sliceFields
  refine wpAny_bind (wpAny_bind (wpAny_field hos hds (x := vl) rfl (wpAny_bind (wpAny_field hos hds (x := vu) rfl (wpAny_bind (wpAny_field hos hds (x := vs) rfl (wpAny_pure ?_)))))))
  refine wpAny_bind (slicePart_ ps ?_)
  show wpAny _ _ (if ((-1 : Int) == 0) = true then _ else _) _ _ s
  rw [if_neg (by decide)]
  refine wpAny_bind (slicePart_ pl (wpAny_bind (slicePart_ pu (wpAny_bind (wpAny_pure ?_)))))
  exact wpAny_pure h
theorem getItem_tuple_bk {t sl : Addr} {items : Array Value} {vl vu vs : Value} {hi : Option Int} {out : List Value} {Q : Value → Shared → Prop} (ht : IsTup s.heap t items) (hs : s.heap.IsSliceOf sl vl vu vs) (pl : IsPart vl none) (pu : IsPart vu hi) (ps : IsPart vs (some (-1)))
    (ho : (List.range (Builtin.Slice.slicePlaces (Builtin.Slice.sliceAdjust none hi (-1) (items.size : Int)).1 (Builtin.Slice.sliceAdjust none hi (-1) (items.size : Int)).2 (-1))).filterMap (fun (k : Nat) => items[((Builtin.Slice.sliceAdjust none hi (-1) (items.size : Int)).1 + (k : Int) * -1).toNat]?) = out) (hl : out.length ≤ sizeLine)
    (h : Q (.ref s.heap.objs.size) { s with heap := s.heap.push { cls := .type "tuple", data := .seq out.toArray } }) : wpAny (model prog w) A (getItem (.ref t) (.ref sl)) Q E s := by
  obtain ⟨os, hos, hcs, hds⟩ := id hs
  have hTs : s.TypeIs (.ref sl) "slice" := ⟨os, hos, hcs⟩
  have htake : sizeOk (.seq out.toArray) := by
    show out.toArray.size ≤ sizeLine
    rw [List.size_toArray]; exact hl
  unfold getItem
  try with_reducible refine wpAny_holding ?_
  first | refine wpAny_bind (wpAny_pure ?_) | skip
  refine wpAny_bind (wpAny_sequenceKey ht.typeIs (by decide) ?_)
  refine wpAny_bind (wpAny_callSpecial?_slot (name := Str.ofString "__getitem__") ht.typeIs PyProof.Rows.slot_tuple_getitem
    (wpAny_call_entry PyProof.Rows.slot_tuple_getitem ht.typeIs entry_tuple_getitem ?_ (args_tuple_getitem _ _)))
  show wpAny _ _ (Builtin.Tuple.tupleItemsOf (.ref t) >>= _) _ _ s
  refine wpAny_bind (tupleItemsOf_ ht ?_)
  refine wpAny_bind (wpAny_typeOf hTs ?_)
  rw [if_pos (by decide)]
  refine wpAny_bind (sliceApplied_bk hs pl pu ps ?_)
  have hno : ∀ (x : Int) (y : Bool), ¬ ((x == 0 && (-1 : Int) == 1 && y) = true) := fun x y => by
    rw [show ((-1 : Int) == 1) = false by decide]
    simp
  show wpAny _ _ (if (_ == 0 && (-1 : Int) == 1 && _) = true then _ else _) _ _ s
  rw [if_neg (hno _ _), ho]
  first
    | exact wpAny_bind (m := Builtin.Tuple.tupleExact _) (wpAny_newObj_type (wpAny_pure ⟨_, rfl, wpAny_pure h⟩) htake)
    | exact wpAny_bind (m := Builtin.Tuple.tupleExact _) (wpAny_newObj_type (wpAny_bind (wpAny_pure (wpAny_pure ⟨_, rfl, wpAny_pure h⟩))) htake)
    | exact wpAny_bind (wpAny_bind (m := Builtin.Tuple.tupleExact _) (wpAny_newObj_type (wpAny_pure (wpAny_pure ⟨_, rfl, wpAny_pure h⟩)) htake))
    | exact wpAny_bind (wpAny_bind (m := Builtin.Tuple.tupleExact _) (wpAny_newObj_type (wpAny_pure ⟨_, rfl, wpAny_pure h⟩) htake))
end
theorem filterMap_back {α : Type} (xs : List α) (c : Nat) (hc : c ≤ xs.length) : (List.range (xs.length - c)).filterMap (fun (k : Nat) => xs.toArray[(((xs.length : Nat) : Int) - 1 + (k : Int) * -1).toNat]?) = (xs.drop c).reverse := by
  refine List.ext_getElem? fun j => ?_
  have e : (List.range (xs.length - c)).filterMap (fun (k : Nat) => xs.toArray[(((xs.length : Nat) : Int) - 1 + (k : Int) * -1).toNat]?) = (List.range (xs.length - c)).pmap (fun k (hk : k < xs.length - c) => xs[xs.length - 1 - k]) (fun k hk => List.mem_range.mp hk) := by
    have : ∀ (l : List Nat) (hl : ∀ k ∈ l, k < xs.length - c), l.filterMap (fun (k : Nat) => xs.toArray[(((xs.length : Nat) : Int) - 1 + (k : Int) * -1).toNat]?) = l.pmap (fun k (hk : k < xs.length - c) => xs[xs.length - 1 - k]) hl := by
      intro l hl
      induction l with
      | nil => rfl
      | cons k l ih =>
        have hk := hl k List.mem_cons_self
        have e1 : ((((xs.length : Nat) : Int) - 1 + (k : Int) * -1)).toNat = xs.length - 1 - k := by omega
        rw [List.filterMap_cons, e1]
        have e2 : xs.toArray[xs.length - 1 - k]? = some xs[xs.length - 1 - k] := by simp
        rw [e2]
        simp only [List.pmap_cons]
        rw [ih fun k hk => hl k (List.mem_cons_of_mem _ hk)]
    exact this _ _
  rw [e]
  by_cases hj : j < xs.length - c
  · rw [List.getElem?_pmap]
    have h1 : (List.range (xs.length - c))[j]? = some j := by rw [List.getElem?_range hj]
    rw [List.getElem?_reverse (by simp; omega), List.length_drop, List.getElem?_drop]
    simp only [h1, Option.pmap_some]
    rw [← List.getElem?_eq_getElem]
    congr 1
    omega
  · rw [List.getElem?_eq_none (l := (xs.drop c).reverse) (by simp; omega)]
    rw [List.getElem?_eq_none (by simp; omega)]
theorem back_all {α : Type} (xs : List α) : (List.range (Builtin.Slice.slicePlaces (Builtin.Slice.sliceAdjust none none (-1) (xs.toArray.size : Int)).1 (Builtin.Slice.sliceAdjust none none (-1) (xs.toArray.size : Int)).2 (-1))).filterMap (fun (k : Nat) => xs.toArray[((Builtin.Slice.sliceAdjust none none (-1) (xs.toArray.size : Int)).1 + (k : Int) * -1).toNat]?) = xs.reverse := by
  have e : Builtin.Slice.sliceAdjust none none (-1) (xs.toArray.size : Int) = (((xs.length : Nat) : Int) - 1, -1) := by
    unfold Builtin.Slice.sliceAdjust
    simp
  rw [e]
  have e2 : Builtin.Slice.slicePlaces (((xs.length : Nat) : Int) - 1) (-1) (-1) = xs.length - 0 := by
    unfold Builtin.Slice.slicePlaces
    have h1 : ¬ ((-1 : Int) > 0) := by omega
    simp only [h1, if_false, Int.neg_neg, Int.ediv_one]
    split <;> omega
  show (List.range (Builtin.Slice.slicePlaces (((xs.length : Nat) : Int) - 1) (-1) (-1))).filterMap (fun (k : Nat) => xs.toArray[(((xs.length : Nat) : Int) - 1 + (k : Int) * -1).toNat]?) = _
  rw [e2, filterMap_back xs 0 (Nat.zero_le _), List.drop_zero]
theorem back_one {α : Type} (xs : List α) : (List.range (Builtin.Slice.slicePlaces (Builtin.Slice.sliceAdjust none (some 0) (-1) (xs.toArray.size : Int)).1 (Builtin.Slice.sliceAdjust none (some 0) (-1) (xs.toArray.size : Int)).2 (-1))).filterMap (fun (k : Nat) => xs.toArray[((Builtin.Slice.sliceAdjust none (some 0) (-1) (xs.toArray.size : Int)).1 + (k : Int) * -1).toNat]?) = (xs.drop 1).reverse := by
  cases xs with
  | nil => rfl
  | cons x xs =>
    have e : Builtin.Slice.sliceAdjust none (some 0) (-1) ((x :: xs).toArray.size : Int) = ((((x :: xs).length : Nat) : Int) - 1, 0) := by
      unfold Builtin.Slice.sliceAdjust
      simp
      omega
    rw [e]
    have e2 : Builtin.Slice.slicePlaces ((((x :: xs).length : Nat) : Int) - 1) 0 (-1) = (x :: xs).length - 1 := by
      unfold Builtin.Slice.slicePlaces
      have h1 : ¬ ((-1 : Int) > 0) := by omega
      simp only [h1, if_false, Int.neg_neg, Int.ediv_one, List.length_cons]
      split <;> omega
    show (List.range (Builtin.Slice.slicePlaces ((((x :: xs).length : Nat) : Int) - 1) 0 (-1))).filterMap (fun (k : Nat) => (x :: xs).toArray[((((x :: xs).length : Nat) : Int) - 1 + (k : Int) * -1).toNat]?) = _
    rw [e2, filterMap_back (x :: xs) 1 (by simp)]
end RRS
namespace RR
open PySem PySem.Spec PyProof.Rows L2
section
variable {X : Cx} {W : WX} {a b e o i : Expr} {es : List Expr} {f g h : Env → Store → R D} {pos p2 : Pos}
theorem bk_end {pins : List (Addr × Obj)} {σ : L2.St} {H : Hp} {s : Shared} {t sl : Addr} {xs : List V} {vl vu vs : Value} {hi : Option Int} {Q : VK} (k : Nat) (I : L2.Inv X pins σ H s) (hx : SqT X.K H t xs) (hs : s.heap.IsSliceOf sl vl vu vs) (pl : IsPart vl none) (pu : IsPart vu hi) (ps : IsPart vs (some (-1)))
    (hk : ∀ ys : List Value, (List.range (Builtin.Slice.slicePlaces (Builtin.Slice.sliceAdjust none hi (-1) (ys.toArray.size : Int)).1 (Builtin.Slice.sliceAdjust none hi (-1) (ys.toArray.size : Int)).2 (-1))).filterMap (fun (k : Nat) => ys.toArray[((Builtin.Slice.sliceAdjust none hi (-1) (ys.toArray.size : Int)).1 + (k : Int) * -1).toNat]?) = (ys.drop k).reverse)
    (q : ∀ p, H p = none → Q (.ref p) (upd H p (.tup (xs.drop k).reverse))) : wpAny (model X.prog X.w) X.A (getItem (.ref t) (.ref sl)) (EP X pins σ Q) X.xe s := by
  obtain ⟨its, r, ht, hz⟩ := I.tuple hx
  have hlen := r.length
  refine RRS.getItem_tuple_bk ht hs pl pu ps (hk its) (by rw [List.length_reverse, List.length_drop]; omega) ?_
  refine ⟨.ref s.heap.objs.size, _, I.laid (t' := s.toks) (o := .tup (xs.drop k).reverse) (fun b ob q => Heap.get?_push_of_some _ q) (Nat.le_refl _) ?_, rfl, q _ (I.hok.fresh (Nat.le_refl _))⟩
  exact ⟨by rw [List.length_reverse, List.length_drop]; omega, _, (r.drop k).reverse, IsTup.new _ _⟩
def stepE (u : Option Expr) (j : Nat) (p1 p2 p3 : Pos) : Expr := .Slice none u (some (.UnaryOp .USub (.Constant (.int 1) j p1) p2)) p3
theorem so_rvt {k : Nat} {q1 q2 q3 p4 : Pos} {j : Nat} {up : Bool} {u : Option Expr} (hu : u = if up = true then some (.Constant (.int 0) j p4) else none) (ha : PE X a (TX (Zx X W) f)) :
    PE X (.Subscript a (.Slice none u (some (.UnaryOp .USub (.Constant (.int 1) k q1) q2)) q3) pos) (TX (Zx X W) fun r S => (f r S).bnd fun x S1 => .opt (rvtD up x) S1) := by
  have key : PE X (.Subscript a (.Slice none u (some (.UnaryOp .USub (.Constant (.int 1) k q1) q2)) q3) pos) (fun σ H Q => (TX (Zx X W) f) σ H fun x H1 => ∃ t xs, x = .ref t ∧ SqT X.K H1 t xs ∧ ∀ p, H1 p = none → Q (.ref p) (upd H1 p (.tup (if up = true then (xs.drop 1).reverse else xs.reverse)))) := by
    refine ⟨fun pins s σ H Q I h => ?_⟩
    refine Subscript_ (thn (ha.run pins s σ H _ I h) fun v s1 ⟨x, H1, I1, r1, q1⟩ => ?_)
    obtain ⟨t, xs, ex, hx, q⟩ := q1
    subst ex
    cases r1
    have hst : PO X (some (.UnaryOp .USub (.Constant (.int 1) k q1) q2)) (tPart (tUn (rU fun i => .int (-i)) (tC (.int 1)))) := po_some (pe_un un_neg pe_int)
    refine wpAny_Slice (thn (po_none.run pins s1 σ H1 (fun o H2 => o = none ∧ H2 = H1) I1 ⟨rfl, rfl⟩) fun vl s2 ⟨l, H2, I2, pl, el, e2⟩ => ?_)
    subst el e2
    have hup : wpAny (model X.prog X.w) X.A (evalPart u X.env) (fun vu s' => ∃ o H', L2.Inv X pins σ H' s' ∧ IsPart vu o ∧ (o = if up = true then some 0 else none) ∧ H' = H2) X.xe s2 := by
      cases up with
      | false =>
        subst hu
        exact po_none.run pins s2 σ H2 (fun o H3 => o = none ∧ H3 = H2) I2 ⟨rfl, rfl⟩
      | true =>
        subst hu
        exact (po_some (pe_int (i := 0))).run pins s2 σ H2 (fun o H3 => o = some 0 ∧ H3 = H2) I2 ⟨0, rfl, rfl, rfl⟩
    refine thn hup fun vu s3 ⟨uo, H3, I3, pu, eu, e3⟩ => ?_
    subst e3
    refine thn (hst.run pins s3 σ H3 (fun o H4 => o = some (-1) ∧ H4 = H3) I3 ⟨1, rfl, -1, rfl, rfl, rfl⟩) fun vs s4 ⟨o, H4, I4, ps, eo, e4⟩ => ?_
    subst eo e4
    have I5 : L2.Inv X pins σ H4 { s4 with heap := s4.heap.push { cls := .type "slice", data := .fields #[vl, vu, vs] } } := I4.kept (t' := s4.toks) fun b ob q => Heap.get?_push_of_some _ q
    obtain ⟨its, r, ht, hz⟩ := I5.tuple hx
    show wpAny (model X.prog X.w) X.A (subscriptTail a (.Slice none u (some (.UnaryOp .USub (.Constant (.int 1) k q1) q2)) q3) (.ref t) (.ref s4.heap.objs.size)) (EP X pins σ Q) X.xe { s4 with heap := s4.heap.push { cls := .type "slice", data := .fields #[vl, vu, vs] } }
    refine tail_any (ops := [.ref t, .ref s4.heap.objs.size]) ht.typeIs (PyProof.Rows.slot_tuple_getitem.lookup) ?_ (by with_unfolding_all rfl)
    cases up with
    | false =>
      have eu : uo = none := eu
      subst eu
      exact bk_end (k := 0) I5 hx (Heap.IsSliceOf.new _ vl vu vs) pl pu ps (fun ys => by rw [List.drop_zero]; exact RRS.back_all ys) q
    | true =>
      have eu : uo = some 0 := eu
      subst eu
      exact bk_end (k := 1) I5 hx (Heap.IsSliceOf.new _ vl vu vs) pl pu ps (fun ys => RRS.back_one ys) q
  refine PE.of key fun σ H Q ⟨c, r, S, s, e, p⟩ => ?_
  refine TXg.bnd s e p fun x S1 c1 v H1 _ s1 e1 r1 p1 => ?_
  obtain ⟨d, hd, p1⟩ := Post.opt p1
  cases r1 with
  | tup h1 h2 h3 =>
    have hd : some (D.tup (if up = true then (_ : List D) else _)) = some d := hd
    cases hd
    refine ⟨_, _, rfl, sqT_at h1, Wt.tup p1 s1 ?_⟩
    cases up with
    | false => exact h3.reverse
    | true => exact (h3.drop 1).reverse
  | _ => cases hd
end
end RR

set_option Elab.async false
set_option linter.all false
set_option maxRecDepth 100000
set_option maxHeartbeats 2000000
namespace RR
open PySem PySem.Spec PyProof.Rows L2
section
variable {X : Cx} {W : WX} {a b e o i : Expr} {es : List Expr} {f g h : Env → Store → R D} {pos p2 : Pos} {fb fc : Env → Store → Fl}
/-! ### raise C() -/
/-- what is known of an own class of errors without an own __init__ -/
structure ExcC (X : Cx) (x : Str) where
  C : Addr
  mg : X.mg x = some (.ref C)
  ex : PySem.W.excIn X.K C [.type "ValueError", .type "Exception", .type "BaseException", .type "object"] "ValueError.__new__" = true
  kp : PySem.W.keepIn X.K (.ref C) = true
  su : PySem.W.subIn X.K (.ref C) (.type "BaseException") = some true
  ty : PySem.W.typeIn X.K (.ref C) = some (.type "type")
  me : PySem.W.exmOne X.K (.ref C) (.ref C) = some true
theorem pmk_own0 {C : Addr} {bmB : List Value} {B newId initId : String} {x : Str} {p : Pos} (F : ExcBaseFacts B newId initId bmB) (q : PySem.W.excIn X.K C bmB newId = true) (gC : X.mg x = some (.ref C))
    (kC : PySem.W.keepIn X.K (.ref C) = true) (r : Raises X (.ref C)) (hg : Gl X x) (hdb : (x == ("__debug__" : Str)) = false) :
    PMk X (.Call (.Name x p) [] [] pos) (fun _ H Q => Q (.ref C) none H) := by
  intro pins s σ H Q I h
  refine wpAny_Call_Name_kw (ld_glob I hg gC ?_ hdb)
  refine PySem.W.callWith_K0 I.kIn kC ?_
  show wpAny _ _ (call (.ref C) []) _ _ _
  obtain ⟨bm, N, nm, qn, bs, hdct, sn, sub, ab, col, dd, k0, k1, k2, k3, k5, mN, hC, hN, hni, T⟩ := exc_obj I.kIn q
  refine wpAny_call_exc_subT F T hC hN hni (fun h' e hm => ?_) (Nat.zero_le _)
  exact mk_of I hm r h (I.hok.gone hm.new)
theorem so_rai {x : Str} {p : Pos} (hc : X.calm = true) (tk : Takes X W) (E : ExcC X x) (hg : Gl X x) (hdb : (x == ("__debug__" : Str)) = false) :
    PS X (.Raise (some (.Call (.Name x p) [] [] pos)) none p2) (TXf (Zx X W) fun r S => .exc x [] r S) :=
  PS.of (ps_raise hc tk (pmk_own0 PySem.F.excBase_ValueError E.ex E.mg E.kp (raises_own E.su E.ty) hg hdb)) fun D σ H ⟨c, r, S, s, e, q⟩ =>
    q c (.ref E.C) none σ H Ext.refl s e ⟨.inl E.mg, .inl rfl⟩
/-! ### try: .. except C: return 'z' -/
theorem so_trs {x z : Str} {body : List Stmt} {j : Nat} {np p3 p4 pos' : Pos} (hs : X.stack = X.env :: X.outer) (hf : X.env.frame = some X.env.locals) (E : ExcC X x) (hg : Gl X x) (hdb : (x == ("__debug__" : Str)) = false) (tk : Takes X W)
    (hb : ∀ (W' : WX) (pn : List (Addr × Obj)) (xe : Value → Shared → Prop), Takes (X.tr pn xe) W' → PassesOwn (model X.prog X.w) X.A X.env xe → PSs (X.tr pn xe) body (TXf (Zx X W') fb)) :
    PS X (.Try body [.ExceptHandler (some (.Name x np)) none [.Return (some (.Constant (.str z) j p3)) p4] pos'] [] [] pos) (TXf (Zx X W) fun r S => (match fb r S with
      | .exc c' _ _ S1 => if c' = x then .ret (.str z) S1 else .bad
      | o => o)) := by
  refine PS.of (ps_try_only (c := .ref E.C) (tb := fun W' => TXf (Zx X W') fb) (ts := fun _ _ _ => fun D _ H => D.rt (.str z) H) hs hf ⟨hg, hdb, .inl E.mg⟩ tk hb fun a oe cls d pn _ _ => pss_one (ps_ret pe_str)) fun D σ H ⟨c, r, S, s, e, q⟩ => ?_
  refine ⟨c, r, S, s, e, ?_⟩
  have q : PostF (Zx X W) (match fb r S with
      | .exc c' _ _ S1 => if c' = x then .ret (.str z) S1 else .bad
      | o => o) c H D := q
  cases q1 : fb r S with
  | bad => rw [q1] at q; exact q
  | next r1 S1 => rw [q1] at q; exact q
  | brk r1 S1 => rw [q1] at q; exact q
  | con r1 S1 => rw [q1] at q; exact q
  | ret d S1 => rw [q1] at q; exact q
  | exc nm fs r1 S1 =>
    rw [q1] at q
    intro c' cls x' σ' H' xt s' e' rx
    have q2 : PostF (Zx X W) (if nm = x then .ret (.str z) S1 else .bad) c H D := q
    by_cases hn : nm = x
    · rw [if_pos hn] at q2
      subst hn
      obtain ⟨hm, _⟩ := rx
      have hc : cls = .ref E.C := by
        rcases hm with hm | ⟨hm, _⟩
        · have := E.mg
          rw [show (Zx X W).mg nm = X.mg nm from rfl, this] at hm
          exact (Option.some.inj hm).symm
        · have := E.mg
          rw [show (Zx X W).mg nm = X.mg nm from rfl, this] at hm
          cases hm
      subst hc
      exact ⟨true, E.me, fun _ _ _ => q2 c' (.str z) H' xt s' (.str z), fun h => nomatch h⟩
    · rw [if_neg hn] at q2
      exact q2.elim
/-! ### o[i] += e, a list of the store, ints -/
def rAug (Z : Se) : V → V → Hp → VK → Prop := fun o i H Q => ∃ c S d k n, RelS Z.K c S H ∧ RelD Z.K c H d o ∧ i = .int k ∧ 0 ≤ k ∧ ixD S d (.int k) = some (.int n) ∧ (∃ xs, lsD S d = some xs) ∧ Q (.int n) H
theorem get_aug : PGet X (rAug (Zx X W)) := by
  intro pins s σ H o i ov iv Q I r1 r2 h
  obtain ⟨c, S, d, k, n, hs, rd, rfl, h0, hx, ⟨xs, hl⟩, q⟩ := h
  obtain ⟨a, vs, rfl, h3, h4⟩ := lsD_at hs hl rd
  have hx : atI xs k = some (.int n) := by
    have : itemsD S d = some xs := by
      cases d with
      | lst _ => exact hl
      | ref _ => exact hl
      | _ => cases hl
    simp only [ixD, this] at hx
    exact hx
  obtain ⟨w, hw, rw'⟩ := atI_rel h4 hx
  cases rw'
  cases r1
  obtain ⟨t, rfl⟩ := r2
  obtain ⟨its, rv, pl, hz⟩ := I.list (sqL_at h3)
  obtain ⟨j, k1, k2, k3, k4, k5⟩ := atI_get hw
  obtain ⟨u, eu, ru⟩ := rv.get k2
  have hn := line63
  have hj : k.toNat = j := by
    rw [seqIndex_of h0 k5] at k1
    exact Option.some.inj k1
  exact wpAny_getItem_list pl.isList h0 (by omega) (by rw [hj]; simpa using eu) ⟨_, H, I, ru, q⟩
theorem so_aug (ho : PE X o (TX (Zx X W) f)) (hi : PE X i (TX (Zx X W) g)) (he : PE X e (TX (Zx X W) h)) (hsl : noSlice i = true) :
    PS X (.AugAssign (.Subscript o i p2) .Add e pos) (TXf (Zx X W) fun r S => (f r S).fl r fun x S1 => (g r S1).fl r fun k S2 => (match augD S2 x k with
    | some a => (h r S2).fl r fun y S3 => (match y with
      | .int b => (match subD S3 x k (.int (a + b)) with
        | some S4 => .next r S4
        | none => .bad)
      | _ => .bad)
    | none => .bad)) := by
  refine PS.of (ps_augS ho hi (get_aug (W := W)) he ip_add (i_set (Z := Zx X W)) (by
    intro ov iv new
    cases i <;> first | rfl | cases hsl)) fun D σ H ⟨c, r, S, s, e, p⟩ => ?_
  refine fl_bnd s e p fun x S1 c1 v H1 x1 s1 e1 r1 p1 => ?_
  refine fl_bnd s1 e1 p1 fun k S2 c2 u H2 x2 s2 e2 r2 p2 => ?_
  have rx := r1.ext x2
  cases q : augD S2 x k with
  | none => rw [q] at p2; exact p2.elim
  | some a =>
    rw [q] at p2
    obtain ⟨z, kk, rfl, rfl, h0, hx⟩ : ∃ z kk, x = .ref z ∧ k = .int kk ∧ 0 ≤ kk ∧ ixD S2 (.ref z) (.int kk) = some (.int a) := by
      unfold augD at q
      split at q
      · split at q
        · split at q
          · rename_i e1
            cases q
            exact ⟨_, _, rfl, rfl, by assumption, e1⟩
          · cases q
        · cases q
      · cases q
    have hl : ∃ xs, lsD S2 (.ref z) = some xs := by
      cases rx with
      | ref hm =>
        have hi : z < S2.length := by rw [← s2.len]; exact (List.getElem?_eq_some_iff.mp hm).1
        cases q5 : S2[z] with
        | lst xs => exact ⟨xs, by simp only [lsD, List.getElem?_eq_getElem hi, q5]⟩
    refine ⟨c2, S2, _, kk, a, s2, rx, by cases r2; rfl, h0, hx, hl, ?_⟩
    refine fl_bnd s2 e2 p2 fun y S3 c3 w H3 x3 s3 e3 r3 p3 => ?_
    cases r3 with
    | int b =>
      refine ⟨a, b, rfl, rfl, ?_⟩
      have p3 : PostF (Zx X W) (match subD S3 (.ref z) (.int kk) (.int (a + b)) with
        | some S4 => .next r S4
        | none => .bad) c3 H3 D := p3
      cases q4 : subD S3 (.ref z) (.int kk) (.int (a + b)) with
      | none => rw [q4] at p3; exact p3.elim
      | some S4 =>
        rw [q4] at p3
        exact ⟨c3, S3, _, .int kk, .int (a + b), S4, s3, rx.ext x3, r2.ext x3, .int _, q4, fun c4 H4 x4 s4 => p3 c4 σ H4 x4 s4 (e3.ext x4)⟩
    | _ => exact p3.elim
end
end RR

set_option Elab.async false
set_option linter.all false
set_option maxRecDepth 100000
set_option maxHeartbeats 4000000
/-! comprehensions with two fors -/
namespace RR
open PySem PySem.Spec PyProof.Rows L2
theorem wipeN_E (r : Env) : ∀ own : List (Str × Nat), wipeE r own = wipeN r (own.map (·.2))
  | [] => rfl
  | v :: vs => by
    show (wipeE r vs).set v.2 none = (wipeN r (vs.map (·.2))).set v.2 none
    rw [wipeN_E r vs]
theorem RelE.wipeN {K : PySem.W.Frag} {c : Ct} {H : Hp} {r : Env} {σ : L2.St} (h : RelE K c H r σ) (vs : List Nat) : RelE K c H (wipeN r vs) (L2.wipe σ vs) := by
  have := h.wipe (vs.map fun n => (("" : Str), n))
  rw [wipeN_E] at this
  simpa [Function.comp_def] using this
theorem kp_trans {c1 c2 c3 : Ct} {H1 H2 H3 : Hp} (hk : Kp c1 H1 H2) (x2 : Ext2 c1 H1 c2 H2) (x : Ext c2 H2 c3 H3) : Kp c1 H1 H3 := fun a o h => by
  obtain ⟨⟨o', h'⟩, h2⟩ := hk a o h
  exact ⟨x.s a o' h', fun n => x.k a o (x2.mem h n) (h2 n)⟩
theorem kp_put {c1 : Ct} {H1 H2 : Hp} {L : Addr} {u : HO} (hk : Kp c1 H1 H2) (hL : H1 L = none) : Kp c1 H1 (upd H2 L u) := fun a o h => by
  obtain ⟨⟨o', h'⟩, h2⟩ := hk a o h
  rw [upd_ne (fun e => by rw [e, hL] at h; cases h)]
  exact ⟨⟨o', h'⟩, h2⟩
theorem ext2_put {c1 c2 : Ct} {H1 H2 : Hp} {L : Addr} {u : HO} (x : Ext2 c1 H1 c2 H2) (hL : ∀ a o, a ∉ c1.m → a ∉ c1.z → H1 a = some o → a ≠ L) : Ext2 c1 H1 c2 (upd H2 L u) :=
  ⟨x.l, x.z, x.m, fun a o hn hz h => by rw [upd_ne (hL a o hn hz h)]; exact x.k a o hn hz h⟩
theorem lc2_tx {Z : Se} {own : List (Str × Nat)} {own1 : List Nat} {fi fi2 : Env → Store → R (List D × Gd)} {fa fa2 : D → Env → Store → R Env} {ft : Env → Store → R Bool} {f : Env → Store → R D} {ws us : List Nat} {al : Bool} (hw : ∀ j ∈ ws, j ∈ own.map (·.2)) (hu : ∀ j ∈ us, j ∈ own1) : ∀ σ H Q,
    TX Z (fun r S => mkL al ((fi r S).bnd fun p S1 => ((cmpT fa fi2 fa2 ft f own1 p.2 (wipeE r own) p.1 S1).nx).bnd fun ds S2 => if ds.length ≤ 16777216 then .ok ds S2 else .bad)) σ H Q →
      tLc2 (TIx Z fi) (TXa ⟨Z.K, Z.mg, no⟩ ws fa) (TXb ⟨Z.K, Z.mg, no⟩ fun _ S => .ok true S) (TIx ⟨Z.K, Z.mg, no⟩ fi2) (TXa ⟨Z.K, Z.mg, no⟩ us fa2) (TXb ⟨Z.K, Z.mg, no⟩ ft) (TX ⟨Z.K, Z.mg, no⟩ f) (own.map (·.2)) own1 σ H Q := by
  rintro σ H Q ⟨c, r, S, s, e, p⟩
  simp only [mk_bnd] at p
  refine TXg.bnd s e p fun it S1 c1 J H1 x1 s1 e1 r1 p1 => ?_
  intro L hL
  obtain ⟨xs, gd⟩ := it
  cases q : cmpT fa fi2 fa2 ft f own1 gd (wipeE r own) xs S1 with
  | bad => have p1 : Post Z (RelD Z.K) ((cmpT fa fi2 fa2 ft f own1 gd (wipeE r own) xs S1).nx.bnd fun ds S2 => mkL al (if ds.length ≤ 16777216 then .ok ds S2 else .bad)) c1 σ H1 Q := p1; rw [q] at p1; exact p1.elim
  | exc nm fl S2 => have p1 : Post Z (RelD Z.K) ((cmpT fa fi2 fa2 ft f own1 gd (wipeE r own) xs S1).nx.bnd fun ds S2 => mkL al (if ds.length ≤ 16777216 then .ok ds S2 else .bad)) c1 σ H1 Q := p1; rw [q] at p1; exact p1.elim
  | ok ds SF =>
    have p1 : Post Z (RelD Z.K) ((cmpT fa fi2 fa2 ft f own1 gd (wipeE r own) xs S1).nx.bnd fun ds S2 => mkL al (if ds.length ≤ 16777216 then .ok ds S2 else .bad)) c1 σ H1 Q := p1
    rw [q] at p1
    have p1 : Post Z (RelD Z.K) (mkL al (if ds.length ≤ 16777216 then .ok ds SF else .bad)) c1 σ H1 Q := p1
    by_cases hlen : ds.length ≤ 16777216
    case neg => rw [if_neg hlen] at p1; exact p1.elim
    rw [if_pos hlen] at p1
    have ew := e1.wipe own
    have notL : ∀ a o, a ∉ c1.m → a ∉ c1.z → H1 a = some o → a ≠ L := fun a o _ _ h e => by rw [e, hL] at h; cases h
    -- the outer turns
    refine ⟨fun i m H => m = xs.length - i ∧ i ≤ xs.length ∧ ∃ c S ds1 ds2 acc, Ext2 c1 H1 c H ∧ c.z = L :: c1.z ∧ Kp c1 H1 H ∧ RelS Z.K c S H ∧ H L = some (.lst acc) ∧ RelDs Z.K c H ds1 acc ∧
      cmpT fa fi2 fa2 ft f own1 gd (wipeE r own) (xs.drop i) S = .ok ds2 SF ∧ ds = ds1 ++ ds2, ⟨xs.length, rfl, Nat.zero_le _, c1.res L, S1, [], ds, [], ?_, rfl, ?_, ?_, upd_same, .nil, q, rfl⟩, ?_⟩
    · exact ⟨fun a ha => (s1.zn a ha).2, fun a ha => (List.mem_cons.mp ha).elim (fun e => .inr (by rw [e]; exact hL)) .inl, ⟨[], by simp [Ct.res], by simp⟩, fun a o _ _ h => upd_there hL h⟩
    · exact fun a o h => ⟨⟨o, upd_there hL h⟩, fun _ => upd_there hL h⟩
    · have x2 : Ext2 c1 H1 (c1.res L) (upd H1 L (.lst [])) := ⟨fun a ha => (s1.zn a ha).2, fun a ha => (List.mem_cons.mp ha).elim (fun e => .inr (by rw [e]; exact hL)) .inl, ⟨[], by simp [Ct.res], by simp⟩, fun a o _ _ h => upd_there hL h⟩
      have s2 := s1.new (o := .lst []) hL
      refine ⟨s2.len, s2.nd, fun i o h => ?_, fun a ha => ?_⟩
      · obtain ⟨a, h1, h2⟩ := s1.ob i o h
        refine ⟨a, h1, ?_⟩
        cases o with
        | lst xs =>
          obtain ⟨us, h3, h4⟩ := h2
          exact ⟨us, upd_there hL h3, h4.ext2 x2⟩
      · rcases List.mem_cons.mp ha with e | e
        · rw [e]; exact ⟨(s1.fresh hL).1, _, upd_same⟩
        · exact s2.zn a e
    · rintro i m H' ⟨rfl, hi, c2, S2, ds1, ds2, acc, x2, hz, hk, s2, hacc, hrel, hq, rfl⟩
      have hLz : L ∈ c2.z := by rw [hz]; exact List.mem_cons_self
      have hLm := (s2.zn L hLz).1
      by_cases hlt : i < xs.length
      · have hx : xs[i]? = some xs[i] := List.getElem?_eq_getElem hlt
        rw [List.drop_eq_getElem_cons hlt] at hq
        unfold cmpT at hq
        by_cases hgd : gdOk gd S2
        case neg => rw [if_neg hgd] at hq; cases hq
        rw [if_pos hgd] at hq
        obtain ⟨hgo, hy⟩ := (r1 c2 H' S2 x2 s2 hgd).1 i xs[i] hx
        refine .inr ⟨hgo, fun H' => ∃ m', m' < xs.length - i ∧ _, fun H' h => h, fun x3 H3 hy3 => ?_⟩
        obtain ⟨x3, s3, r3⟩ := hy x3 H3 hy3
        refine ⟨c2, wipeE r own, S2, xs[i], s3, (ew.ext2 x2).ext x3, r3, ?_⟩
        have hacc3 := x3.k L _ hLm hacc
        cases z1 : fa xs[i] (wipeE r own) S2 with
        | bad => rw [z1] at hq; cases hq
        | exc nm fl S3 => rw [z1] at hq; cases hq
        | ok ra S3 =>
          rw [z1] at hq
          intro c4 σ4 H4 x4 s4 r4
          refine ⟨wipe_same (by rw [r4.2.1, wipe_length]) r4.2.2 hw, ?_⟩
          have hz4 : c4.z = L :: c1.z := by rw [x4.z, hz]
          have hLm4 := (s4.zn L (by rw [hz4]; exact List.mem_cons_self)).1
          have hacc4 := x4.k L _ hLm hacc3
          have hq : ((fi2 ra S3).bnd fun p S4 => (cmpS fa2 ft f p.2 (RR.wipeN ra own1) p.1 S4).bnd fun ys S5 => (cmpT fa fi2 fa2 ft f own1 gd (wipeE r own) (xs.drop (i + 1)) S5).bnd fun zs S6 => .ok (ys ++ zs) S6) = .ok ds2 SF := hq
          refine ⟨c4, ra, S3, s4, r4.1, ?_⟩
          intro c5 b' H5 x5 s5 rb
          have rb : true = b' := rb
          subst rb
          rw [if_pos rfl]
          have hz5 : c5.z = L :: c1.z := by rw [x5.z, hz4]
          have hLm5 := (s5.zn L (by rw [hz5]; exact List.mem_cons_self)).1
          have hacc5 := x5.k L _ hLm4 hacc4
          refine ⟨c5, ra, S3, s5, r4.1.ext x5, ?_⟩
          cases z2 : fi2 ra S3 with
          | bad => rw [z2] at hq; cases hq
          | exc nm fl S4 => rw [z2] at hq; cases hq
          | ok p S4 =>
            rw [z2] at hq
            obtain ⟨ys, g2⟩ := p
            have hq : ((cmpS fa2 ft f g2 (RR.wipeN ra own1) ys S4).bnd fun ys S5 => (cmpT fa fi2 fa2 ft f own1 gd (wipeE r own) (xs.drop (i + 1)) S5).bnd fun zs S6 => .ok (ys ++ zs) S6) = .ok ds2 SF := hq
            intro c6 J1 H6 x6 s6 r6
            have hz6 : c6.z = L :: c1.z := by rw [x6.z, hz5]
            have hLz6 : L ∈ c6.z := by rw [hz6]; exact List.mem_cons_self
            have hLm6 := (s6.zn L hLz6).1
            have hacc6 := x6.k L _ hLm5 hacc5
            have x26 : Ext c2 H' c6 H6 := ((x3.trans x4).trans x5).trans x6
            have e6 : RelE Z.K c6 H6 (RR.wipeN ra own1) (L2.wipe σ4 own1) := ((r4.1.ext x5).ext x6).wipeN own1
            cases z3 : cmpS fa2 ft f g2 (RR.wipeN ra own1) ys S4 with
            | bad => rw [z3] at hq; cases hq
            | exc nm fl S5 => rw [z3] at hq; cases hq
            | ok ys2 S5 =>
              rw [z3] at hq
              have hq : ((cmpT fa fi2 fa2 ft f own1 gd (wipeE r own) (xs.drop (i + 1)) S5).bnd fun zs S6 => .ok (ys2 ++ zs) S6) = .ok ds2 SF := hq
              cases z4 : cmpT fa fi2 fa2 ft f own1 gd (wipeE r own) (xs.drop (i + 1)) S5 with
              | bad => rw [z4] at hq; cases hq
              | exc nm fl S6 => rw [z4] at hq; cases hq
              | ok zs S6 =>
                rw [z4] at hq
                cases hq
                -- the inner turns
                refine ⟨fun j k H => k = ys.length - j ∧ j ≤ ys.length ∧ ∃ c S es1 es2 acc, Ext2 c6 H6 c H ∧ Ext2 c1 H1 c H ∧ c.z = L :: c1.z ∧ Kp c1 H1 H ∧ (∀ a o, H6 a = some o → ∃ o', H a = some o') ∧ RelS Z.K c S H ∧ H L = some (.lst acc) ∧ RelDs Z.K c H (ds1 ++ es1) acc ∧
                  cmpS fa2 ft f g2 (RR.wipeN ra own1) (ys.drop j) S = .ok es2 S5 ∧ ys2 = es1 ++ es2, ⟨ys.length, rfl, Nat.zero_le _, c6, S4, [], ys2, acc, Ext.refl.two s6, x2.trans (fun a o h => (hk a o h).1) (x26.two s2), hz6, kp_trans hk x2 x26, fun a o h => ⟨o, h⟩, s6, hacc6, by rw [List.append_nil]; exact hrel.ext x26, z3, rfl⟩, ?_⟩
                rintro j k H7 ⟨rfl, hj, c7, S7, es1, es2, acc7, x67, x17, hz7, hk7, hk67, s7, hacc7, hrel7, hq7, rfl⟩
                have hLz7 : L ∈ c7.z := by rw [hz7]; exact List.mem_cons_self
                have hLm7 := (s7.zn L hLz7).1
                by_cases hlt2 : j < ys.length
                · have hx2 : ys[j]? = some ys[j] := List.getElem?_eq_getElem hlt2
                  rw [List.drop_eq_getElem_cons hlt2] at hq7
                  unfold cmpS at hq7
                  by_cases hgd2 : gdOk g2 S7
                  case neg => rw [if_neg hgd2] at hq7; cases hq7
                  rw [if_pos hgd2] at hq7
                  obtain ⟨hgo2, hy2⟩ := (r6 c7 H7 S7 x67 s7 hgd2).1 j ys[j] hx2
                  refine .inr ⟨hgo2, fun H' => ∃ m', m' < ys.length - j ∧ _, fun H' h => h, fun x8 H8 hy8 => ?_⟩
                  obtain ⟨x8, s8, r8⟩ := hy2 x8 H8 hy8
                  refine ⟨c7, RR.wipeN ra own1, S7, ys[j], s8, (e6.ext2 x67).ext x8, r8, ?_⟩
                  have hacc8 := x8.k L _ hLm7 hacc7
                  cases y1 : fa2 ys[j] (RR.wipeN ra own1) S7 with
                  | bad => rw [y1] at hq7; cases hq7
                  | exc nm fl S3 => rw [y1] at hq7; cases hq7
                  | ok rb S8 =>
                    rw [y1] at hq7
                    intro c9 σ9 H9 x9 s9 r9
                    refine ⟨wipe_same (by rw [r9.2.1, wipe_length]) r9.2.2 hu, ?_⟩
                    refine ⟨c9, rb, S8, s9, r9.1, ?_⟩
                    have hz9 : c9.z = L :: c1.z := by rw [x9.z, hz7]
                    have hLm9 := (s9.zn L (by rw [hz9]; exact List.mem_cons_self)).1
                    have hacc9 := x9.k L _ hLm7 hacc8
                    have hq7 : ((ft rb S8).bnd fun b S4 => if b = true then (f rb S4).bnd fun y S5 => (cmpS fa2 ft f g2 (RR.wipeN ra own1) (ys.drop (j + 1)) S5).bnd fun ys S6 => .ok (y :: ys) S6 else cmpS fa2 ft f g2 (RR.wipeN ra own1) (ys.drop (j + 1)) S4) = .ok es2 S5 := hq7
                    cases y2 : ft rb S8 with
                    | bad => rw [y2] at hq7; cases hq7
                    | exc nm fl S4 => rw [y2] at hq7; cases hq7
                    | ok b S10 =>
                      rw [y2] at hq7
                      intro c10 b' H10 x10 s10 rbb
                      subst rbb
                      have hz10 : c10.z = L :: c1.z := by rw [x10.z, hz9]
                      have hLm10 := (s10.zn L (by rw [hz10]; exact List.mem_cons_self)).1
                      have hacc10 := x10.k L _ hLm9 hacc9
                      have x710 : Ext c7 H7 c10 H10 := (x8.trans x9).trans x10
                      cases b with
                      | false =>
                        rw [if_neg Bool.false_ne_true]
                        have hq7 : cmpS fa2 ft f g2 (RR.wipeN ra own1) (ys.drop (j + 1)) S10 = .ok es2 S5 := hq7
                        exact ⟨ys.length - (j + 1), by omega, rfl, hlt2, c10, S10, es1, es2, acc7, x67.trans hk67 (x710.two s7), x17.trans (fun a o h => (hk7 a o h).1) (x710.two s7), hz10, kp_trans hk7 x17 x710, fun a o h => (hk67 a o h).elim fun o' h' => x710.s a o' h', s10, hacc10, hrel7.ext x710, hq7, rfl⟩
                      | true =>
                        rw [if_pos rfl]
                        have hq7 : ((f rb S10).bnd fun y S5 => (cmpS fa2 ft f g2 (RR.wipeN ra own1) (ys.drop (j + 1)) S5).bnd fun ys S6 => .ok (y :: ys) S6) = .ok es2 S5 := hq7
                        refine ⟨c10, rb, S10, s10, r9.1.ext x10, ?_⟩
                        cases y3 : f rb S10 with
                        | bad => rw [y3] at hq7; cases hq7
                        | exc nm fl S5 => rw [y3] at hq7; cases hq7
                        | ok y S11 =>
                          rw [y3] at hq7
                          intro c11 v H11 x11 s11 r11
                          have hz11 : c11.z = L :: c1.z := by rw [x11.z, hz10]
                          have hLz11 : L ∈ c11.z := by rw [hz11]; exact List.mem_cons_self
                          have hacc11 := x11.k L _ hLm10 hacc10
                          have x711 : Ext c7 H7 c11 H11 := x710.trans x11
                          have hq7 : ((cmpS fa2 ft f g2 (RR.wipeN ra own1) (ys.drop (j + 1)) S11).bnd fun ys S6 => .ok (y :: ys) S6) = .ok es2 S5 := hq7
                          cases y4 : cmpS fa2 ft f g2 (RR.wipeN ra own1) (ys.drop (j + 1)) S11 with
                          | bad => rw [y4] at hq7; cases hq7
                          | exc nm fl S6 => rw [y4] at hq7; cases hq7
                          | ok es3 S12 =>
                            rw [y4] at hq7
                            cases hq7
                            have hl := hrel7.length
                            have hd : (ds1 ++ es1).length < 16777216 := by
                              simp only [List.length_append, List.length_cons] at hlen ⊢
                              omega
                            have x1' := x17.trans (fun a o h => (hk7 a o h).1) (x711.two s7)
                            refine ⟨acc7, hacc11, by rw [line_eq]; omega, ys.length - (j + 1), by omega, rfl, hlt2, c11, S11, es1 ++ [y], es3, acc7 ++ [v], ext2_put (x67.trans hk67 (x711.two s7)) (fun a o _ hz h e => hz (by rw [e]; exact hLz6)), ext2_put x1' notL, hz11, kp_put (kp_trans hk7 x17 x711) hL, fun a o h => ?_, s11.putz hLz11 hacc11, upd_same, ?_, y4, by simp⟩
                            · obtain ⟨o', h'⟩ := hk67 a o h
                              obtain ⟨o2, h2⟩ := x711.s a o' h'
                              by_cases ea : a = L
                              · subst ea; exact ⟨_, upd_same⟩
                              · exact ⟨o2, by rw [upd_ne ea]; exact h2⟩
                            · rw [← List.append_assoc]
                              exact ((hrel7.ext x711).append (.cons r11 .nil)).putz hLz11 hacc11
                · have hj0 : j = ys.length := by omega
                  subst hj0
                  rw [List.drop_length] at hq7
                  unfold cmpS at hq7
                  by_cases hgd2 : gdOk g2 S7
                  case neg => rw [if_neg hgd2] at hq7; cases hq7
                  rw [if_pos hgd2] at hq7
                  have hst := (r6 c7 H7 S7 x67 s7 hgd2).2
                  cases hq7
                  refine .inl ⟨hst, xs.length - (i + 1), by omega, rfl, hlt, c7, S5, ds1 ++ es1, zs, acc7, x17, hz7, hk7, s7, hacc7, hrel7, z4, ?_⟩
                  simp
      · have hi0 : i = xs.length := by omega
        subst hi0
        rw [List.drop_length] at hq
        unfold cmpT at hq
        by_cases hgd : gdOk gd S2
        case neg => rw [if_neg hgd] at hq; cases hq
        rw [if_pos hgd] at hq
        have hst := (r1 c2 H' S2 x2 s2 hgd).2
        cases hq
        refine .inl ⟨hst, ?_⟩
        rw [List.append_nil] at p1
        exact made s1 hL x2 hz hk s2 hacc hrel p1
end RR
namespace RR
open PySem PySem.Spec PyProof.Rows L2
section
variable {X : Cx} {W : WX} {tg iter tg1 iter1 elt : Expr} {ifs1 : List Expr} {scope : Scope} {own : List (Str × Nat)} {own1 : List Nat} {fi fi2 : Env → Store → R (List D × Gd)} {fa fa2 : D → Env → Store → R Env} {ft : Env → Store → R Bool} {f : Env → Store → R D} {ws us : List Nat} {pos : Pos} {al : Bool}
theorem so_lc2 (hc : X.calm = true) (hN : X.N.Nodup) (hi : PI X tg iter (TIx (Zx X W) fi)) (ok : BlkOk X.N X.env.scope scope own) (hv : ∀ i ∈ own1, i ∈ own.map (·.2))
    (hg : ∀ (s : Shared) (H : Hp) (C : Addr) (cl : List (Str × Addr)) (fp : List Addr), PG (X.blk s H scope (compEnvC scope cl C X.env) fp) tg (TXa (Zx X no) ws fa))
    (hi1 : ∀ (s : Shared) (H : Hp) (C : Addr) (cl : List (Str × Addr)) (fp : List Addr), PI (X.blk s H scope (compEnvC scope cl C X.env) fp) tg1 iter1 (TIx (Zx X no) fi2))
    (hg1 : ∀ (s : Shared) (H : Hp) (C : Addr) (cl : List (Str × Addr)) (fp : List Addr), PG (X.blk s H scope (compEnvC scope cl C X.env) fp) tg1 (TXa (Zx X no) us fa2))
    (ht1 : ∀ (s : Shared) (H : Hp) (C : Addr) (cl : List (Str × Addr)) (fp : List Addr), PTs (X.blk s H scope (compEnvC scope cl C X.env) fp) ifs1 (TXb (Zx X no) ft))
    (he : ∀ (s : Shared) (H : Hp) (C : Addr) (cl : List (Str × Addr)) (fp : List Addr), PE (X.blk s H scope (compEnvC scope cl C X.env) fp) elt (TX (Zx X no) f))
    (hw : ∀ j ∈ ws, j ∈ own.map (·.2)) (hu : ∀ j ∈ us, j ∈ own1) (hs : ∀ x, foldedSetIterable iter X.env x = pure x) (hs1 : ∀ env x, foldedSetIterable iter1 env x = pure x) :
    PE X (.ListComp elt [⟨tg, iter, [], 0⟩, ⟨tg1, iter1, ifs1, 0⟩] scope pos) (TX (Zx X W) fun r S => mkL al ((fi r S).bnd fun p S1 => ((cmpT fa fi2 fa2 ft f own1 p.2 (wipeE r own) p.1 S1).nx).bnd fun ds S2 => if ds.length ≤ 16777216 then .ok ds S2 else .bad)) :=
  PE.of (pe_lc2 hc hN hi ok hv hg (fun s H C cl fp => so_t0) hi1 hg1 ht1 he hs hs1) (lc2_tx (Z := Zx X W) hw hu)
theorem so_setLc2 {i : Nat} {y : Str} {py spos : Pos} (hc : X.calm = true) (hN : X.N.Nodup) (hy : X.N[i]? = some y) (hyl : X.env.scope.names.lookup y = some .local)
    (hsw : swapsWith (.ListComp elt [⟨tg, iter, [], 0⟩, ⟨tg1, iter1, ifs1, 0⟩] scope pos) (some (.Name y py)) spos.line X.env = pure true)
    (hi : PI X tg iter (TIx (Zx X W) fi)) (ok : BlkOk X.N X.env.scope scope own) (hv : ∀ i ∈ own1, i ∈ own.map (·.2))
    (hg : ∀ (s : Shared) (H : Hp) (C : Addr) (cl : List (Str × Addr)) (fp : List Addr), PG (X.blk s H scope (compEnvC scope cl C X.env) fp) tg (TXa (Zx X no) ws fa))
    (hi1 : ∀ (s : Shared) (H : Hp) (C : Addr) (cl : List (Str × Addr)) (fp : List Addr), PI (X.blk s H scope (compEnvC scope cl C X.env) fp) tg1 iter1 (TIx (Zx X no) fi2))
    (hg1 : ∀ (s : Shared) (H : Hp) (C : Addr) (cl : List (Str × Addr)) (fp : List Addr), PG (X.blk s H scope (compEnvC scope cl C X.env) fp) tg1 (TXa (Zx X no) us fa2))
    (ht1 : ∀ (s : Shared) (H : Hp) (C : Addr) (cl : List (Str × Addr)) (fp : List Addr), PTs (X.blk s H scope (compEnvC scope cl C X.env) fp) ifs1 (TXb (Zx X no) ft))
    (he : ∀ (s : Shared) (H : Hp) (C : Addr) (cl : List (Str × Addr)) (fp : List Addr), PE (X.blk s H scope (compEnvC scope cl C X.env) fp) elt (TX (Zx X no) f))
    (hw : ∀ j ∈ ws, j ∈ own.map (·.2)) (hu : ∀ j ∈ us, j ∈ own1) (hs : ∀ x, foldedSetIterable iter X.env x = pure x) (hs1 : ∀ env x, foldedSetIterable iter1 env x = pure x) :
    PS X (.Assign [.Name y py] (.ListComp elt [⟨tg, iter, [], 0⟩, ⟨tg1, iter1, ifs1, 0⟩] scope pos) spos) (TXf (Zx X W) fun r S => (mkL al ((fi r S).bnd fun p S1 => ((cmpT fa fi2 fa2 ft f own1 p.2 (wipeE r own) p.1 S1).nx).bnd fun ds S2 => if ds.length ≤ 16777216 then .ok ds S2 else .bad)).fl r fun x S1 => (R.ok (r.set i (some x)) S1).nx.fl r fun r1 S2 => .next r1 S2) :=
  PS.of (ps_setLc2 hc hN hy hyl hsw hi ok hv hg (fun s H C cl fp => so_t0) hi1 hg1 ht1 he hs hs1) fun D σ H ⟨c, r, S, s, e, p⟩ => by
    refine lc2_tx (Z := Zx X W) (al := al) hw hu σ H _ ?_
    refine fl_bnd s e p fun x S1 c1 v H1 x1 s1 e1 r1 p1 => ?_
    exact p1 c1 _ H1 Ext.refl s1 (e1.set r1)
end
end RR
namespace RR
open PySem PySem.Spec PyProof.Rows L2
section
variable {X : Cx} {W : WX} {pos : Pos}
theorem so_dct0 : PE X (.Dict [] [] pos) (TX (Zx X W) fun _ S => .ok (.dct [] []) S) := PE.of pe_dnewK fun σ H Q ⟨c, r, S, s, e, p⟩ q hq =>
  p c _ _ (Ext.new hq) (s.new hq) (.dct upd_same (s.fresh hq).1 (s.fresh hq).2 rfl .nil)
theorem so_dct1 {z : Str} {n : Int} {j k : Nat} {p1 p2 : Pos} : PE X (.Dict [some (.Constant (.str z) j p1)] [.Constant (.int n) k p2] pos) (TX (Zx X W) fun _ S => .ok (.dct [z] [.int n]) S) :=
  PE.of (pe_disp (pps_cons pe_str pe_int pps_nil) rfl rfl (by simp) (by simp)) fun σ H Q ⟨c, r, S, s, e, p⟩ q hq => by
    refine ⟨upd_same, [(Sum.inr z, .int n)], rfl, by simp, ?_⟩
    have e2 : upd (upd H q (.dK [])) q (.dK (mergeK [] [(Sum.inr z, V.int n)])) = upd H q (.dK [(Sum.inr z, V.int n)]) := by
      funext a
      unfold upd
      by_cases h : a = q
      · rw [if_pos h, if_pos h]; rfl
      · rw [if_neg h, if_neg h, if_neg h]
    rw [e2]
    exact p c _ _ (Ext.new hq) (s.new hq) (.dct upd_same (s.fresh hq).1 (s.fresh hq).2 rfl (.cons (.int n) .nil))
end
end RR

set_option Elab.async false
set_option linter.all false
set_option maxRecDepth 100000
set_option maxHeartbeats 1000000
/-! the tree against the small language, by computation -/
namespace RR
open PySem PySem.Spec PyProof.Rows L2
def lEq : List Nat → List Nat → Bool
  | [], [] => true
  | a :: as, b :: bs => (Nat.beq a b).and (lEq as bs)
  | _, _ => false
def sEq (x y : Str) : Bool := lEq x.cps.toList y.cps.toList
theorem lEq_iff : ∀ {as bs : List Nat}, lEq as bs = true ↔ as = bs
  | [], [] => by simp [lEq]
  | [], _ :: _ => by simp [lEq]
  | _ :: _, [] => by simp [lEq]
  | a :: as, b :: bs => by
    have := lEq_iff (as := as) (bs := bs)
    show ((Nat.beq a b).and (lEq as bs)) = true ↔ _
    simp [this]
theorem sEq_iff {x y : Str} : sEq x y = true ↔ x = y := by
  unfold sEq
  rw [lEq_iff]
  refine ⟨fun h => ?_, fun h => by rw [h]⟩
  obtain ⟨⟨xs⟩⟩ := x
  obtain ⟨⟨ys⟩⟩ := y
  have h : xs = ys := h
  rw [h]
theorem sEq_eq {x y : Str} (h : sEq x y = true) : x = y := sEq_iff.mp h
theorem sEq_ne {x y : Str} (h : (!sEq x y) = true) : x ≠ y := fun e => by
  rw [sEq_iff.mpr e] at h; cases h
theorem sEq_beq {x y : Str} (h : (!sEq x y) = true) : (x == y) = false := by
  simpa using sEq_ne h
def lkS {α : Type} : List (Str × α) → Str → Option α
  | [], _ => none
  | (a, b) :: l, x => bif sEq x a then some b else lkS l x
theorem lkS_eq {α : Type} : ∀ (l : List (Str × α)) (x : Str), lkS l x = l.lookup x
  | [], _ => rfl
  | (a, b) :: l, x => by
    have ih := lkS_eq l x
    show (bif sEq x a then some b else lkS l x) = _
    rw [List.lookup_cons]
    by_cases h : x = a
    · rw [sEq_iff.mpr h, beq_iff_eq.mpr h]; rfl
    · have h1 : sEq x a = false := by
        cases q : sEq x a with
        | true => exact absurd (sEq_eq q) h
        | false => rfl
      have h2 : (x == a) = false := by simpa using h
      rw [h1, h2]
      exact ih
def memS : List Str → Str → Bool
  | [], _ => false
  | a :: l, x => (sEq x a).or (memS l x)
theorem memS_of : ∀ {l : List Str} {x : Str}, memS l x = true → x ∈ l
  | [], _, h => by cases h
  | a :: l, x, h => by
    rcases Bool.or_eq_true_iff.mp (show (sEq x a || memS l x) = true from h) with h | h
    · rw [sEq_eq h]; exact List.mem_cons_self
    · exact List.mem_cons_of_mem _ (memS_of h)
def atS : List Str → Nat → Str → Bool
  | [], _, _ => false
  | a :: _, 0, x => sEq a x
  | _ :: l, n + 1, x => atS l n x
theorem atS_of : ∀ {l : List Str} {i : Nat} {x : Str}, atS l i x = true → l[i]? = some x
  | [], _, _, h => by cases h
  | a :: _, 0, x, h => by rw [sEq_eq (show sEq a x = true from h)]; rfl
  | _ :: l, n + 1, x, h => by simpa using atS_of (l := l) (i := n) h
/-- the setting of the tree -/
structure Tab where
  N : List Str
  sc : Scope
  raw : Scope
  top : Bool
  non : List Str
  conI : List (Str × Int)
  conS : List (Str × Str)
  fns : List (Str × Nat)
  exc : List Str := []
def kd (sc : Scope) (x : Str) : Option NameKind := lkS sc.names x
def visB (sc : Scope) (x : Str) : Bool := match kd sc x with
  | some .local => true
  | some .cell => true
  | some .free => true
  | _ => false
def locB (sc : Scope) (x : Str) : Bool := match kd sc x with
  | some .local => true
  | some .cell => true
  | _ => false
def lclB (sc : Scope) (x : Str) : Bool := match kd sc x with
  | some .local => true
  | _ => false
def cllB (sc : Scope) (x : Str) : Bool := match kd sc x with
  | some .cell => true
  | _ => false
def glbB (sc : Scope) (x : Str) : Bool := match kd sc x with
  | some .globalImplicit => true
  | _ => false
theorem kd_eq {sc : Scope} {x : Str} : kd sc x = sc.names.lookup x := lkS_eq _ _
theorem visB_of {sc : Scope} {x : Str} (h : visB sc x = true) : Vis sc x := by
  unfold visB at h
  unfold Vis
  rw [kd_eq] at h
  split at h <;> simp_all
theorem locB_of {sc : Scope} {x : Str} (h : locB sc x = true) : L2.Loc sc x := by
  unfold locB at h
  unfold L2.Loc
  rw [kd_eq] at h
  split at h <;> simp_all
theorem lclB_of {sc : Scope} {x : Str} (h : lclB sc x = true) : sc.names.lookup x = some .local := by
  unfold lclB at h
  rw [kd_eq] at h
  split at h <;> simp_all
theorem cllB_of {sc : Scope} {x : Str} (h : cllB sc x = true) : sc.names.lookup x = some .cell := by
  unfold cllB at h
  rw [kd_eq] at h
  split at h <;> simp_all
theorem glbB_of {sc : Scope} {x : Str} (h : glbB sc x = true) : sc.names.lookup x = some .globalImplicit := by
  unfold glbB at h
  rw [kd_eq] at h
  split at h <;> simp_all
def nodb (x : Str) : Bool := (!sEq x "__debug__").and ((!sEq x "__classdict__").and (!sEq x "__name__"))
theorem nodb_of {x : Str} (h : nodb x = true) : (x == ("__debug__" : Str)) = false ∧ (x == ("__classdict__" : Str)) = false ∧ x ≠ "__name__" := by
  obtain ⟨h1, h2⟩ := Bool.and_eq_true_iff.mp (show (!sEq x "__debug__" && ((!sEq x "__classdict__") && !sEq x "__name__")) = true from h)
  obtain ⟨h2, h3⟩ := Bool.and_eq_true_iff.mp h2
  exact ⟨sEq_beq h1, sEq_beq h2, sEq_ne h3⟩
/-- a global name that is a builtin's -/
def bltB (T : Tab) (x : Str) : Bool := (glbB T.sc x).and (memS T.non x)
def nodS : List Str → Bool
  | [] => true
  | a :: l => (!memS l a).and (nodS l)
theorem memS_in : ∀ {l : List Str} {x : Str}, x ∈ l → memS l x = true
  | a :: l, x, h => by
    show ((sEq x a).or (memS l x)) = true
    rcases List.mem_cons.mp h with h | h
    · rw [sEq_iff.mpr h]; rfl
    · rw [memS_in h]; simp
theorem nodS_of : ∀ {l : List Str}, nodS l = true → l.Nodup
  | [], _ => List.nodup_nil
  | a :: l, h => by
    obtain ⟨h1, h2⟩ := Bool.and_eq_true_iff.mp (show (!memS l a && nodS l) = true from h)
    refine List.nodup_cons.mpr ⟨fun hm => ?_, nodS_of h2⟩
    rw [memS_in hm] at h1; cases h1
def sEqL : List Str → List Str → Bool
  | [], [] => true
  | a :: as, b :: bs => (sEq a b).and (sEqL as bs)
  | _, _ => false
theorem sEqL_eq : ∀ {as bs : List Str}, sEqL as bs = true → as = bs
  | [], [], _ => rfl
  | [], _ :: _, h => (Bool.false_ne_true h).elim
  | _ :: _, [], h => (Bool.false_ne_true h).elim
  | a :: as, b :: bs, h => by
    obtain ⟨h1, h2⟩ := Bool.and_eq_true_iff.mp (show (sEq a b && sEqL as bs) = true from h)
    rw [sEq_eq h1, sEqL_eq h2]
def kFun : ScopeKind → Bool
  | .function => true
  | _ => false
def kFree : NameKind → Bool
  | .free => true
  | _ => false
def kLocCell : NameKind → Bool
  | .local => true
  | .cell => true
  | _ => false
def sameK : Option NameKind → NameKind → Bool
  | some k, k' => decide (k = k')
  | none, _ => false
/-- a def's scope -/
def scB (N P : List Str) (sc : Scope) : Bool := (kFun sc.kind).and ((!sc.isCoroutine).and ((!sc.isGenerator).and ((nodS N).and ((sEqL (N.take P.length) P).and ((P.all fun x => locB sc x).and (sc.names.all fun y => !kFree y.2))))))
theorem scB_of {N P : List Str} {sc : Scope} (h : scB N P sc = true) : FnScope N P sc := by
  unfold scB at h
  obtain ⟨h1, h⟩ := Bool.and_eq_true_iff.mp h
  obtain ⟨h2, h⟩ := Bool.and_eq_true_iff.mp h
  obtain ⟨h3, h⟩ := Bool.and_eq_true_iff.mp h
  obtain ⟨h4, h⟩ := Bool.and_eq_true_iff.mp h
  obtain ⟨h5, h⟩ := Bool.and_eq_true_iff.mp h
  obtain ⟨h6, h7⟩ := Bool.and_eq_true_iff.mp h
  refine ⟨?_, by simpa using h2, by simpa using h3, nodS_of h4, sEqL_eq h5, fun x hx => ?_, fun y hy e => ?_⟩
  · cases q : sc.kind <;> rw [q] at h1 <;> first | rfl | cases h1
  · have := locB_of (List.all_eq_true.mp h6 x hx)
    exact this
  · have := List.all_eq_true.mp h7 y hy
    rw [e] at this
    cases this
/-- a comprehension's block -/
def bkB (N : List Str) (sc scope : Scope) (own : List (Str × Nat)) : Bool := (kFun scope.kind).and ((scope.names.all fun y => sameK (kd scope y.1) y.2).and ((own.all fun p => atS N p.2 p.1).and
  (scope.names.all fun y => bif kFree y.2 then (match kd sc y.1 with
      | some .cell => true
      | some .free => true
      | _ => false) else (bif kLocCell y.2 then (memS (own.map (·.1)) y.1).or (!memS N y.1) else true))))
theorem bkB_of {N : List Str} {sc scope : Scope} {own : List (Str × Nat)} (h : bkB N sc scope own = true) : BlkOk N sc scope own := by
  unfold bkB at h
  obtain ⟨h1, h⟩ := Bool.and_eq_true_iff.mp h
  obtain ⟨h2, h⟩ := Bool.and_eq_true_iff.mp h
  obtain ⟨h3, h4⟩ := Bool.and_eq_true_iff.mp h
  refine ⟨?_, fun y hy => ?_, fun p hp => atS_of (List.all_eq_true.mp h3 p hp), fun y hy e => ?_, fun y hy e => ?_⟩
  · cases q : scope.kind <;> rw [q] at h1 <;> first | rfl | cases h1
  · have q := List.all_eq_true.mp h2 y hy
    rw [kd_eq] at q
    cases z : scope.names.lookup y.1 with
    | none => rw [z] at q; cases q
    | some k =>
      rw [z] at q
      rw [of_decide_eq_true q]
  · have q := List.all_eq_true.mp h4 y hy
    rw [e, kd_eq] at q
    have q : (match sc.names.lookup y.1 with
      | some .cell => true
      | some .free => true
      | _ => false) = true := q
    split at q <;> first | (rename_i z; exact .inl z) | (rename_i z; exact .inr z) | cases q
  · have q := List.all_eq_true.mp h4 y hy
    have q : ((memS (own.map (·.1)) y.1).or (!memS N y.1)) = true := by
      rcases e with e | e <;> (rw [e] at q; exact q)
    rcases Bool.or_eq_true_iff.mp (show (memS (own.map (·.1)) y.1 || !memS N y.1) = true from q) with q | q
    · exact .inl (memS_of q)
    · refine .inr fun hm => ?_
      rw [memS_in hm] at q; cases q
def Bop.is : Bop → Operator → Bool
  | .add, .Add => true
  | .sub, .Sub => true
  | .mul, .Mult => true
  | .fdv, .FloorDiv => true
  | .mod, .Mod => true
  | .pow, .Pow => true
  | _, _ => false
theorem Bop.is_of {o : Bop} {p : Operator} (h : o.is p = true) : p = o.op := by
  cases o <;> cases p <;> first | rfl | cases h
def Cop.is : Cop → CmpOp → Bool
  | .eq, .Eq => true
  | .ne, .NotEq => true
  | .lt, .Lt => true
  | .le, .LtE => true
  | .gt, .Gt => true
  | .ge, .GtE => true
  | .isn, .Is => true
  | .nsn, .IsNot => true
  | .inn, .In => true
  | .nin, .NotIn => true
  | _, _ => false
theorem Cop.is_of {o : Cop} {p : CmpOp} (h : o.is p = true) : p = o.op := by
  cases o <;> cases p <;> first | rfl | cases h
def Bl.nm : Bl → Str
  | .len => "len"
  | .abs => "abs"
  | .int => "int"
  | .str => "str"
  | .repr => "repr"
  | .tup => "tuple"
  | .sum => "sum"
  | .mn => "min"
  | .mx => "max"
  | .any => "any"
  | .all => "all"
  | .srt => "sorted"
def Ty.sn : Ty → Str
  | .int => "int"
  | .bool => "bool"
  | .str => "str"
  | .tup => "tuple"
  | .lst => "list"
  | .dct => "dict"
mutual
def Tg.slots : Tg → List Nat
  | .nm i => [i]
  | .tp ts => ts.slots
  | .sub _ _ => []
def Tgs.slots : Tgs → List Nat
  | .nil => []
  | .cons t ts => t.slots ++ ts.slots
end
/-- may it stand as a test? -/
def testE : E → Expr → Bool
  | .nt a, .UnaryOp .Not x _ => testE a x
  | .an a b, .BoolOp .And (x :: y :: rest) p => (testE a x).and (match rest with
    | [] => testE b y
    | _ => testE b (.BoolOp .And (y :: rest) p))
  | .or a b, .BoolOp .Or (x :: y :: rest) p => (testE a x).and (match rest with
    | [] => testE b y
    | _ => testE b (.BoolOp .Or (y :: rest) p))
  | .cmp _ _ _, .Compare _ _ _ _ => true
  | .chn _ _ _ _ _, .Compare _ _ _ _ => true
  | _, x => plainT x
def isTup : Expr → Bool
  | .Tuple _ _ _ => true
  | _ => false
def Es.isNil : Es → Bool
  | .nil => true
  | _ => false
mutual
def ckE (T : Tab) : E → Expr → Bool
  | .non, .Constant .none _ _ => true
  | .bl b, .Constant (.bool c) _ _ => b == c
  | .int i, .Constant (.int j) _ _ => decide (i = j)
  | .str x, .Constant (.str y) _ _ => sEq x y
  | .var i, .Name x _ => (atS T.N i x).and ((visB T.sc x).and (nodb x))
  | .con x d, .Name y _ => (sEq x y).and ((glbB T.sc x).and ((nodb x).and (match d with
    | .int i => (match lkS T.conI x with
      | some j => decide (i = j)
      | none => false)
    | .str z => (match lkS T.conS x with
      | some w => sEq z w
      | none => false)
    | _ => false)))
  | .bin o a b, .BinOp x p y _ => (o.is p).and ((ckE T a x).and (ckE T b y))
  | .neg a, .UnaryOp .USub x _ => ckE T a x
  | .nt a, .UnaryOp .Not x _ => ckE T a x
  | .an a b, .BoolOp .And (x :: y :: rest) p => (ckE T a x).and (match rest with
    | [] => ckE T b y
    | _ => ckE T b (.BoolOp .And (y :: rest) p))
  | .or a b, .BoolOp .Or (x :: y :: rest) p => (ckE T a x).and (match rest with
    | [] => ckE T b y
    | _ => ckE T b (.BoolOp .Or (y :: rest) p))
  | .cmp o a b, .Compare x [p] [y] _ => (o.is p).and ((ckE T a x).and ((ckE T b y).and (noSet y)))
  | .chn o q a b c, .Compare x [p, p'] [y, z] _ => (o.is p).and ((q.is p').and ((ckE T a x).and ((ckE T b y).and ((ckE T c z).and (noSet z)))))
  | .ite c a b, .IfExp x y z _ => (ckE T c x).and ((testE c x).and ((ckE T a y).and (ckE T b z)))
  | .tup es, .Tuple xs _ _ => (ckEs T es xs).and (Nat.ble xs.length 1000)
  | .fr _ l, x => ckL T l x
  | .ix a b, .Subscript x y _ => (ckE T a x).and ((ckE T b y).and (noSlice y))
  | .slc a lo hi, .Subscript x (.Slice l h none _) _ => (ckE T a x).and ((match l with
    | none => lo.isNon
    | some y => (ckE T lo y).and (!lo.isNon)).and (match h with
    | none => hi.isNon
    | some y => (ckE T hi y).and (!hi.isNon)))
  | .rev a, .Subscript x (.Slice none none (some (.UnaryOp .USub (.Constant (.int k) _ _) _)) _) _ => (ckE T a x).and (decide (k = 1))
  | .call i es, .Call (.Name x _) xs [] _ => (ckEs T es xs).and ((xs.all noStar).and ((glbB T.sc x).and ((nodb x).and (match lkS T.fns x with
    | some j => Nat.beq i j
    | none => false))))
  | .blt b es, .Call (.Name x _) xs [] _ => (sEq x b.nm).and ((bltB T x).and ((ckEs T es xs).and ((xs.all noStar).and (!es.isNil))))
  | .trg (.cons a .nil), .Call (.Name t _) [.Call (.Name r _) [x] [] _] [] _ => (sEq t "tuple").and ((sEq r "range").and ((bltB T t).and ((bltB T r).and ((ckE T a x).and (noStar x)))))
  | .isi a t, .Call (.Name i _) [x, .Name y _] [] _ => (sEq i "isinstance").and ((sEq y t.sn).and ((bltB T i).and ((bltB T y).and ((ckE T a x).and (noStar x)))))
  | .met m a es, .Call (.Attribute o nm apos) xs [] pos => (sEq nm m.nm).and ((ckE T a o).and ((noCall o).and ((apos.endLine == pos.line).and ((ckEs T es xs).and ((xs.all noStar).and (match m with
    | .pop => xs.isEmpty
    | _ => Nat.beq xs.length 1))))))
  | .bot, _ => true
  | .rvt up a, .Subscript x (.Slice none u (some (.UnaryOp .USub (.Constant (.int k) _ _) _)) _) _ => (ckE T a x).and ((decide (k = 1)).and (match up, u with
    | false, none => true
    | true, some (.Constant (.int z) _ _) => decide (z = 0)
    | _, _ => false))
  | .dct [] .nil, .Dict [] [] _ => true
  | .dct [z] (.cons (.int n) .nil), .Dict [some (.Constant (.str y) _ _)] [.Constant (.int m) _ _] _ => (sEq z y).and (decide (n = m))
  | _, _ => false
def ckL (T : Tab) : L → Expr → Bool
  | .dis es, .List xs _ => (ckEs T es xs).and (Nat.ble xs.length 1000)
  | .rep a b, .BinOp x .Mult y _ => (ckE T a x).and (ckE T b y)
  | .ofl a, .Call (.Name f _) [x] [] _ => (sEq f "list").and ((bltB T f).and ((ckE T a x).and (noStar x)))
  | .rng (.cons a .nil), .Call (.Name f _) [.Call (.Name r _) [x] [] _] [] _ => (sEq f "list").and ((sEq r "range").and ((bltB T f).and ((bltB T r).and ((ckE T a x).and (noStar x)))))
  | .rng (.cons a (.cons b .nil)), .Call (.Name f _) [.Call (.Name r _) [x, y] [] _] [] _ => (sEq f "list").and ((sEq r "range").and ((bltB T f).and ((bltB T r).and ((ckE T a x).and ((noStar x).and ((ckE T b y).and (noStar y)))))))
  | .cmp e t it c own, .ListComp elt [⟨tg, iter, ifs, k⟩] scope _ => (decide (k = 0)).and ((bkB T.N T.sc scope own).and ((ckIt T it iter (isTup tg)).and ((ckTg { T with sc := relS scope T.sc, raw := scope, top := false } t tg).and ((t.slots.all fun j => own.any fun p => Nat.beq p.2 j).and
      ((ckC { T with sc := relS scope T.sc, raw := scope, top := false } c ifs).and (ckE { T with sc := relS scope T.sc, raw := scope, top := false } e elt))))))
  | .cm2 e t1 it1 own1 t2 it2 c own, .ListComp elt [⟨tg, iter, [], k⟩, ⟨tg1, iter1, ifs, k1⟩] scope _ => (decide (k = 0)).and ((decide (k1 = 0)).and ((bkB T.N T.sc scope own).and ((ckIt T it1 iter (isTup tg)).and ((ckTg { T with sc := relS scope T.sc, raw := scope, top := false } t1 tg).and ((t1.slots.all fun j => own.any fun p => Nat.beq p.2 j).and
      ((ckIt { T with sc := relS scope T.sc, raw := scope, top := false } it2 iter1 (isTup tg1)).and ((noSet iter1).and ((ckTg { T with sc := relS scope T.sc, raw := scope, top := false } t2 tg1).and ((t2.slots.all fun j => own1.any fun p => Nat.beq p j).and ((own1.all fun j => own.any fun p => Nat.beq p.2 j).and
      ((ckC { T with sc := relS scope T.sc, raw := scope, top := false } c ifs).and (ckE { T with sc := relS scope T.sc, raw := scope, top := false } e elt))))))))))))
  | _, _ => false
def ckEs (T : Tab) : Es → List Expr → Bool
  | .nil, [] => true
  | .cons e es, x :: xs => (ckE T e x).and ((noStar x).and (ckEs T es xs))
  | _, _ => false
def ckC (T : Tab) : Es → List Expr → Bool
  | .nil, [] => true
  | .cons e .nil, [x] => (ckE T e x).and (testE e x)
  | _, _ => false
def ckTg (T : Tab) : Tg → Expr → Bool
  | .nm i, .Name x _ => (atS T.N i x).and ((locB T.sc x).and ((T.top).or ((lclB T.sc x).or (cllB T.raw x))))
  | .tp ts, .Tuple xs _ _ => (ckTgs T ts xs).and (xs.all noStar)
  | .sub o i, .Subscript x y _ => (ckE T o x).and ((ckE T i y).and (noSlice y))
  | _, _ => false
def ckTgs (T : Tab) : Tgs → List Expr → Bool
  | .nil, [] => true
  | .cons t ts, x :: xs => (ckTg T t x).and ((noStar x).and (ckTgs T ts xs))
  | _, _ => false
def ckIt (T : Tab) : It → Expr → Bool → Bool
  | .seq e, x, _ => (ckE T e x).and (noSet x)
  | .rng es, .Call (.Name f _) xs [] _, _ => (sEq f "range").and ((bltB T f).and ((ckEs T es xs).and ((xs.all noStar).and ((Nat.ble xs.length 3).and (Nat.ble 1 xs.length)))))
  | .enm e, .Call (.Name f _) [x] [] _, true => (sEq f "enumerate").and ((bltB T f).and ((ckE T e x).and (noStar x)))
  | .zp a b, .Call (.Name f _) [x, y] [] _, true => (sEq f "zip").and ((bltB T f).and ((ckE T a x).and ((noStar x).and ((ckE T b y).and (noStar y)))))
  | _, _, _ => false
end
end RR

set_option Elab.async false
set_option linter.all false
set_option maxRecDepth 100000
set_option maxHeartbeats 4000000
/-! what was computed holds -/
namespace RR
open PySem PySem.Spec PyProof.Rows L2
structure Okx (T : Tab) (X : Cx) (G : List Fn) (W : WX) : Prop where
  N : X.N = T.N
  sc : X.env.scope = T.sc
  kind : X.env.scope.kind = .function
  calm : X.calm = true
  nd : X.N.Nodup
  un : X.A.units + 65 < cLine
  gd : X.A.guards = some []
  fn : ∀ x, (T.top = true ∨ cllB T.raw x = true) → X.fn x = true
  non : ∀ x ∈ T.non, X.mg x = none
  conI : ∀ x i, lkS T.conI x = some i → ∃ u, X.mg x = some u ∧ RelV (.int i) u
  conS : ∀ x z, lkS T.conS x = some z → ∃ u, X.mg x = some u ∧ RelV (.str z) u
  fns : ∀ x i, lkS T.fns x = some i → ∃ k f fd ps g, G[i]? = some g ∧ X.mg x = some (.ref f) ∧ PySem.W.keepIn X.K (.ref f) = true ∧ Binds X.K fd ps [] ∧ Room k X.A ∧ MyFn X.prog X.w X.K X.mg X.base k f fd ps g
  tk : Takes X W
  exc : ∀ x, memS T.exc x = true → Nonempty (ExcC X x)
theorem and_of {a b : Bool} (h : a.and b = true) : a = true ∧ b = true := Bool.and_eq_true_iff.mp (show (a && b) = true from h)
theorem or_of {a b : Bool} (h : a.or b = true) : a = true ∨ b = true := Bool.or_eq_true_iff.mp (show (a || b) = true from h)
theorem not_of {a : Bool} (h : (!a) = true) : a = false := by cases a <;> first | rfl | cases h
section
variable {T : Tab} {X : Cx} {G : List Fn} {W : WX}
theorem Okx.gl (ok : Okx T X G W) {x : Str} (h : glbB T.sc x = true) : Gl X x := by
  have q := glbB_of h
  rw [← ok.sc] at q
  exact q
theorem Okx.blt (ok : Okx T X G W) {x : Str} (h : bltB T x = true) : Gl X x ∧ X.mg x = none := by
  obtain ⟨h1, h2⟩ := and_of h
  exact ⟨ok.gl h1, ok.non x (memS_of h2)⟩
theorem Okx.vis (ok : Okx T X G W) {x : Str} (h : visB T.sc x = true) : Vis X.env.scope x := by rw [ok.sc]; exact visB_of h
theorem Okx.loc (ok : Okx T X G W) {x : Str} (h : locB T.sc x = true) : L2.Loc X.env.scope x := by rw [ok.sc]; exact locB_of h
theorem Okx.at_ (ok : Okx T X G W) {i : Nat} {x : Str} (h : atS T.N i x = true) : X.N[i]? = some x := by rw [ok.N]; exact atS_of h
theorem takes_no {X : Cx} : Takes X no := fun _ _ ⟨_, _, _, _, _, _, _, _, _, _, _, _, _, _, _, _, w⟩ => w.elim
theorem Okx.blk (ok : Okx T X G W) (scope : Scope) (hk : scope.kind = .function) (s : Shared) (H : Hp) (C : Addr) (cl : List (Str × Addr)) (fp : List Addr) : Okx { T with sc := relS scope T.sc, raw := scope, top := false } (X.blk s H scope (compEnvC scope cl C X.env) fp) G no where
  N := ok.N
  sc := by
    show relS scope X.env.scope = relS scope T.sc
    rw [ok.sc]
  kind := hk
  calm := ok.calm
  nd := ok.nd
  un := ok.un
  gd := ok.gd
  fn := fun x h => by
    rcases h with h | h
    · cases h
    · show (scope.names.lookup x == some .cell) = true
      rw [cllB_of h]; rfl
  non := ok.non
  conI := ok.conI
  conS := ok.conS
  fns := ok.fns
  tk := takes_no
  exc := fun x h => (ok.exc x h).elim fun E => ⟨⟨E.C, E.mg, E.ex, E.kp, E.su, E.ty, E.me⟩⟩
theorem folded_no {e : Expr} {env : PySem.Env} (h : noSet e = true) : ∀ x, foldedSetIterable e env x = pure x := by
  intro x
  cases e <;> first | rfl | cases h
theorem evs_len : ∀ {es : Es} {r : Env} {S : Store} {xs : List D} {S1 : Store}, evs G es r S = .ok xs S1 → xs.length = es.len
  | .nil, r, S, xs, S1, h => by
    rw [evs] at h; cases h; rfl
  | .cons e es, r, S, xs, S1, h => by
    rw [evs] at h
    cases q : ev G e r S with
    | bad => rw [q] at h; cases h
    | exc nm fl S2 => rw [q] at h; cases h
    | ok d S2 =>
      rw [q] at h
      have h : ((evs G es r S2).bnd fun xs S2 => .ok (d :: xs) S2) = .ok xs S1 := h
      cases q2 : evs G es r S2 with
      | bad => rw [q2] at h; cases h
      | exc nm fl S3 => rw [q2] at h; cases h
      | ok ds S3 =>
        rw [q2] at h
        cases h
        have := evs_len q2
        simp [Es.len, this]
theorem ckEs_len : ∀ {es : Es} {xs : List Expr}, ckEs T es xs = true → es.len = xs.length
  | .nil, [], _ => rfl
  | .nil, _ :: _, h => (Bool.false_ne_true h).elim
  | .cons _ _, [], h => (Bool.false_ne_true h).elim
  | .cons e es, x :: xs, h => by
    obtain ⟨_, h⟩ := and_of (show (ckE T e x).and ((noStar x).and (ckEs T es xs)) = true from h)
    obtain ⟨_, h⟩ := and_of h
    simp [Es.len, ckEs_len h]
theorem ckTgs_len : ∀ {es : Tgs} {xs : List Expr}, ckTgs T es xs = true → es.len = xs.length
  | .nil, [], _ => rfl
  | .nil, _ :: _, h => (Bool.false_ne_true h).elim
  | .cons _ _, [], h => (Bool.false_ne_true h).elim
  | .cons e es, x :: xs, h => by
    obtain ⟨_, h⟩ := and_of (show (ckTg T e x).and ((noStar x).and (ckTgs T es xs)) = true from h)
    obtain ⟨_, h⟩ := and_of h
    simp [Tgs.len, ckTgs_len h]
abbrev OkE (X : Cx) (G : List Fn) (W : WX) (e : E) (x : Expr) : Prop := PE X x (TX (Zx X W) fun r S => ev G e r S) ∧ (testE e x = true → PT X x (TXb (Zx X W) (tv fun r S => ev G e r S)))
/-- a call of a builtin -/
theorem blt_ok (ok : Okx T X G W) {b : Bl} {x : Str} {y : Expr} {ys : List Expr} {p pos : Pos} {fs : Env → Store → R (List D)} (hx : x = b.nm) (hb : bltB T x = true) (ha : PA X (y :: ys) (TXs (Zx X W) fs)) (hs : (y :: ys).all noStar = true) :
    PE X (.Call (.Name x p) (y :: ys) [] pos) (TX (Zx X W) fun r S => (fs r S).bnd fun xs S1 => .opt (bltD S1 b xs) S1) := by
  obtain ⟨hg, hm⟩ := ok.blt hb
  subst hx
  cases b with
  | len => exact so_blt b_len hg hm (by first | rfl | decide +kernel) ha hs (by decide +kernel) (by decide +kernel)
  | abs => exact so_blt b_abs hg hm (by first | rfl | decide +kernel) ha hs (by decide +kernel) (by decide +kernel)
  | int => exact so_blT b_int hg hm (by first | rfl | decide +kernel) ha hs (by decide +kernel) (by decide +kernel)
  | str => exact so_blT b_str hg hm (by first | rfl | decide +kernel) ha hs (by decide +kernel) (by decide +kernel)
  | repr => exact so_blt (b_repr ok.gd ok.un) hg hm (by first | rfl | decide +kernel) ha hs (by decide +kernel) (by decide +kernel)
  | tup => exact so_blT b_tup hg hm (by first | rfl | decide +kernel) ha hs (by decide +kernel) (by decide +kernel)
  | sum => exact so_blt (b_sum ok.calm) hg hm (by first | rfl | decide +kernel) ha hs (by decide +kernel) (by decide +kernel)
  | mn => exact so_blt (b_mn ok.calm) hg hm (by first | rfl | decide +kernel) ha hs (by decide +kernel) (by decide +kernel)
  | mx => exact so_blt (b_mx ok.calm) hg hm (by first | rfl | decide +kernel) ha hs (by decide +kernel) (by decide +kernel)
  | any => exact so_blt (b_any ok.calm) hg hm (by first | rfl | decide +kernel) ha hs (by decide +kernel) (by decide +kernel)
  | all => exact so_blt (b_all ok.calm) hg hm (by first | rfl | decide +kernel) ha hs (by decide +kernel) (by decide +kernel)
  | srt => exact so_blt b_srt hg hm (by first | rfl | decide +kernel) ha hs (by decide +kernel) (by decide +kernel)
theorem isi_ok (ok : Okx T X G W) {t : Ty} {i y : Str} {a : Expr} {p p2 pos : Pos} {f : Env → Store → R D} (h1 : i = "isinstance") (h2 : y = t.sn) (b1 : bltB T i = true) (b2 : bltB T y = true) (ha : PE X a (TX (Zx X W) f)) (hs : noStar a = true) :
    PE X (.Call (.Name i p) [a, .Name y p2] [] pos) (TX (Zx X W) fun r S => (f r S).bnd fun x S1 => .ok (.bl (isiD S1 x t)) S1) := by
  obtain ⟨hg, hm⟩ := ok.blt b1
  obtain ⟨hg2, hm2⟩ := ok.blt b2
  subst h1 h2
  cases t <;> exact so_isi hg hm (by first | rfl | decide +kernel) hg2 hm2 (by first | rfl | decide +kernel) ha hs (by decide +kernel) (by decide +kernel) (by decide +kernel) (by decide +kernel)
end
end RR

set_option Elab.async false
set_option linter.all false
set_option maxRecDepth 100000
set_option maxHeartbeats 4000000
/-! soundness: expressions -/
namespace RR
open PySem PySem.Spec PyProof.Rows L2
theorem non_isNon {lo : E} (h : lo.isNon = true) : lo = .non := by cases lo <;> first | rfl | cases h
section
variable {G : List Fn}
mutual
theorem sdE : ∀ (e : E) {T : Tab} {X : Cx} {W : WX} {x : Expr}, Okx T X G W → ckE T e x = true → OkE X G W e x
  | .non, T, X, W, x, ok, h => by
    cases x with
    | Constant k _ _ => cases k with
      | none => exact ⟨so_non, fun _ => so_pt so_non rfl⟩
      | _ => exact (Bool.false_ne_true h).elim
    | _ => exact (Bool.false_ne_true h).elim
  | .bl b, T, X, W, x, ok, h => by
    cases x with
    | Constant k _ _ => cases k with
      | bool c =>
        have e : b = c := by simpa using (show (b == c) = true from h)
        subst e
        exact ⟨so_bl, fun _ => so_pt so_bl rfl⟩
      | _ => exact (Bool.false_ne_true h).elim
    | _ => exact (Bool.false_ne_true h).elim
  | .int i, T, X, W, x, ok, h => by
    cases x with
    | Constant k _ _ => cases k with
      | int c =>
        have e : i = c := of_decide_eq_true h
        subst e
        exact ⟨so_int, fun _ => so_pt so_int rfl⟩
      | _ => exact (Bool.false_ne_true h).elim
    | _ => exact (Bool.false_ne_true h).elim
  | .str z, T, X, W, x, ok, h => by
    cases x with
    | Constant k _ _ => cases k with
      | str c =>
        have e := sEq_eq h
        subst e
        exact ⟨so_str, fun _ => so_pt so_str rfl⟩
      | _ => exact (Bool.false_ne_true h).elim
    | _ => exact (Bool.false_ne_true h).elim
  | .var i, T, X, W, x, ok, h => by
    cases x with
    | Name x p =>
      obtain ⟨h1, h⟩ := and_of h
      obtain ⟨h2, h3⟩ := and_of h
      obtain ⟨n1, n2, n3⟩ := nodb_of h3
      have q : PE X (.Name x p) (TX (Zx X W) fun r S => ev G (.var i) r S) := by
        simp only [ev]
        exact so_var (ok.at_ h1) (ok.vis h2) n1 n2
      exact ⟨q, fun _ => so_pt q rfl⟩
    | _ => exact (Bool.false_ne_true h).elim
  | .con x d, T, X, W, y, ok, h => by
    cases y with
    | Name y p =>
      obtain ⟨h1, h⟩ := and_of h
      obtain ⟨h2, h⟩ := and_of h
      obtain ⟨h3, h9⟩ := and_of h
      obtain ⟨n1, n2, n3⟩ := nodb_of h3
      have e := sEq_eq h1
      subst e
      have q : PE X (.Name x p) (TX (Zx X W) fun r S => ev G (.con x d) r S) := by
        simp only [ev]
        cases d with
        | int i =>
          have h : (match lkS T.conI x with
            | some j => decide (i = j)
            | none => false) = true := h9
          split at h
          · rename_i j hj
            have e := of_decide_eq_true h
            subst e
            obtain ⟨u, hm, r⟩ := ok.conI _ _ hj
            exact so_con (ok.gl h2) hm r (fun _ _ => .int _) n1
          · cases h
        | str z =>
          have h : (match lkS T.conS x with
            | some w => sEq z w
            | none => false) = true := h9
          split at h
          · rename_i j hj
            have e := sEq_eq h
            subst e
            obtain ⟨u, hm, r⟩ := ok.conS _ _ hj
            exact so_con (ok.gl h2) hm r (fun _ _ => .str _) n1
          · cases h
        | _ => exact (Bool.false_ne_true h9).elim
      exact ⟨q, fun _ => so_pt q rfl⟩
    | _ => exact (Bool.false_ne_true h).elim
  | .bin o a b, T, X, W, x, ok, h => by
    cases x with
    | BinOp x p y q1 =>
      obtain ⟨h1, h⟩ := and_of h
      obtain ⟨h2, h3⟩ := and_of h
      have q := so_bin o (sdE a ok h2).1 (sdE b ok h3).1 (pos := q1)
      rw [← Bop.is_of h1] at q
      have q : PE X (.BinOp x p y q1) (TX (Zx X W) fun r S => ev G (.bin o a b) r S) := by
        simp only [ev]
        exact q
      exact ⟨q, fun _ => so_pt q rfl⟩
    | _ => exact (Bool.false_ne_true h).elim
  | .neg a, T, X, W, x, ok, h => by
    cases x with
    | UnaryOp o x p =>
      cases o with
      | USub =>
        have q := so_neg (sdE a ok h).1 (pos := p)
        have q : PE X (.UnaryOp .USub x p) (TX (Zx X W) fun r S => ev G (.neg a) r S) := by
          simp only [ev]
          exact q
        exact ⟨q, fun _ => so_pt q rfl⟩
      | _ => exact (Bool.false_ne_true h).elim
    | _ => exact (Bool.false_ne_true h).elim
  | .nt a, T, X, W, x, ok, h => by
    cases x with
    | UnaryOp o x p =>
      cases o with
      | Not =>
        have qa := sdE a ok h
        have q := so_nt qa.1 (pos := p)
        refine ⟨?_, fun ht => ?_⟩
        · simp only [ev]
          exact q
        · simp only [ev]
          exact so_ptnt (qa.2 ht)
      | _ => exact (Bool.false_ne_true h).elim
    | _ => exact (Bool.false_ne_true h).elim
  | .an a b, T, X, W, x, ok, h => by
    cases x with
    | BoolOp o xs p =>
      cases o with
      | And =>
        match xs, h with
        | x :: y :: [], h =>
          obtain ⟨h1, h2⟩ := and_of (show (ckE T a x).and (ckE T b y) = true from h)
          have qa := sdE a ok h1
          have qb := sdE b ok h2
          refine ⟨?_, fun ht => ?_⟩
          · simp only [ev]
            exact so_an qa.1 (pe_one qb.1)
          · obtain ⟨t1, t2⟩ := and_of (show (testE a x).and (testE b y) = true from ht)
            simp only [ev]
            exact so_ptan (qa.2 t1) (pw_and1 (qb.2 t2))
        | x :: y :: z :: rest, h =>
          obtain ⟨h1, h2⟩ := and_of (show (ckE T a x).and (ckE T b (.BoolOp .And (y :: z :: rest) p)) = true from h)
          have qa := sdE a ok h1
          have qb := sdE b ok h2
          refine ⟨?_, fun ht => ?_⟩
          · simp only [ev]
            exact so_an qa.1 qb.1
          · obtain ⟨t1, t2⟩ := and_of (show (testE a x).and (testE b (.BoolOp .And (y :: z :: rest) p)) = true from ht)
            simp only [ev]
            exact so_ptan (qa.2 t1) (pw_any (qb.2 t2))
        | [], h => exact (Bool.false_ne_true h).elim
        | [_], h => exact (Bool.false_ne_true h).elim
      | _ => exact (Bool.false_ne_true h).elim
    | _ => exact (Bool.false_ne_true h).elim
  | .or a b, T, X, W, x, ok, h => by
    cases x with
    | BoolOp o xs p =>
      cases o with
      | Or =>
        match xs, h with
        | x :: y :: [], h =>
          obtain ⟨h1, h2⟩ := and_of (show (ckE T a x).and (ckE T b y) = true from h)
          have qa := sdE a ok h1
          have qb := sdE b ok h2
          refine ⟨?_, fun ht => ?_⟩
          · simp only [ev]
            exact so_or qa.1 (pe_one qb.1)
          · obtain ⟨t1, t2⟩ := and_of (show (testE a x).and (testE b y) = true from ht)
            simp only [ev]
            exact so_ptor (qa.2 t1) (pw_or1 (qb.2 t2))
        | x :: y :: z :: rest, h =>
          obtain ⟨h1, h2⟩ := and_of (show (ckE T a x).and (ckE T b (.BoolOp .Or (y :: z :: rest) p)) = true from h)
          have qa := sdE a ok h1
          have qb := sdE b ok h2
          refine ⟨?_, fun ht => ?_⟩
          · simp only [ev]
            exact so_or qa.1 qb.1
          · obtain ⟨t1, t2⟩ := and_of (show (testE a x).and (testE b (.BoolOp .Or (y :: z :: rest) p)) = true from ht)
            simp only [ev]
            exact so_ptor (qa.2 t1) (pw_any (qb.2 t2))
        | [], h => exact (Bool.false_ne_true h).elim
        | [_], h => exact (Bool.false_ne_true h).elim
      | _ => exact (Bool.false_ne_true h).elim
    | _ => exact (Bool.false_ne_true h).elim
  | .cmp o a b, T, X, W, x, ok, h => by
    cases x with
    | Compare x ps ys q =>
      match ps, ys, h with
      | [p], [y], h =>
        obtain ⟨h1, h⟩ := and_of h
        obtain ⟨h2, h⟩ := and_of h
        obtain ⟨h3, h4⟩ := and_of h
        have e := Cop.is_of h1
        subst e
        have qa := sdE a ok h2
        have qb := sdE b ok h3
        refine ⟨?_, fun ht => ?_⟩
        · simp only [ev]
          exact so_cmp ok.un o qa.1 qb.1 h4
        · simp only [ev]
          exact so_ptcmp ok.un o qa.1 qb.1 h4
      | [], _, h => exact (Bool.false_ne_true h).elim
      | [_], [], h => exact (Bool.false_ne_true h).elim
      | [_], _ :: _ :: _, h => exact (Bool.false_ne_true h).elim
      | _ :: _ :: _, _, h => exact (Bool.false_ne_true h).elim
    | _ => exact (Bool.false_ne_true h).elim
  | .chn o q a b c, T, X, W, x, ok, h => by
    cases x with
    | Compare x ps ys pos =>
      match ps, ys, h with
      | [p, p'], [y, z], h =>
        obtain ⟨h1, h⟩ := and_of h
        obtain ⟨h1', h⟩ := and_of h
        obtain ⟨h2, h⟩ := and_of h
        obtain ⟨h3, h⟩ := and_of h
        obtain ⟨h4, h5⟩ := and_of h
        have e := Cop.is_of h1
        have e' := Cop.is_of h1'
        subst e e'
        have qa := sdE a ok h2
        have qb := sdE b ok h3
        have qc := sdE c ok h4
        refine ⟨?_, fun ht => ?_⟩
        · simp only [ev]
          exact so_chn ok.un o q qa.1 qb.1 qc.1 h5
        · simp only [ev]
          exact so_ptchn ok.un o q qa.1 qb.1 qc.1 h5
      | [], _, h => exact (Bool.false_ne_true h).elim
      | [_], _, h => exact (Bool.false_ne_true h).elim
      | [_, _], [], h => exact (Bool.false_ne_true h).elim
      | [_, _], [_], h => exact (Bool.false_ne_true h).elim
      | [_, _], _ :: _ :: _ :: _, h => exact (Bool.false_ne_true h).elim
      | _ :: _ :: _ :: _, _, h => exact (Bool.false_ne_true h).elim
    | _ => exact (Bool.false_ne_true h).elim
  | .ite c a b, T, X, W, x, ok, h => by
    cases x with
    | IfExp x y z p =>
      obtain ⟨h1, h⟩ := and_of h
      obtain ⟨h2, h⟩ := and_of h
      obtain ⟨h3, h4⟩ := and_of h
      have qc := sdE c ok h1
      have q : PE X (.IfExp x y z p) (TX (Zx X W) fun r S => ev G (.ite c a b) r S) := by
        simp only [ev]
        exact so_ite (tt := fun _ _ _ => True) (qc.2 h2) (sdE a ok h3).1 (sdE b ok h4).1
      exact ⟨q, fun ht => so_pt q ht⟩
    | _ => exact (Bool.false_ne_true h).elim
  | .tup es, T, X, W, x, ok, h => by
    cases x with
    | Tuple xs k p =>
      obtain ⟨h1, h2⟩ := and_of h
      have q : PE X (.Tuple xs k p) (TX (Zx X W) fun r S => ev G (.tup es) r S) := by
        simp only [ev]
        refine so_tup (sdEs es ok h1).1 fun r S ys S1 e => ?_
        rw [evs_len e, ckEs_len h1]
        have := Nat.le_of_ble_eq_true h2
        omega
      exact ⟨q, fun _ => so_pt q rfl⟩
    | _ => exact (Bool.false_ne_true h).elim
  | .fr al l, T, X, W, x, ok, h => by
    have q : PE X x (TX (Zx X W) fun r S => ev G (.fr al l) r S) := by
      simp only [ev]
      exact sdL l ok h al
    exact ⟨q, fun ht => so_pt q ht⟩
  | .dct ks es, T, X, W, x, ok, h => by
    match ks, es, x, h with
    | [], .nil, .Dict [] [] p, _ =>
      have q : PE X (.Dict [] [] p) (TX (Zx X W) fun r S => ev G (.dct [] .nil) r S) := by
        simp only [ev, evs]
        refine PE.of so_dct0 fun σ H Q ⟨c, r, S, s, e, p⟩ => ⟨c, r, S, s, e, ?_⟩
        have p : Post (Zx X W) (RelD X.K) (if ([] : List Str).length = ([] : List D).length ∧ ([] : List Str).length ≤ 1 then R.ok (D.dct [] []) S else .bad) c σ H Q := p
        rw [if_pos ⟨rfl, Nat.zero_le _⟩] at p
        exact p
      exact ⟨q, fun ht => so_pt q ht⟩
    | [z], .cons (.int n) .nil, .Dict [some (.Constant (.str y) j p1)] [.Constant (.int m) k p2] p, h =>
      obtain ⟨h1, h2⟩ := and_of h
      have e1 := sEq_eq h1
      have e2 := of_decide_eq_true h2
      subst e1 e2
      have q : PE X (.Dict [some (.Constant (.str z) j p1)] [.Constant (.int n) k p2] p) (TX (Zx X W) fun r S => ev G (.dct [z] (.cons (.int n) .nil)) r S) := by
        simp only [ev, evs]
        refine PE.of so_dct1 fun σ H Q ⟨c, r, S, s, e, p⟩ => ⟨c, r, S, s, e, ?_⟩
        have p : Post (Zx X W) (RelD X.K) (if [z].length = [D.int n].length ∧ [z].length ≤ 1 then R.ok (D.dct [z] [.int n]) S else .bad) c σ H Q := p
        rw [if_pos ⟨rfl, Nat.le_refl _⟩] at p
        exact p
      exact ⟨q, fun ht => so_pt q ht⟩
  | .bot, T, X, W, x, ok, h => ⟨by simp only [ev]; exact so_bot, fun _ => by simp only [ev]; exact so_botT (f := fun _ _ => .bad)⟩
  | .rvt up a, T, X, W, x, ok, h => by
    match x, h with
    | .Subscript x (.Slice none u (some (.UnaryOp .USub (.Constant (.int k) j q1) q2)) q3) p, h =>
      obtain ⟨h1, h⟩ := and_of h
      obtain ⟨h2, h3⟩ := and_of h
      have e := of_decide_eq_true h2
      subst e
      have hu : ∃ j p4, u = if up = true then some (.Constant (.int 0) j p4) else none := by
        match up, u, h3 with
        | false, none, _ => exact ⟨0, p, rfl⟩
        | true, some (.Constant (.int z) j p4), h3 =>
          have e := of_decide_eq_true h3
          subst e
          exact ⟨j, p4, rfl⟩
        | true, none, h3 => exact (Bool.false_ne_true h3).elim
        | false, some _, h3 => exact (Bool.false_ne_true h3).elim
      obtain ⟨j4, p4, hu⟩ := hu
      have q : PE X (.Subscript x (.Slice none u (some (.UnaryOp .USub (.Constant (.int 1) j q1) q2)) q3) p) (TX (Zx X W) fun r S => ev G (.rvt up a) r S) := by
        simp only [ev]
        exact so_rvt hu (sdE a ok h1).1
      exact ⟨q, fun _ => so_pt q rfl⟩
  | .ix a b, T, X, W, x, ok, h => by
    cases x with
    | Subscript x y p =>
      have hs : noSlice y = true ∧ ckE T a x = true ∧ ckE T b y = true := by
        cases y <;> first | (exact ⟨rfl, (and_of h).1, (and_of (and_of h).2).1⟩) | exact (Bool.false_ne_true h).elim | exact (Bool.false_ne_true (and_of (and_of h).2).2).elim
      have q : PE X (.Subscript x y p) (TX (Zx X W) fun r S => ev G (.ix a b) r S) := by
        simp only [ev]
        exact so_ix (sdE a ok hs.2.1).1 (sdE b ok hs.2.2).1 hs.1
      exact ⟨q, fun _ => so_pt q rfl⟩
    | _ => exact (Bool.false_ne_true h).elim
  | .slc a lo hi, T, X, W, x, ok, h => by
    cases x with
    | Subscript x y p =>
      cases y with
      | Slice l u st p2 =>
        cases st with
        | none =>
          obtain ⟨h1, h⟩ := and_of h
          obtain ⟨h2, h3⟩ := and_of h
          have ql : PO X l (TXo (Zx X W) fun r S => (ev G lo r S).bnd (bndI lo.isNon)) := by
            cases l with
            | none =>
              have e := non_isNon h2
              subst e
              simp only [ev]
              exact so_pn
            | some y =>
              obtain ⟨h4, h5⟩ := and_of h2
              rw [not_of h5]
              exact so_po (sdE lo ok h4).1
          have qu : PO X u (TXo (Zx X W) fun r S => (ev G hi r S).bnd (bndI hi.isNon)) := by
            cases u with
            | none =>
              have e := non_isNon h3
              subst e
              simp only [ev]
              exact so_pn
            | some y =>
              obtain ⟨h4, h5⟩ := and_of h3
              rw [not_of h5]
              exact so_po (sdE hi ok h4).1
          have q : PE X (.Subscript x (.Slice l u none p2) p) (TX (Zx X W) fun r S => ev G (.slc a lo hi) r S) := by
            simp only [ev]
            exact so_slc (sdE a ok h1).1 ql qu
          exact ⟨q, fun _ => so_pt q rfl⟩
        | some _ => exact (Bool.false_ne_true h).elim
      | _ => exact (Bool.false_ne_true h).elim
    | _ => exact (Bool.false_ne_true h).elim
  | .rev a, T, X, W, x, ok, h => by
    cases x with
    | Subscript x y p =>
      match y, h with
      | .Slice none none (some (.UnaryOp .USub (.Constant (.int k) j q1) q2)) q3, h =>
        obtain ⟨h1, h2⟩ := and_of h
        have e := of_decide_eq_true h2
        subst e
        have q : PE X (.Subscript x (.Slice none none (some (.UnaryOp .USub (.Constant (.int 1) j q1) q2)) q3) p) (TX (Zx X W) fun r S => ev G (.rev a) r S) := by
          simp only [ev]
          exact so_rev (sdE a ok h1).1
        exact ⟨q, fun _ => so_pt q rfl⟩
    | _ => exact (Bool.false_ne_true h).elim
  | .call i es, T, X, W, x, ok, h => by
    match x, h with
    | .Call (.Name x p) xs [] pos, h =>
      obtain ⟨h1, h⟩ := and_of h
      obtain ⟨h2, h⟩ := and_of h
      obtain ⟨h3, h⟩ := and_of h
      obtain ⟨h4, h⟩ := and_of h
      obtain ⟨n1, n2, n3⟩ := nodb_of h4
      have h : (match lkS T.fns x with
        | some j => Nat.beq i j
        | none => false) = true := h
      split at h
      · rename_i j hj
        have e := Nat.eq_of_beq_eq_true h
        subst e
        obtain ⟨k, f, fd, ps, g, hg, hm, hk, hb, hr, F⟩ := ok.fns _ _ hj
        have q : PE X (.Call (.Name x p) xs [] pos) (TX (Zx X W) fun r S => ev G (.call i es) r S) := by
          simp only [ev, hg]
          have qs := (sdEs es ok h1).1
          match es, xs, h1, h2, qs with
          | .nil, [], h1, h2, qs =>
            have q := so_call0 F hr ok.gd hb ok.tk (ok.gl h3) hm hk n1 (pos := pos) (p := p)
            simp only [evs]
            exact q
          | .nil, _ :: _, h1, _, _ => exact (Bool.false_ne_true h1).elim
          | .cons _ _, [], h1, _, _ => exact (Bool.false_ne_true h1).elim
          | .cons _ _, _ :: _, h1, h2, qs => exact so_call F hr ok.gd hb ok.tk (ok.gl h3) hm hk qs h2 n1
        exact ⟨q, fun _ => so_pt q rfl⟩
      · cases h
  | .blt b es, T, X, W, x, ok, h => by
    match x, h with
    | .Call (.Name x p) xs [] pos, h =>
      obtain ⟨h1, h⟩ := and_of h
      obtain ⟨h2, h⟩ := and_of h
      obtain ⟨h3, h⟩ := and_of h
      obtain ⟨h4, h5⟩ := and_of h
      have q : PE X (.Call (.Name x p) xs [] pos) (TX (Zx X W) fun r S => ev G (.blt b es) r S) := by
        simp only [ev]
        have qs := (sdEs es ok h3).1
        match es, xs, h3, h4, h5, qs with
        | .nil, _, _, _, h5, _ => exact (Bool.false_ne_true h5).elim
        | .cons _ _, [], h1, _, _, _ => exact (Bool.false_ne_true h1).elim
        | .cons _ _, _ :: _, h3, h4, _, qs => exact blt_ok ok (sEq_eq h1) h2 qs h4
      exact ⟨q, fun _ => so_pt q rfl⟩
  | .trg es, T, X, W, x, ok, h => by
    match es, x, h with
    | .cons a .nil, .Call (.Name t p) [.Call (.Name r p2) [x] [] pos2] [] pos, h =>
      obtain ⟨h1, h⟩ := and_of h
      obtain ⟨h2, h⟩ := and_of h
      obtain ⟨h3, h⟩ := and_of h
      obtain ⟨h4, h⟩ := and_of h
      obtain ⟨h5, h6⟩ := and_of h
      have e1 := sEq_eq h1
      have e2 := sEq_eq h2
      subst e1 e2
      obtain ⟨g1, m1⟩ := ok.blt h3
      obtain ⟨g2, m2⟩ := ok.blt h4
      have q := so_trg1 ok.calm g1 m1 g2 m2 (sdE a ok h5).1 h6 (p := p) (p2 := p2) (pos2 := pos2) (pos := pos)
      have q : PE X (.Call (.Name "tuple" p) [.Call (.Name "range" p2) [x] [] pos2] [] pos) (TX (Zx X W) fun r S => ev G (.trg (.cons a .nil)) r S) := by
        refine PE.of q fun σ H Q ⟨c, r, S, s, e, p⟩ => ⟨c, r, S, s, e, ?_⟩
        simp only [ev, evs] at p
        show Post _ _ ((ev G a r S).bnd fun x S1 => .opt ((rngD [x]).map D.tup) S1) _ _ _ _
        cases q1 : ev G a r S with
        | bad => rw [q1] at p; exact p
        | exc nm fl S1 => rw [q1] at p; exact p
        | ok x S1 => rw [q1] at p; exact p
      exact ⟨q, fun _ => so_pt q rfl⟩
    | .nil, _, h => exact (Bool.false_ne_true h).elim
    | .cons _ (.cons _ _), _, h => exact (Bool.false_ne_true h).elim
  | .isi a t, T, X, W, x, ok, h => by
    match x, h with
    | .Call (.Name i p) [x, .Name y p2] [] pos, h =>
      obtain ⟨h1, h⟩ := and_of h
      obtain ⟨h2, h⟩ := and_of h
      obtain ⟨h3, h⟩ := and_of h
      obtain ⟨h4, h⟩ := and_of h
      obtain ⟨h5, h6⟩ := and_of h
      have q : PE X (.Call (.Name i p) [x, .Name y p2] [] pos) (TX (Zx X W) fun r S => ev G (.isi a t) r S) := by
        simp only [ev]
        exact isi_ok ok (sEq_eq h1) (sEq_eq h2) h3 h4 (sdE a ok h5).1 h6
      exact ⟨q, fun _ => so_pt q rfl⟩
  | .met m a es, T, X, W, x, ok, h => by
    match x, h with
    | .Call (.Attribute o nm apos) xs [] pos, h =>
      obtain ⟨h1, h⟩ := and_of h
      obtain ⟨h2, h⟩ := and_of h
      obtain ⟨h3, h⟩ := and_of h
      obtain ⟨h4, h⟩ := and_of h
      obtain ⟨h5, h⟩ := and_of h
      obtain ⟨h6, h7⟩ := and_of h
      have e := sEq_eq h1
      subst e
      have qa := (sdE a ok h2).1
      have qs := (sdEs es ok h5).1
      have q : PE X (.Call (.Attribute o m.nm apos) xs [] pos) (TX (Zx X W) fun r S => ev G (.met m a es) r S) := by
        simp only [ev]
        cases m with
        | pop =>
          match es, xs, h5, h7 with
          | .nil, [], _, _ =>
            simp only [evs]
            exact so_met0 qa h3 h4
          | .cons _ _, [], h5, _ => exact (Bool.false_ne_true h5).elim
          | _, _ :: _, _, h7 => exact (Bool.false_ne_true h7).elim
        | append =>
          match xs, h6, h7, qs with
          | [x], h6, _, qs => exact so_met1 .append (by intro z; cases z) qa qs (and_of h6).1 h3 h4
          | [], _, h7, _ => exact (Bool.false_ne_true h7).elim
          | _ :: _ :: _, _, h7, _ => exact absurd (Nat.eq_of_beq_eq_true h7) (by simp)
        | extend =>
          match xs, h6, h7, qs with
          | [x], h6, _, qs => exact so_met1 .extend (by intro z; cases z) qa qs (and_of h6).1 h3 h4
          | [], _, h7, _ => exact (Bool.false_ne_true h7).elim
          | _ :: _ :: _, _, h7, _ => exact absurd (Nat.eq_of_beq_eq_true h7) (by simp)
      exact ⟨q, fun _ => so_pt q rfl⟩
theorem sdL : ∀ (l : L) {T : Tab} {X : Cx} {W : WX} {x : Expr}, Okx T X G W → ckL T l x = true → ∀ al : Bool, PE X x (TX (Zx X W) fun r S => mkL al (evl G l r S))
  | .dis es, T, X, W, x, ok, h, al => by
    cases x with
    | List xs p =>
      obtain ⟨h1, h2⟩ := and_of h
      simp only [evl]
      refine so_dis (sdEs es ok h1).1 fun r S ys S1 e => ?_
      rw [evs_len e, ckEs_len h1]
      have := Nat.le_of_ble_eq_true h2
      omega
    | _ => exact (Bool.false_ne_true h).elim
  | .rep a b, T, X, W, x, ok, h, al => by
    cases x with
    | BinOp x o y p =>
      cases o with
      | Mult =>
        obtain ⟨h1, h2⟩ := and_of h
        simp only [evl]
        exact so_rep (sdE a ok h1).1 (sdE b ok h2).1
      | _ => exact (Bool.false_ne_true h).elim
    | _ => exact (Bool.false_ne_true h).elim
  | .ofl a, T, X, W, x, ok, h, al => by
    match x, h with
    | .Call (.Name f p) [x] [] pos, h =>
      obtain ⟨h1, h⟩ := and_of h
      obtain ⟨h2, h⟩ := and_of h
      obtain ⟨h3, h4⟩ := and_of h
      have e := sEq_eq h1
      subst e
      obtain ⟨g1, m1⟩ := ok.blt h2
      simp only [evl]
      exact so_ofl g1 m1 (sdE a ok h3).1 h4
  | .rng es, T, X, W, x, ok, h, al => by
    match es, x, h with
    | .cons a .nil, .Call (.Name f p) [.Call (.Name r p2) [x] [] pos2] [] pos, h =>
      obtain ⟨h1, h⟩ := and_of h
      obtain ⟨h2, h⟩ := and_of h
      obtain ⟨h3, h⟩ := and_of h
      obtain ⟨h4, h⟩ := and_of h
      obtain ⟨h5, h6⟩ := and_of h
      have e1 := sEq_eq h1
      have e2 := sEq_eq h2
      subst e1 e2
      obtain ⟨g1, m1⟩ := ok.blt h3
      obtain ⟨g2, m2⟩ := ok.blt h4
      have q := so_lrg1 (al := al) ok.calm g1 m1 g2 m2 (sdE a ok h5).1 h6 (p := p) (p2 := p2) (pos2 := pos2) (pos := pos)
      refine PE.of q fun σ H Q ⟨c, r, S, s, e, p⟩ => ⟨c, r, S, s, e, ?_⟩
      simp only [evl, evs] at p
      show Post _ _ (mkL al ((ev G a r S).bnd fun x S1 => .opt (rngD [x]) S1)) _ _ _ _
      cases q1 : ev G a r S with
      | bad => rw [q1] at p; exact p
      | exc nm fl S1 => rw [q1] at p; exact p
      | ok x S1 => rw [q1] at p; exact p
    | .cons a (.cons b .nil), .Call (.Name f p) [.Call (.Name r p2) [x, y] [] pos2] [] pos, h =>
      obtain ⟨h1, h⟩ := and_of h
      obtain ⟨h2, h⟩ := and_of h
      obtain ⟨h3, h⟩ := and_of h
      obtain ⟨h4, h⟩ := and_of h
      obtain ⟨h5, h⟩ := and_of h
      obtain ⟨h6, h⟩ := and_of h
      obtain ⟨h7, h8⟩ := and_of h
      have e1 := sEq_eq h1
      have e2 := sEq_eq h2
      subst e1 e2
      obtain ⟨g1, m1⟩ := ok.blt h3
      obtain ⟨g2, m2⟩ := ok.blt h4
      have q := so_lrg2 (al := al) ok.calm g1 m1 g2 m2 (sdE a ok h5).1 (sdE b ok h7).1 h6 h8 (p := p) (p2 := p2) (pos2 := pos2) (pos := pos)
      refine PE.of q fun σ H Q ⟨c, r, S, s, e, p⟩ => ⟨c, r, S, s, e, ?_⟩
      simp only [evl, evs] at p
      show Post _ _ (mkL al ((ev G a r S).bnd fun x S1 => (ev G b r S1).bnd fun y S2 => .opt (rngD [x, y]) S2)) _ _ _ _
      cases q1 : ev G a r S with
      | bad => rw [q1] at p; exact p
      | exc nm fl S1 => rw [q1] at p; exact p
      | ok x S1 =>
        rw [q1] at p
        show Post _ _ (mkL al ((ev G b r S1).bnd fun y S2 => .opt (rngD [x, y]) S2)) _ _ _ _
        cases q2 : ev G b r S1 with
        | bad => simp only [R.bnd, q2] at p; exact p
        | exc nm fl S2 => simp only [R.bnd, q2] at p; exact p
        | ok y S2 => simp only [R.bnd, q2] at p; exact p
    | .nil, _, h => exact (Bool.false_ne_true h).elim
    | .cons _ (.cons _ (.cons _ _)), _, h => exact (Bool.false_ne_true h).elim
  | .cmp e t it c own, T, X, W, x, ok, h, al => by
    match x, h with
    | .ListComp elt [⟨tg, iter, ifs, k⟩] scope p, h =>
      obtain ⟨h0, h⟩ := and_of h
      obtain ⟨h1, h⟩ := and_of h
      obtain ⟨h2, h⟩ := and_of h
      obtain ⟨h3, h⟩ := and_of h
      obtain ⟨h4, h⟩ := and_of h
      obtain ⟨h5, h6⟩ := and_of h
      have ek := of_decide_eq_true h0
      subst ek
      have bk := bkB_of h1
      rw [← ok.N, ← ok.sc] at bk
      simp only [evl]
      have qi := sdIt it ok h2
      refine so_lc ok.calm ok.nd qi.1 bk (fun s H C cl fp => sdTg t (ok.blk scope bk.kind s H C cl fp) h3) (fun s H C cl fp => sdC c (ok.blk scope bk.kind s H C cl fp) h5) (fun s H C cl fp => (sdE e (ok.blk scope bk.kind s H C cl fp) h6).1) (fun j hj => ?_) qi.2
      obtain ⟨q, hq, hqj⟩ := List.any_eq_true.mp (List.all_eq_true.mp h4 j hj)
      exact List.mem_map.mpr ⟨q, hq, Nat.eq_of_beq_eq_true hqj⟩
  | .cm2 e t1 it1 own1 t2 it2 c own, T, X, W, x, ok, h, al => by
    match x, h with
    | .ListComp elt [⟨tg, iter, [], k⟩, ⟨tg1, iter1, ifs, k1⟩] scope p, h =>
      obtain ⟨h0, h⟩ := and_of h
      obtain ⟨h0', h⟩ := and_of h
      obtain ⟨h1, h⟩ := and_of h
      obtain ⟨h2, h⟩ := and_of h
      obtain ⟨h3, h⟩ := and_of h
      obtain ⟨h4, h⟩ := and_of h
      obtain ⟨h5, h⟩ := and_of h
      obtain ⟨h5', h⟩ := and_of h
      obtain ⟨h6, h⟩ := and_of h
      obtain ⟨h7, h⟩ := and_of h
      obtain ⟨h8, h⟩ := and_of h
      obtain ⟨h9, h10⟩ := and_of h
      have ek := of_decide_eq_true h0
      have ek' := of_decide_eq_true h0'
      subst ek ek'
      have bk := bkB_of h1
      rw [← ok.N, ← ok.sc] at bk
      simp only [evl]
      have qi := sdIt it1 ok h2
      refine so_lc2 ok.calm ok.nd qi.1 bk (fun j hj => ?_) (fun s H C cl fp => sdTg t1 (ok.blk scope bk.kind s H C cl fp) h3) (fun s H C cl fp => (sdIt it2 (ok.blk scope bk.kind s H C cl fp) h5).1) (fun s H C cl fp => sdTg t2 (ok.blk scope bk.kind s H C cl fp) h6) (fun s H C cl fp => sdC c (ok.blk scope bk.kind s H C cl fp) h9)
        (fun s H C cl fp => (sdE e (ok.blk scope bk.kind s H C cl fp) h10).1) (fun j hj => ?_) (fun j hj => ?_) qi.2 (fun env => folded_no h5')
      · obtain ⟨q, hq, hqj⟩ := List.any_eq_true.mp (List.all_eq_true.mp h8 j hj)
        exact List.mem_map.mpr ⟨q, hq, Nat.eq_of_beq_eq_true hqj⟩
      · obtain ⟨q, hq, hqj⟩ := List.any_eq_true.mp (List.all_eq_true.mp h4 j hj)
        exact List.mem_map.mpr ⟨q, hq, Nat.eq_of_beq_eq_true hqj⟩
      · obtain ⟨q, hq, hqj⟩ := List.any_eq_true.mp (List.all_eq_true.mp h7 j hj)
        rw [← Nat.eq_of_beq_eq_true hqj]
        exact hq
theorem sdEs : ∀ (es : Es) {T : Tab} {X : Cx} {W : WX} {xs : List Expr}, Okx T X G W → ckEs T es xs = true → PA X xs (TXs (Zx X W) fun r S => evs G es r S) ∧ True
  | .nil, T, X, W, xs, ok, h => by
    cases xs with
    | nil =>
      simp only [evs]
      exact ⟨so_anil, trivial⟩
    | cons _ _ => exact (Bool.false_ne_true h).elim
  | .cons e es, T, X, W, xs, ok, h => by
    cases xs with
    | nil => exact (Bool.false_ne_true h).elim
    | cons x xs =>
      obtain ⟨h1, h⟩ := and_of h
      obtain ⟨h2, h3⟩ := and_of h
      simp only [evs]
      exact ⟨so_acons (sdE e ok h1).1 (sdEs es ok h3).1 h2, trivial⟩
theorem sdC : ∀ (es : Es) {T : Tab} {X : Cx} {W : WX} {xs : List Expr}, Okx T X G W → ckC T es xs = true → PTs X xs (TXb (Zx X W) fun r S => cnd G es r S)
  | .nil, T, X, W, xs, ok, h => by
    cases xs with
    | nil =>
      simp only [cnd]
      exact so_t0
    | cons _ _ => exact (Bool.false_ne_true h).elim
  | .cons e .nil, T, X, W, xs, ok, h => by
    match xs, h with
    | [x], h =>
      obtain ⟨h1, h2⟩ := and_of h
      simp only [cnd]
      exact so_t1 ((sdE e ok h1).2 h2)
    | [], h => exact (Bool.false_ne_true h).elim
    | _ :: _ :: _, h => exact (Bool.false_ne_true h).elim
  | .cons _ (.cons _ _), T, X, W, xs, ok, h => (Bool.false_ne_true h).elim
theorem sdTg : ∀ (t : Tg) {T : Tab} {X : Cx} {W : WX} {x : Expr}, Okx T X G W → ckTg T t x = true → PG X x (TXa (Zx X W) t.slots fun d r S => asg G t d r S)
  | .nm i, T, X, W, x, ok, h => by
    cases x with
    | Name x p =>
      obtain ⟨h1, h⟩ := and_of h
      obtain ⟨h2, h3⟩ := and_of h
      simp only [asg]
      refine so_gn ok.nd (ok.at_ h1) (ok.loc h2) ?_
      rcases or_of h3 with h3 | h3
      · exact .inl (ok.fn x (.inl h3))
      · rcases or_of h3 with h3 | h3
        · exact .inr (by rw [ok.sc]; exact lclB_of h3)
        · exact .inl (ok.fn x (.inr h3))
    | _ => exact (Bool.false_ne_true h).elim
  | .tp ts, T, X, W, x, ok, h => by
    cases x with
    | Tuple xs k p =>
      obtain ⟨h1, h2⟩ := and_of h
      simp only [asg]
      exact so_gtup ok.calm h2 (sdTgs ts ok h1) (ckTgs_len h1)
    | _ => exact (Bool.false_ne_true h).elim
  | .sub o i, T, X, W, x, ok, h => by
    cases x with
    | Subscript x y p =>
      obtain ⟨h1, h⟩ := and_of h
      obtain ⟨h2, h3⟩ := and_of h
      simp only [asg]
      exact so_gsub (sdE o ok h1).1 (sdE i ok h2).1 h3
    | _ => exact (Bool.false_ne_true h).elim
theorem sdTgs : ∀ (ts : Tgs) {T : Tab} {X : Cx} {W : WX} {xs : List Expr}, Okx T X G W → ckTgs T ts xs = true → PGs X xs (TXas (Zx X W) ts.slots fun d r S => asgs G ts d r S)
  | .nil, T, X, W, xs, ok, h => by
    cases xs with
    | nil => exact PGs.of so_gnil fun v σ H Q ⟨c, r, S, d, s, e, q, p⟩ => ⟨c, r, S, d, s, e, q, by
        cases d with
        | nil => simp only [asgs] at p; exact p
        | cons _ _ => simp only [asgs] at p; exact p⟩
    | cons _ _ => exact (Bool.false_ne_true h).elim
  | .cons t ts, T, X, W, xs, ok, h => by
    cases xs with
    | nil => exact (Bool.false_ne_true h).elim
    | cons x xs =>
      obtain ⟨h1, h⟩ := and_of h
      obtain ⟨h2, h3⟩ := and_of h
      exact PGs.of (so_gcons h2 (sdTg t ok h1) (sdTgs ts ok h3)) fun v σ H Q ⟨c, r, S, d, s, e, q, p⟩ => ⟨c, r, S, d, s, e, q, by
        cases d with
        | nil => simp only [asgs] at p; exact p
        | cons _ _ => simp only [asgs] at p; exact p⟩
theorem sdIt : ∀ (it : It) {T : Tab} {X : Cx} {W : WX} {x tg : Expr}, Okx T X G W → ckIt T it x (isTup tg) = true → PI X tg x (TIx (Zx X W) fun r S => itm G it r S) ∧ (∀ u, foldedSetIterable x X.env u = pure u)
  | .seq e, T, X, W, x, tg, ok, h => by
    obtain ⟨h1, h2⟩ := and_of h
    simp only [itm]
    exact ⟨so_seq (sdE e ok h1).1, folded_no h2⟩
  | .rng es, T, X, W, x, tg, ok, h => by
    match x, h with
    | .Call (.Name f p) xs [] pos, h =>
      obtain ⟨h1, h⟩ := and_of h
      obtain ⟨h2, h⟩ := and_of h
      obtain ⟨h3, h⟩ := and_of h
      obtain ⟨h4, h⟩ := and_of h
      obtain ⟨h5, h6⟩ := and_of h
      have e := sEq_eq h1
      subst e
      obtain ⟨g1, m1⟩ := ok.blt h2
      simp only [itm]
      have l1 := Nat.le_of_ble_eq_true h5
      have l2 := Nat.le_of_ble_eq_true h6
      exact ⟨so_rng g1 m1 (sdEs es ok h3).1 h4 (by omega) fun r S ys S1 e => by rw [evs_len e, ckEs_len h3], folded_no rfl⟩
  | .enm e, T, X, W, x, tg, ok, h => by
    match x, tg, h with
    | .Call (.Name f p) [x] [] pos, .Tuple es k p2, h =>
      obtain ⟨h1, h⟩ := and_of h
      obtain ⟨h2, h⟩ := and_of h
      obtain ⟨h3, h4⟩ := and_of h
      have e1 := sEq_eq h1
      subst e1
      obtain ⟨g1, m1⟩ := ok.blt h2
      simp only [itm]
      exact ⟨so_enmA g1 m1 (sdE e ok h3).1 h4, folded_no rfl⟩
  | .zp a b, T, X, W, x, tg, ok, h => by
    match x, tg, h with
    | .Call (.Name f p) [x, y] [] pos, .Tuple es k p2, h =>
      obtain ⟨h1, h⟩ := and_of h
      obtain ⟨h2, h⟩ := and_of h
      obtain ⟨h3, h⟩ := and_of h
      obtain ⟨h4, h⟩ := and_of h
      obtain ⟨h5, h6⟩ := and_of h
      have e1 := sEq_eq h1
      subst e1
      obtain ⟨g1, m1⟩ := ok.blt h2
      simp only [itm]
      exact ⟨so_zp g1 m1 (sdE a ok h3).1 (sdE b ok h5).1 h4 h6, folded_no rfl⟩
end
end
end RR

set_option Elab.async false
set_option linter.all false
set_option maxRecDepth 100000
set_option maxHeartbeats 4000000
/-! soundness: statements -/
namespace RR
open PySem PySem.Spec PyProof.Rows L2
def isLcl : Option NameKind → Bool
  | some .local => true
  | _ => false
def swn (kf : Str → Option NameKind) (ts : List Expr) : List Str :=
  ts.filterMap fun
    | .Name id pos => if kf id == some .local && pos.line == ((ts.head?.map (·.pos.line)).getD 0) then some id else none
    | _ => none
def swp (kf : Str → Option NameKind) (ts vs : List Expr) : Option (Option (List Str)) :=
  if !(ts.length == 2 || ts.length == 3) || vs.length != ts.length then some none
  else if vs.any (fun | .Starred .. => true | _ => false) then some none
  else if (swn kf ts).length != ts.length || (swn kf ts).eraseDups.length != (swn kf ts).length then some none
  else if vs.all (foldedForSure 8) then some none
  else if vs.all (constantsAlone 8) then none
  else some (some (swn kf ts))
theorem swp_ok {env : PySem.Env} {sc : Scope} {ts vs : List Expr} {k k2 : Nat} {p p2 : Pos} {r : Option (List Str)} (hsc : env.scope = sc) (hk : env.scope.kind = .function) (h : swp (kd sc) ts vs = some r) : swappedStores [.Tuple ts k p] (.Tuple vs k2 p2) env = pure r := by
  have hb : env.blockKind = .function := by unfold Env.blockKind; rw [hk]; rfl
  have hkd : kd sc = fun id => env.kindOf id := by
    funext id
    rw [kd_eq, ← hsc]
    rfl
  rw [hkd] at h
  unfold swp at h
  show (if (!(ts.length == 2 || ts.length == 3) || vs.length != ts.length || env.blockKind != .function) = true then (pure none : Sem (Option (List Str))) else
    if (vs.any (fun | .Starred .. => true | _ => false)) = true then pure none else
      if ((swn (fun id => env.kindOf id) ts).length != ts.length || (swn (fun id => env.kindOf id) ts).eraseDups.length != (swn (fun id => env.kindOf id) ts).length) = true then pure none else
        if vs.all (foldedForSure 8) = true then pure none else
          if vs.all (constantsAlone 8) = true then (unsupported "assign.tuple-of-constant-expressions:order-of-the-stores" >>= fun _ => pure (some (swn (fun id => env.kindOf id) ts))) else pure (some (swn (fun id => env.kindOf id) ts))) = _
  have hne : (env.blockKind != ScopeKind.function) = false := by rw [hb]; rfl
  rw [hne, Bool.or_false]
  split at h
  · rename_i h1
    cases h
    rw [if_pos h1]
  · rename_i h1
    rw [if_neg h1]
    split at h
    · rename_i h2
      cases h
      rw [if_pos h2]
    · rename_i h2
      rw [if_neg h2]
      split at h
      · rename_i h3
        cases h
        rw [if_pos h3]
      · rename_i h3
        rw [if_neg h3]
        split at h
        · rename_i h4
          cases h
          rw [if_pos h4]
        · rename_i h4
          rw [if_neg h4]
          split at h
          · cases h
          · rename_i h5
            cases h
            rw [if_neg h5]
def isTupE : E → Bool
  | .tup _ => true
  | _ => false
def parB (T : Tab) (names : List Str) : Tg → List Expr → List Expr → Bool
  | .tp (.cons (.nm i) (.cons (.nm j) .nil)), [.Name x _, .Name y _], [_, _] => (sEqL names [x, y]).and ((lclB T.sc x).and ((lclB T.sc y).and ((atS T.N i x).and ((atS T.N j y).and (!Nat.beq i j)))))
  | .tp (.cons (.nm i) (.cons (.nm j) (.cons (.nm l) .nil))), [.Name x _, .Name y _, .Name z _], [_, _, _] => (sEqL names [x, y, z]).and ((lclB T.sc x).and ((lclB T.sc y).and ((lclB T.sc z).and ((atS T.N i x).and ((atS T.N j y).and ((atS T.N l z).and ((!Nat.beq i j).and ((!Nat.beq i l).and (!Nat.beq j l)))))))))
  | _, _, _ => false
def ownS (scope : Scope) (y : Str) : Bool := scope.names.any fun p => (sEq p.1 y).and (match p.2 with
  | .local => true
  | .cell => true
  | _ => false)
def swB (sc : Scope) (y : Str) (py p : Pos) (scope : Scope) : Bool := (lclB sc y).and ((py.line == p.line).and (!ownS scope y))
inductive Rt where | gen | par (names : List Str) | lc | bad
def rt (T : Tab) (tg x : Expr) : Rt := match tg, x with
  | .Tuple ts _ _, .Tuple vs _ _ => (match swp (kd T.sc) ts vs with
    | some none => .gen
    | some (some names) => .par names
    | none => .bad)
  | .Name y py, .ListComp _ _ scope p => bif swB T.sc y py p scope then .lc else .gen
  | .Name _ _, x => bif noLc x then .gen else .bad
  | .Tuple _ _ _, _ => .gen
  | .Subscript _ _ _, _ => .gen
  | _, _ => .bad
def isCmp : E → Bool
  | .fr _ (.cmp _ _ _ _ _) => true
  | _ => false
def asgB (T : Tab) (t : Tg) (e : E) (tg x : Expr) : Bool := match rt T tg x with
  | .gen => true
  | .par names => (match tg, x with
    | .Tuple ts _ _, .Tuple vs _ _ => (isTupE e).and (parB T names t ts vs)
    | _, _ => false)
  | .lc => isCmp e
  | .bad => false
def isRai : Stmt → Option Str
  | .Raise (some (.Call (.Name x _) [] [] _)) none _ => some x
  | _ => none
theorem isRai_of {st : Stmt} {x : Str} (h : isRai st = some x) : ∃ p p2 p3, st = .Raise (some (.Call (.Name x p) [] [] p2)) none p3 := by
  unfold isRai at h
  split at h
  · cases h; exact ⟨_, _, _, rfl⟩
  · cases h
def isHnd : List ExceptHandler → Option (Str × Str)
  | [.ExceptHandler (some (.Name x _)) none [.Return (some (.Constant (.str y) _ _)) _] _] => some (x, y)
  | _ => none
theorem isHnd_of {hs : List ExceptHandler} {q : Str × Str} (h : isHnd hs = some q) : ∃ p1 j p2 p3 p4, hs = [.ExceptHandler (some (.Name q.1 p1)) none [.Return (some (.Constant (.str q.2) j p2)) p3] p4] := by
  unfold isHnd at h
  split at h
  · cases h; exact ⟨_, _, _, _, _, rfl⟩
  · cases h
def isTrs : Stmt → Option (List Stmt × Str × Str)
  | .Try body hs [] [] _ => (isHnd hs).map fun q => (body, q.1, q.2)
  | _ => none
theorem isTrs_of {st : Stmt} {q : List Stmt × Str × Str} (h : isTrs st = some q) : ∃ p1 j p2 p3 p4 p5, st = .Try q.1 [.ExceptHandler (some (.Name q.2.1 p1)) none [.Return (some (.Constant (.str q.2.2) j p2)) p3] p4] [] [] p5 := by
  unfold isTrs at h
  split at h
  · obtain ⟨w, hw, rfl⟩ := Option.map_eq_some_iff.mp h
    obtain ⟨p1, j, p2, p3, p4, rfl⟩ := isHnd_of hw
    exact ⟨_, _, _, _, _, _, rfl⟩
  · cases h
def isAug : Stmt → Option (Expr × Expr × Expr)
  | .AugAssign (.Subscript x y _) .Add z _ => some (x, y, z)
  | _ => none
theorem isAug_of {st : Stmt} {q : Expr × Expr × Expr} (h : isAug st = some q) : ∃ p1 p2, st = .AugAssign (.Subscript q.1 q.2.1 p1) .Add q.2.2 p2 := by
  unfold isAug at h
  split at h
  · cases h; exact ⟨_, _, rfl⟩
  · cases h
def isAsg : Stmt → Option (Expr × Expr)
  | .Assign [tg] x _ => some (tg, x)
  | _ => none
theorem isAsg_of {st : Stmt} {q : Expr × Expr} (h : isAsg st = some q) : ∃ p, st = .Assign [q.1] q.2 p := by
  unfold isAsg at h
  split at h
  · cases h; exact ⟨_, rfl⟩
  · cases h
def isExp : Stmt → Option Expr
  | .Expr x _ => some x
  | _ => none
theorem isExp_of {st : Stmt} {q : Expr} (h : isExp st = some q) : ∃ p, st = .Expr q p := by
  unfold isExp at h
  split at h
  · cases h; exact ⟨_, rfl⟩
  · cases h
def isIf : Stmt → Option (Expr × List Stmt × List Stmt)
  | .If x as bs _ => some (x, as, bs)
  | _ => none
theorem isIf_of {st : Stmt} {q : Expr × List Stmt × List Stmt} (h : isIf st = some q) : ∃ p, st = .If q.1 q.2.1 q.2.2 p := by
  unfold isIf at h
  split at h
  · cases h; exact ⟨_, rfl⟩
  · cases h
def isFor : Stmt → Option (Expr × Expr × List Stmt)
  | .For tg iter body [] _ => some (tg, iter, body)
  | _ => none
theorem isFor_of {st : Stmt} {q : Expr × Expr × List Stmt} (h : isFor st = some q) : ∃ p, st = .For q.1 q.2.1 q.2.2 [] p := by
  unfold isFor at h
  split at h
  · cases h; exact ⟨_, rfl⟩
  · cases h
def isWhl : Stmt → Option (Expr × List Stmt)
  | .While x body [] _ => some (x, body)
  | _ => none
theorem isWhl_of {st : Stmt} {q : Expr × List Stmt} (h : isWhl st = some q) : ∃ p, st = .While q.1 q.2 [] p := by
  unfold isWhl at h
  split at h
  · cases h; exact ⟨_, rfl⟩
  · cases h
def isRet : Stmt → Option (Option Expr)
  | .Return x _ => some x
  | _ => none
theorem isRet_of {st : Stmt} {q : Option Expr} (h : isRet st = some q) : ∃ p, st = .Return q p := by
  unfold isRet at h
  split at h
  · cases h; exact ⟨_, rfl⟩
  · cases h
def isPas : Stmt → Bool
  | .Pass _ => true
  | .Expr (.Constant (.str _) _ _) _ => true
  | _ => false
theorem isPas_of {st : Stmt} (h : isPas st = true) : (∃ p, st = .Pass p) ∨ ∃ x j p p2, st = .Expr (.Constant (.str x) j p) p2 := by
  unfold isPas at h
  split at h
  · exact .inl ⟨_, rfl⟩
  · exact .inr ⟨_, _, _, _, rfl⟩
  · cases h
def isBrk : Stmt → Bool
  | .Break _ => true
  | _ => false
theorem isBrk_of {st : Stmt} (h : isBrk st = true) : ∃ p, st = .Break p := by
  unfold isBrk at h
  split at h
  · exact ⟨_, rfl⟩
  · cases h
def isCnt : Stmt → Bool
  | .Continue _ => true
  | _ => false
theorem isCnt_of {st : Stmt} (h : isCnt st = true) : ∃ p, st = .Continue p := by
  unfold isCnt at h
  split at h
  · exact ⟨_, rfl⟩
  · cases h
def oB {α : Type} (o : Option α) (f : α → Bool) : Bool := match o with
  | some q => f q
  | none => false
mutual
def ckS (T : Tab) (st : Stmt) : Sm → Bool
  | .asg t e => oB (isAsg st) fun q => (ckTg T t q.1).and ((ckE T e q.2).and ((noStar q.1).and (asgB T t e q.1 q.2)))
  | .exp e => oB (isExp st) fun x => (ckE T e x).and (noLc x)
  | .iff c a b => oB (isIf st) fun q => (ckE T c q.1).and ((testE c q.1).and ((ckSs T q.2.1 a).and (ckSs T q.2.2 b)))
  | .for_ t it b => oB (isFor st) fun q => (ckIt T it q.2.1 (isTup q.1)).and ((ckTg T t q.1).and (ckSs T q.2.2 b))
  | .whl c b => oB (isWhl st) fun q => (ckE T c q.1).and ((testE c q.1).and (ckSs T q.2 b))
  | .ret e => (match isRet st with
    | some (some x) => ckE T e x
    | _ => false)
  | .retn => (match isRet st with
    | some none => true
    | _ => false)
  | .pas => isPas st
  | .brk => isBrk st
  | .cnt => isCnt st
  | .bot => true
  | .fgt _ => false
  | .rai c ns es => oB (isRai st) fun x => (ns.isEmpty).and ((es.isNil).and ((sEq x c).and ((memS T.exc x).and ((glbB T.sc x).and (nodb x)))))
  | .trs b c z => oB (isTrs st) fun q => (sEq q.2.1 c).and ((sEq q.2.2 z).and ((memS T.exc q.2.1).and ((glbB T.sc q.2.1).and ((nodb q.2.1).and (ckSs T q.1 b)))))
  | .aug o i e => oB (isAug st) fun q => (ckE T o q.1).and ((ckE T i q.2.1).and ((noSlice q.2.1).and (ckE T e q.2.2)))
def ckSs (T : Tab) (xs : List Stmt) : Sms → Bool
  | .nil => xs.isEmpty
  | .cons s ss => (match s with
    | .fgt _ => ckSs T xs ss
    | s => (match xs with
      | [] => false
      | x :: xs => (ckS T x s).and (ckSs T xs ss)))
end
section
variable {G : List Fn}
theorem kindOf_eq {env : PySem.Env} {sc : Scope} {y : Str} (hsc : env.scope = sc) : env.kindOf y = kd sc y := by
  rw [kd_eq, ← hsc]; rfl
theorem ownS_eq {scope : Scope} {y : Str} : (scope.names.any fun (n, k) => n == y && (k == .local || k == .cell)) = ownS scope y := by
  unfold ownS
  congr 1
  funext ⟨n, k⟩
  show (n == y && (k == .local || k == .cell)) = (sEq n y).and _
  have h1 : (n == y) = sEq n y := by
    by_cases e : n = y
    · rw [sEq_iff.mpr e]; simpa using e
    · cases q : sEq n y with
      | true => exact absurd (sEq_eq q) e
      | false => simpa using e
  rw [h1]
  cases k <;> first | rfl | (cases sEq n y <;> rfl)
theorem swaps_lc {env : PySem.Env} {sc : Scope} {elt : Expr} {gs : List Comprehension} {scope : Scope} {y : Str} {py p : Pos} {l : Nat} (hsc : env.scope = sc) (hk : env.scope.kind = .function) :
    swapsWith (.ListComp elt gs scope p) (some (.Name y py)) l env = pure (swB sc y py p scope) := by
  have hb : env.blockKind = .function := by unfold Env.blockKind; rw [hk]; rfl
  unfold swapsWith
  simp only [hb, kindOf_eq hsc, ownS_eq, Expr.pos]
  unfold swB lclB
  cases q : kd sc y with
  | none => rfl
  | some k =>
    cases k <;> first | rfl | (cases (py.line == p.line) <;> cases ownS scope y <;> rfl)
theorem rt_gen {T : Tab} {X : Cx} {W : WX} {tg x : Expr} {l : Nat} (ok : Okx T X G W) (h : rt T tg x = .gen) : swapsWithSole [tg] x l X.env = pure false ∧ swappedStores [tg] x X.env = pure none := by
  cases tg with
  | Name y py =>
    cases x with
    | ListComp elt gs scope p =>
      refine ⟨?_, rfl⟩
      have h : (bif swB T.sc y py p scope then Rt.lc else Rt.gen) = Rt.gen := h
      rw [show swapsWithSole [.Name y py] (.ListComp elt gs scope p) l X.env = swapsWith (.ListComp elt gs scope p) (some (.Name y py)) l X.env by unfold swapsWithSole; rfl, swaps_lc ok.sc ok.kind]
      cases q : swB T.sc y py p scope with
      | true => rw [q] at h; cases h
      | false => rfl
    | _ => first | exact ⟨rfl, rfl⟩ | cases h
  | Tuple ts k p =>
    refine ⟨?_, ?_⟩
    · cases x <;> rfl
    · cases x with
      | Tuple vs k2 p2 =>
        have h : (match swp (kd T.sc) ts vs with
          | some none => Rt.gen
          | some (some names) => .par names
          | none => .bad) = Rt.gen := h
        cases q : swp (kd T.sc) ts vs with
        | none => rw [q] at h; cases h
        | some r =>
          cases r with
          | none => exact swp_ok ok.sc ok.kind q
          | some _ => rw [q] at h; cases h
      | _ => rfl
  | Subscript o i p => exact ⟨by cases x <;> rfl, by cases x <;> rfl⟩
  | _ => cases h
theorem beq_ne {i j : Nat} (h : (!Nat.beq i j) = true) : i ≠ j := fun e => by
  subst e
  rw [Nat.beq_refl] at h; cases h
theorem rt_lc {T : Tab} {tg x : Expr} (h : rt T tg x = .lc) : ∃ y py elt gs scope p, tg = .Name y py ∧ x = .ListComp elt gs scope p ∧ swB T.sc y py p scope = true := by
  cases tg with
  | Name y py =>
    cases x with
    | ListComp elt gs scope p =>
      refine ⟨y, py, elt, gs, scope, p, rfl, rfl, ?_⟩
      have q : (bif swB T.sc y py p scope then Rt.lc else Rt.gen) = Rt.lc := h
      cases z : swB T.sc y py p scope with
      | true => rfl
      | false => rw [z] at q; cases q
    | _ => cases h
  | Tuple ts k p =>
    cases x with
    | Tuple vs k2 p2 =>
      have q : (match swp (kd T.sc) ts vs with
          | some none => Rt.gen
          | some (some names) => .par names
          | none => .bad) = Rt.lc := h
      split at q <;> cases q
    | _ => cases h
  | Subscript o i p => cases x <;> cases h
  | _ => cases h
theorem rt_par {T : Tab} {tg x : Expr} {names : List Str} (h : rt T tg x = .par names) : ∃ ts k p vs k2 p2, tg = .Tuple ts k p ∧ x = .Tuple vs k2 p2 ∧ swp (kd T.sc) ts vs = some (some names) := by
  cases tg with
  | Name y py =>
    cases x with
    | ListComp elt gs scope p =>
      have q : (bif swB T.sc y py p scope then Rt.lc else Rt.gen) = Rt.par names := h
      cases z : swB T.sc y py p scope with
      | true => rw [z] at q; cases q
      | false => rw [z] at q; cases q
    | _ => cases h
  | Tuple ts k p =>
    cases x with
    | Tuple vs k2 p2 =>
      have q : (match swp (kd T.sc) ts vs with
          | some none => Rt.gen
          | some (some names) => .par names
          | none => .bad) = Rt.par names := h
      refine ⟨ts, k, p, vs, k2, p2, rfl, rfl, ?_⟩
      cases z : swp (kd T.sc) ts vs with
      | none => rw [z] at q; cases q
      | some r =>
        rw [z] at q
        cases r with
        | none => cases q
        | some nms => cases q; rfl
    | _ => cases h
  | Subscript o i p => cases x <;> cases h
  | _ => cases h
theorem parB_two {T : Tab} {names : List Str} {t : Tg} {ts vs : List Expr} (h : parB T names t ts vs = true) :
    (∃ i j x y px py a b, t = .tp (.cons (.nm i) (.cons (.nm j) .nil)) ∧ ts = [.Name x px, .Name y py] ∧ vs = [a, b] ∧ names = [x, y] ∧ lclB T.sc x = true ∧ lclB T.sc y = true ∧ atS T.N i x = true ∧ atS T.N j y = true ∧ i ≠ j) ∨
    (∃ i j l x y z px py pz a b d, t = .tp (.cons (.nm i) (.cons (.nm j) (.cons (.nm l) .nil))) ∧ ts = [.Name x px, .Name y py, .Name z pz] ∧ vs = [a, b, d] ∧ names = [x, y, z] ∧ lclB T.sc x = true ∧ lclB T.sc y = true ∧ lclB T.sc z = true ∧ atS T.N i x = true ∧ atS T.N j y = true ∧ atS T.N l z = true ∧
      i ≠ j ∧ i ≠ l ∧ j ≠ l) := by
  unfold parB at h
  split at h
  · obtain ⟨b1, h⟩ := and_of h
    obtain ⟨b2, h⟩ := and_of h
    obtain ⟨b3, h⟩ := and_of h
    obtain ⟨b4, h⟩ := and_of h
    obtain ⟨b5, b6⟩ := and_of h
    exact .inl ⟨_, _, _, _, _, _, _, _, rfl, rfl, rfl, sEqL_eq b1, b2, b3, b4, b5, beq_ne b6⟩
  · obtain ⟨b1, h⟩ := and_of h
    obtain ⟨b2, h⟩ := and_of h
    obtain ⟨b3, h⟩ := and_of h
    obtain ⟨b3', h⟩ := and_of h
    obtain ⟨b4, h⟩ := and_of h
    obtain ⟨b5, h⟩ := and_of h
    obtain ⟨b5', h⟩ := and_of h
    obtain ⟨b6, h⟩ := and_of h
    obtain ⟨b7, b8⟩ := and_of h
    exact .inr ⟨_, _, _, _, _, _, _, _, _, _, _, _, rfl, rfl, rfl, sEqL_eq b1, b2, b3, b3', b4, b5, b5', beq_ne b6, beq_ne b7, beq_ne b8⟩
  · cases h
theorem isTupE_of {e : E} (h : isTupE e = true) : ∃ es, e = .tup es := by
  cases e <;> first | exact ⟨_, rfl⟩ | cases h
theorem isCmp_of {e : E} (h : isCmp e = true) : ∃ al e1 t1 it c own, e = .fr al (.cmp e1 t1 it c own) := by
  cases e with
  | fr al l => cases l <;> first | exact ⟨_, _, _, _, _, _, rfl⟩ | cases h
  | _ => cases h
theorem sdAsg {T : Tab} {X : Cx} {W : WX} {t : Tg} {e : E} {tg x : Expr} {p : Pos} (ok : Okx T X G W) (h1 : ckTg T t tg = true) (h2 : ckE T e x = true) (h3 : noStar tg = true) (h4 : asgB T t e tg x = true) :
    PS X (.Assign [tg] x p) (TXf (Zx X W) fun r S => (ev G e r S).fl r fun x S1 => (asg G t x r S1).nx.fl r fun r1 S2 => .next r1 S2) := by
  unfold asgB at h4
  cases q : rt T tg x with
  | bad => rw [q] at h4; exact (Bool.false_ne_true h4).elim
  | gen =>
    obtain ⟨g1, g2⟩ := rt_gen (l := p.line) ok q
    exact so_asg (sdE e ok h2).1 (sdTg t ok h1) g1 g2 h3
  | lc =>
    rw [q] at h4
    obtain ⟨al, e1, t1, it, c, own, rfl⟩ := isCmp_of (show isCmp e = true from h4)
    obtain ⟨y, py, elt, gs, scope, p1, rfl, rfl, hs⟩ := rt_lc q
    match gs, h2 with
    | [⟨tg1, iter, ifs, k⟩], h2 =>
      have h : ckL T (.cmp e1 t1 it c own) (.ListComp elt [⟨tg1, iter, ifs, k⟩] scope p1) = true := h2
      obtain ⟨h0, h⟩ := and_of h
      obtain ⟨k1, h⟩ := and_of h
      obtain ⟨k2, h⟩ := and_of h
      obtain ⟨k3, h⟩ := and_of h
      obtain ⟨k4, h⟩ := and_of h
      obtain ⟨k5, k6⟩ := and_of h
      have ek := of_decide_eq_true h0
      subst ek
      have bk := bkB_of k1
      rw [← ok.N, ← ok.sc] at bk
      have qi := sdIt it ok k2
      obtain ⟨hl, _⟩ := and_of hs
      match t, h1 with
      | .nm i, hT =>
        obtain ⟨a1, _⟩ := and_of hT
        simp only [ev, evl, asg]
        refine so_setLc ok.calm ok.nd (ok.at_ a1) (by rw [ok.sc]; exact lclB_of hl) (by rw [swaps_lc ok.sc ok.kind, hs]) qi.1 bk (fun s H C cl fp => sdTg t1 (ok.blk scope bk.kind s H C cl fp) k3) (fun s H C cl fp => sdC c (ok.blk scope bk.kind s H C cl fp) k5) (fun s H C cl fp => (sdE e1 (ok.blk scope bk.kind s H C cl fp) k6).1) (fun j hj => ?_) qi.2
        obtain ⟨q, hq, hqj⟩ := List.any_eq_true.mp (List.all_eq_true.mp k4 j hj)
        exact List.mem_map.mpr ⟨q, hq, Nat.eq_of_beq_eq_true hqj⟩
      | .tp _, hT => exact (Bool.false_ne_true hT).elim
      | .sub _ _, hT => exact (Bool.false_ne_true hT).elim
    | [], h2 => exact (Bool.false_ne_true h2).elim
    | ⟨_, _, _, _⟩ :: ⟨_, _, _, _⟩ :: _, h2 => exact (Bool.false_ne_true h2).elim
  | par names =>
    rw [q] at h4
    obtain ⟨ts, k, p1, vs, k2, p2, rfl, rfl, z⟩ := rt_par q
    obtain ⟨h5, h6⟩ := and_of (show (isTupE e).and (parB T names t ts vs) = true from h4)
    obtain ⟨es, rfl⟩ := isTupE_of h5
    have hw := swp_ok (k := k) (k2 := k2) (p := p1) (p2 := p2) ok.sc ok.kind z
    obtain ⟨c1, _⟩ := and_of (show (ckEs T es vs).and (Nat.ble vs.length 1000) = true from h2)
    simp only [ev]
    rcases parB_two h6 with ⟨i, j, x, y, px, py, a, b, rfl, rfl, rfl, rfl, b2, b3, b4, b5, b6⟩ | ⟨i, j, l, x, y, z, px, py, pz, a, b, d, rfl, rfl, rfl, rfl, b2, b3, b3', b4, b5, b5', b6, b7, b8⟩
    · refine so_par ok.calm ok.nd (ok.at_ b4) (ok.at_ b5) b6 (by rw [ok.sc]; exact lclB_of b2) (by rw [ok.sc]; exact lclB_of b3) (sdEs es ok c1).1 hw (fun u w r S => ?_) fun xs r S hx => ?_
      · simp only [asg, asgs, Tgs.len, List.length_cons, List.length_nil, R.bnd]; rfl
      · simp only [asg, Tgs.len]; exact if_neg hx
    · refine so_par3 ok.calm ok.nd (ok.at_ b4) (ok.at_ b5) (ok.at_ b5') b6 b7 b8 (by rw [ok.sc]; exact lclB_of b2) (by rw [ok.sc]; exact lclB_of b3) (by rw [ok.sc]; exact lclB_of b3') (sdEs es ok c1).1 hw (fun u v w r S => ?_) fun xs r S hx => ?_
      · simp only [asg, asgs, Tgs.len, List.length_cons, List.length_nil, R.bnd]; rfl
      · simp only [asg, Tgs.len]; exact if_neg hx
/-- how a statement's frame stands -/
def Psx (X : Cx) : Prop := PassesOwn (model X.prog X.w) X.A X.env X.xe ∧ X.stack = X.env :: X.outer ∧ X.env.frame = some X.env.locals
theorem none_no {α : Type} {f : α → Bool} {o : Option α} (h : oB o f = true) : ∃ q, o = some q ∧ f q = true := by
  cases o with
  | none => cases h
  | some q => exact ⟨q, rfl, h⟩
mutual
theorem sdS : ∀ (s : Sm) {T : Tab} {X : Cx} {W : WX} {x : Stmt}, Okx T X G W → Psx X → ckS T x s = true → PS X x (TXf (Zx X W) fun r S => ex G s r S)
  | .asg t e, T, X, W, x, ok, hp, h => by
    rw [ckS] at h
    obtain ⟨q, q0, h⟩ := none_no h
    obtain ⟨p, rfl⟩ := isAsg_of q0
    obtain ⟨h1, h⟩ := and_of h
    obtain ⟨h2, h⟩ := and_of h
    obtain ⟨h3, h4⟩ := and_of h
    simp only [ex]
    exact sdAsg ok h1 h2 h3 h4
  | .exp e, T, X, W, x, ok, hp, h => by
    rw [ckS] at h
    obtain ⟨q, q0, h⟩ := none_no h
    obtain ⟨p, rfl⟩ := isExp_of q0
    obtain ⟨h1, h2⟩ := and_of h
    simp only [ex]
    exact so_exp (sdE e ok h1).1 h2
  | .iff c a b, T, X, W, x, ok, hp, h => by
    rw [ckS] at h
    obtain ⟨q, q0, h⟩ := none_no h
    obtain ⟨p, rfl⟩ := isIf_of q0
    obtain ⟨h1, h⟩ := and_of h
    obtain ⟨h2, h⟩ := and_of h
    obtain ⟨h3, h4⟩ := and_of h
    simp only [ex]
    exact so_iff ((sdE c ok h1).2 h2) (sdSs a ok hp h3) (sdSs b ok hp h4)
  | .for_ t it b, T, X, W, x, ok, hp, h => by
    rw [ckS] at h
    obtain ⟨q, q0, h⟩ := none_no h
    obtain ⟨p, rfl⟩ := isFor_of q0
    obtain ⟨h1, h⟩ := and_of h
    obtain ⟨h2, h3⟩ := and_of h
    have qi := sdIt it ok h1
    simp only [ex]
    exact so_for hp.1 ok.calm qi.1 (sdTg t ok h2) (sdSs b ok hp h3) qi.2
  | .whl c b, T, X, W, x, ok, hp, h => by
    rw [ckS] at h
    obtain ⟨q, q0, h⟩ := none_no h
    obtain ⟨p, rfl⟩ := isWhl_of q0
    obtain ⟨h1, h⟩ := and_of h
    obtain ⟨h2, h3⟩ := and_of h
    simp only [ex]
    exact so_whl hp.1 ((sdE c ok h1).2 h2) (sdSs b ok hp h3)
  | .ret e, T, X, W, x, ok, hp, h => by
    rw [ckS] at h
    cases q0 : isRet x with
    | none => rw [q0] at h; cases h
    | some o =>
      cases o with
      | none => rw [q0] at h; cases h
      | some y =>
        rw [q0] at h
        obtain ⟨p, rfl⟩ := isRet_of q0
        simp only [ex]
        exact so_ret (sdE e ok h).1
  | .retn, T, X, W, x, ok, hp, h => by
    rw [ckS] at h
    cases q0 : isRet x with
    | none => rw [q0] at h; cases h
    | some o =>
      cases o with
      | some y => rw [q0] at h; cases h
      | none =>
        obtain ⟨p, rfl⟩ := isRet_of q0
        simp only [ex]
        exact so_retn
  | .rai c ns es, T, X, W, x, ok, hp, h => by
    rw [ckS] at h
    obtain ⟨y, q, h⟩ := none_no h
    obtain ⟨p, p2, p3, rfl⟩ := isRai_of q
    obtain ⟨g1, h⟩ := and_of h
    obtain ⟨g2, h⟩ := and_of h
    obtain ⟨h1, h⟩ := and_of h
    obtain ⟨h2, h⟩ := and_of h
    obtain ⟨h3, h4⟩ := and_of h
    obtain ⟨n1, n2, n3⟩ := nodb_of h4
    have e := sEq_eq h1
    subst e
    have e1 : ns = [] := by cases ns <;> first | rfl | cases g1
    have e2 : es = .nil := by cases es <;> first | rfl | cases g2
    subst e1 e2
    obtain ⟨E⟩ := ok.exc _ h2
    simp only [ex, evs]
    refine PS.of (so_rai ok.calm ok.tk E (ok.gl h3) n1 (pos := p2) (p := p)) fun D σ H ⟨c, r, S, s, e, p⟩ => ⟨c, r, S, s, e, ?_⟩
    have p : PostF (Zx X W) (if ([] : List Str).length = ([] : List RR.D).length then Fl.exc y (([] : List Str).zip []) r S else .bad) c H D := p
    have e0 : (if ([] : List Str).length = ([] : List RR.D).length then Fl.exc y (([] : List Str).zip ([] : List RR.D)) r S else .bad) = Fl.exc y [] r S := if_pos rfl
    rw [e0] at p
    exact p
  | .bot, T, X, W, x, ok, hp, h => by
    simp only [ex]
    exact so_botS
  | .fgt _, T, X, W, x, ok, hp, h => by rw [ckS] at h; cases h
  | .trs b c z, T, X, W, x, ok, hp, h => by
    rw [ckS] at h
    obtain ⟨q, q0, h⟩ := none_no h
    obtain ⟨p1, j, p2, p3, p4, p5, rfl⟩ := isTrs_of q0
    obtain ⟨body, x, y⟩ := q
    obtain ⟨h1, h⟩ := and_of h
    obtain ⟨h2, h⟩ := and_of h
    obtain ⟨h3, h⟩ := and_of h
    obtain ⟨h4, h⟩ := and_of h
    obtain ⟨h5, h6⟩ := and_of h
    obtain ⟨n1, n2, n3⟩ := nodb_of h5
    have e1 : x = c := sEq_eq h1
    have e2 : y = z := sEq_eq h2
    subst e1 e2
    obtain ⟨E⟩ := ok.exc x h3
    simp only [ex]
    exact so_trs hp.2.1 hp.2.2 E (ok.gl h4) n1 ok.tk fun W' pn xe tk' po => sdSs b (T := T) (W := W') ⟨ok.N, ok.sc, ok.kind, ok.calm, ok.nd, ok.un, ok.gd, ok.fn, ok.non, ok.conI, ok.conS, ok.fns, tk', fun x h => (ok.exc x h).elim fun E => ⟨⟨E.C, E.mg, E.ex, E.kp, E.su, E.ty, E.me⟩⟩⟩ ⟨po, hp.2.1, hp.2.2⟩ h6
  | .aug o i e, T, X, W, x, ok, hp, h => by
    rw [ckS] at h
    obtain ⟨q, q0, h⟩ := none_no h
    obtain ⟨p1, p2, rfl⟩ := isAug_of q0
    obtain ⟨h1, h⟩ := and_of h
    obtain ⟨h2, h⟩ := and_of h
    obtain ⟨h3, h4⟩ := and_of h
    simp only [ex]
    exact so_aug (sdE o ok h1).1 (sdE i ok h2).1 (sdE e ok h4).1 h3
  | .pas, T, X, W, x, ok, hp, h => by
    rw [ckS] at h
    simp only [ex]
    rcases isPas_of h with ⟨p, rfl⟩ | ⟨z, j, p, p2, rfl⟩
    · exact so_pas
    · exact so_doc
  | .brk, T, X, W, x, ok, hp, h => by
    rw [ckS] at h
    obtain ⟨p, rfl⟩ := isBrk_of h
    simp only [ex]
    exact so_brk
  | .cnt, T, X, W, x, ok, hp, h => by
    rw [ckS] at h
    obtain ⟨p, rfl⟩ := isCnt_of h
    simp only [ex]
    exact so_cnt
theorem sdSs : ∀ (ss : Sms) {T : Tab} {X : Cx} {W : WX} {xs : List Stmt}, Okx T X G W → Psx X → ckSs T xs ss = true → PSs X xs (TXf (Zx X W) fun r S => exs G ss r S)
  | .nil, T, X, W, xs, ok, hp, h => by
    rw [ckSs] at h
    cases xs with
    | nil =>
      simp only [exs]
      exact so_nil
    | cons _ _ => cases h
  | .cons s ss, T, X, W, xs, ok, hp, h => by
    unfold ckSs at h
    split at h
    · rename_i is
      simp only [exs, ex]
      exact so_fgt (sdSs ss ok hp h)
    · split at h
      · cases h
      · rename_i x xs
        obtain ⟨h1, h2⟩ := and_of h
        simp only [exs]
        exact so_seqS (sdS s ok hp h1) (sdSs ss ok hp h2)
end
end
end RR

set_option Elab.async false
set_option linter.all false
set_option maxRecDepth 100000
set_option maxHeartbeats 4000000
/-! defs of the row; a law's end -/
namespace RR
open PySem PySem.Spec PyProof.Rows L2
/-- a def's own check -/
def fnB (T : Tab) (ps : List Str) (body : List Stmt) (F : FnI) : Bool := (scB T.N ps T.sc).and ((Nat.beq T.N.length F.ns).and ((Nat.beq ps.length F.np).and ((Nat.ble F.np F.ns).and ((T.top).and (ckSs T body F.body)))))
/-- what is known of a name's def -/
structure Def (P : Program) (w : World) (K : PySem.W.Frag) (mg : Str → Option Value) (base : Heap) (k : Nat) (x : Str) (g : Fn) : Prop where
  ex : ∃ f fd ps, mg x = some (.ref f) ∧ PySem.W.keepIn K (.ref f) = true ∧ Binds K fd ps [] ∧ MyFn P w K mg base k f fd ps g
theorem Def.mono {P : Program} {w : World} {K : PySem.W.Frag} {mg : Str → Option Value} {base : Heap} {j k : Nat} {x : Str} {g : Fn} (d : Def P w K mg base j x g) (h : j ≤ k) : Def P w K mg base k x g := by
  obtain ⟨f, fd, ps, h1, h2, h3, F⟩ := d.ex
  exact ⟨f, fd, ps, h1, h2, h3, F.mono h⟩
def fnsOk (P : Program) (w : World) (K : PySem.W.Frag) (mg : Str → Option Value) (base : Heap) (k : Nat) (G : List Fn) (fns : List (Str × Nat)) : Prop := ∀ q ∈ fns, ∃ g, G[q.2]? = some g ∧ Def P w K mg base k q.1 g
/-- the classes of errors -/
def excsOk (K : PySem.W.Frag) (mg : Str → Option Value) (l : List Str) : Prop := ∀ x ∈ l, ∃ C : Addr, mg x = some (.ref C) ∧ PySem.W.excIn K C [.type "ValueError", .type "Exception", .type "BaseException", .type "object"] "ValueError.__new__" = true ∧ PySem.W.keepIn K (.ref C) = true ∧
  PySem.W.subIn K (.ref C) (.type "BaseException") = some true ∧ PySem.W.typeIn K (.ref C) = some (.type "type") ∧ PySem.W.exmOne K (.ref C) (.ref C) = some true
theorem exc_nil {K : PySem.W.Frag} {mg : Str → Option Value} : excsOk K mg [] := fun _ h => absurd h (by simp)
theorem exc_cons {K : PySem.W.Frag} {mg : Str → Option Value} {x : Str} {l : List Str} (h : ∃ C : Addr, mg x = some (.ref C) ∧ PySem.W.excIn K C [.type "ValueError", .type "Exception", .type "BaseException", .type "object"] "ValueError.__new__" = true ∧ PySem.W.keepIn K (.ref C) = true ∧
    PySem.W.subIn K (.ref C) (.type "BaseException") = some true ∧ PySem.W.typeIn K (.ref C) = some (.type "type") ∧ PySem.W.exmOne K (.ref C) (.ref C) = some true) (r : excsOk K mg l) : excsOk K mg (x :: l) := fun y hy => (List.mem_cons.mp hy).elim (fun e => by rw [e]; exact h) (r y)
theorem lkS_mem {α : Type} {l : List (Str × α)} {x : Str} {a : α} (h : lkS l x = some a) : (x, a) ∈ l := by
  rw [lkS_eq] at h
  exact mem_of_lookup h
theorem my_fn {P : Program} {w : World} {K : PySem.W.Frag} {mg : Str → Option Value} {base : Heap} {x : Str} {params : Arguments} {body : List Stmt} {scope : Scope} {f : Addr} {fd : FuncData} {T : Tab} {ps : List Str} {G : List Fn} {F : FnI} {k : Nat}
    (FD : FunD K x x params body scope [] [] f fd) (hs : T.sc = scope) (hB : fnB T ps body F = true) (non : ∀ y ∈ T.non, mg y = none) (conI : ∀ q ∈ T.conI, ∃ t, mg q.1 = some (.int q.2 t)) (conS : ∀ q ∈ T.conS, ∃ t, mg q.1 = some (.str q.2 t))
    (fns : fnsOk P w K mg base k G T.fns) (exc : excsOk K mg T.exc := by exact exc_nil) : MyFn P w K mg base (k + 1) f fd ps (runF G F) := by
  obtain ⟨h1, h⟩ := and_of hB
  obtain ⟨h2, h⟩ := and_of h
  obtain ⟨h3, h⟩ := and_of h
  obtain ⟨h4, h⟩ := and_of h
  obtain ⟨h5, h6⟩ := and_of h
  subst hs
  have S := scB_of h1
  obtain ⟨oc, od, dV, kV, doc, pm, an, cdv, ct, osl, rfl, lk, hcd, _, _⟩ := FD.ex
  refine fn_my lk hcd S (Nat.eq_of_beq_eq_true h2) (Nat.eq_of_beq_eq_true h3) (Nat.le_of_ble_eq_true h4) fun A outer s H E hgd hr => ?_
  have hgd' : (A.deeper (envOfC x T.sc s.heap.objs.size f cdv)).guards = some [] := hgd
  refine sdSs F.body (T := T) ⟨rfl, rfl, S.kind, rfl, S.nd, ?_, hgd', fun _ _ => rfl, non, fun y i hy => ?_, fun y z hy => ?_, fun y i hy => ?_, takes_cx, fun y hy => ?_⟩ ⟨passes_cx, rfl, rfl⟩ h6
  · have := hr.un
    show (A.deeper (envOfC x T.sc s.heap.objs.size f cdv)).units + 65 < cLine
    omega
  · obtain ⟨t, ht⟩ := conI _ (lkS_mem hy)
    exact ⟨_, ht, t, rfl⟩
  · obtain ⟨t, ht⟩ := conS _ (lkS_mem hy)
    exact ⟨_, ht, t, rfl⟩
  · obtain ⟨g, hg, ⟨f2, fd2, ps2, q1, q2, q3, q4⟩⟩ := fns _ (lkS_mem hy)
    exact ⟨k, f2, fd2, ps2, g, hg, q1, q2, q3, hr, q4⟩
  · obtain ⟨C, a1, a2, a3, a4, a5, a6⟩ := exc _ (memS_of hy)
    exact ⟨⟨C, a1, a2, a3, a4, a5, a6⟩⟩
theorem def_of {P : Program} {w : World} {K : PySem.W.Frag} {mg : Str → Option Value} {base : Heap} {x : Str} {params : Arguments} {body : List Stmt} {scope : Scope} {f : Addr} {fd : FuncData} {T : Tab} {ps : List Str} {G : List Fn} {F : FnI} {k : Nat}
    (FD : FunD K x x params body scope [] [] f fd) (hg : mg x = some (.ref f)) (hb : ∀ (kV doc pm : Value) (an : Option Addr) (cdv ct : Value) (us : List Value), us.length = ps.length → bindArgs (PySem.W.fnOf x x params body scope .none kV doc pm an cdv ct) ⟨us, []⟩ = pure (ps.zip us))
    (hs : T.sc = scope) (hB : fnB T ps body F = true) (non : ∀ y ∈ T.non, mg y = none) (conI : ∀ q ∈ T.conI, ∃ t, mg q.1 = some (.int q.2 t)) (conS : ∀ q ∈ T.conS, ∃ t, mg q.1 = some (.str q.2 t))
    (fns : fnsOk P w K mg base k G T.fns) (exc : excsOk K mg T.exc := by exact exc_nil) : Def P w K mg base (k + 1) x (runF G F) :=
  ⟨f, fd, ps, hg, FD.kp, FD.bindsN hb, my_fn FD hs hB non conI conS fns exc⟩
/-- a def that tells nothing -/
theorem def_bad {P : Program} {w : World} {K : PySem.W.Frag} {mg : Str → Option Value} {base : Heap} {x : Str} {params : Arguments} {body : List Stmt} {scope : Scope} {f : Addr} {fd : FuncData} {ps : List Str} {k : Nat}
    (FD : FunD K x x params body scope [] [] f fd) (hg : mg x = some (.ref f)) (hb : ∀ (kV doc pm : Value) (an : Option Addr) (cdv ct : Value) (us : List Value), us.length = ps.length → bindArgs (PySem.W.fnOf x x params body scope .none kV doc pm an cdv ct) ⟨us, []⟩ = pure (ps.zip us)) :
    Def P w K mg base k x (fun _ _ => .bad) :=
  ⟨f, fd, ps, hg, FD.kp, FD.bindsN hb, ⟨fun _ _ h => absurd rfl h, fun A outer s H args us vs Q E _ _ _ _ _ h => by
    obtain ⟨c, S, ds, _, _, p⟩ := h
    exact p.elim⟩⟩
/-- the law itself: called with the script -/
theorem script_rel {K : PySem.W.Frag} {H : Hp} {a : Addr} {ns : List Int} (h : SqL K H a (ns.map V.int)) : RelD K ⟨[], []⟩ H (.scr ns) (.ref a) := by
  rcases h with (h | ⟨o, h⟩) | h
  · exact .scr h (.inl (.inl h)) (by simp) (by simp)
  · exact .scr h (.inl (.inr ⟨o, h⟩)) (by simp) (by simp)
  · exact .scK fun H' => .inr h
theorem law_my {P : Program} {w : World} {K : PySem.W.Frag} {mg mb : Str → Option Value} {k : Nat} {fa a : Addr} {fd : FuncData} {x : Str} {g : Fn} {s1 : Shared} {vs : List Value} {ns : List Int} {S' : Store}
    (KX : K.In s1.heap) (hns : s1.heap.Ns mainGlobals mg) (hb : s1.heap.Ns builtinsNs mb) (hbb : ∀ x : Str, x ≠ "__name__" → mb x = bootBuiltins x) (hlim : s1.heap.NoLimit) (hg : s1.gens = #[])
    (ha : s1.heap.get? a = some { cls := .type "list", data := .seq vs.toArray }) (hi : IntsAre vs ns) (hl : ns.length ≤ sizeLine) (hr : Room k callerA)
    (F : ∀ base : Heap, K.In base → base.Ns mainGlobals mg → MyFn P w K mg base k fa fd [x] g) (hbind : ∀ (s : Shared) (u : Value), BindsTo s fd ⟨[u], []⟩ [(x, u)]) (hlaw : g [.scr ns] [] = .ok (.bl true) S') :
    codeAny (model P w) callerA (.call (.ref fa) ⟨[.ref a], []⟩) (fun r s' => r = .ok (.ret (.bool true)) ∧ OldK s1.heap s'.heap ∧ s'.os = s1.os ∧ AllBare s'.gens) s1 := by
  have rv := vals_ints hi
  -- the script alone may be told of
  obtain ⟨H, hO, hS, hok, hA, hK⟩ : ∃ H : Hp, Only H ∧ SqL K H a (ns.map V.int) ∧ HOk P w H s1.heap ∧ (∀ b, H b ≠ none → b = a) ∧ (H a ≠ none → K.lookup a = none) := by
    cases hk : K.lookup a with
    | some o =>
      have e := KX a o hk
      rw [ha] at e
      cases e
      refine ⟨fun _ => none, fun _ => .inl rfl, .inr ⟨_, vs.toArray, _, hk, rfl, rfl, rfl, ?_, by simpa using rv⟩, fun b u z => ?_, fun b z => absurd rfl z, fun z => absurd rfl z⟩
      · have lv := hi.length
        rw [List.size_toArray, lv]
        exact hl
      · cases (show (none : Option HO) = some u from z)
    | none =>
      let o : Obj := { cls := .type "list", data := .seq vs.toArray }
      let H : Hp := fun b => if b = a then some (.frz o (.lst (ns.map V.int))) else none
      have ya : ∀ b, b = a → H b = some (.frz o (.lst (ns.map V.int))) := fun b e => if_pos e
      have no : ∀ b, b ≠ a → H b = none := fun b e => if_neg e
      refine ⟨H, fun b => ?_, .inl (.inr ⟨o, ya a rfl⟩), fun b u z => ?_, fun b z => ?_, fun _ => rfl⟩
      · by_cases hb : b = a
        · exact .inr ⟨_, _, ya b hb⟩
        · exact .inl (no b hb)
      · by_cases hb : b = a
        · rw [ya b hb] at z
          cases z
          subst hb
          exact ⟨ha, by rw [List.length_map]; exact hl, vs, _, rv, ha⟩
        · rw [no b hb] at z
          cases z
      · by_cases hb : b = a
        · exact hb
        · exact absurd (no b hb) z
  have low : ∀ {b : Addr} {o : Obj}, s1.heap.get? b = some o → (H b ≠ none → False) → (hidT s1.heap H).get? b = some o := fun {b o} e n => hidT_get e (by
    cases q : H b with
    | none => rfl
    | some u => exact (n (by rw [q]; simp)).elim)
  have nsK : ∀ {b : Addr} {m : Str → Option Value}, s1.heap.Ns b m → (hidT s1.heap H).Ns b m := fun {b m} ⟨o, es, ep, e, d, r⟩ => ⟨o, es, ep, low e (fun z => by
    have e' := hA b z
    subst e'
    rw [ha] at e
    cases e
    cases (show Data.seq vs.toArray _ = Data.dict es ep from d)), d, r⟩
  have hKb : K.In (hidT s1.heap H) := fun b o e => low (KX b o e) fun z => by
    have e' := hA b z
    subst e'
    rw [hK z] at e
    cases e
  obtain ⟨mc, c1, c2⟩ := hlim
  have hM : Mod K mg (hidT s1.heap H) := ⟨hKb, nsK hns, ⟨mb, nsK hb, hbb⟩, ⟨mc, nsK c1, c2⟩⟩
  have e0 : Env0 P w K mg (hidT s1.heap H) callerA [] s1 H := ⟨rfl, hM, fun b o e => of_hidT e, Nat.le_of_eq (hidT_size _ _), trivial, fun b hb => absurd hb (by simp [frs]), hok, .of_eq hg⟩
  have hsp : SpG K mg g [.ref a] H (fun v _ => v = .bl true) fun _ _ _ => False := by
    refine ⟨⟨[], []⟩, [], [.scr ns], ⟨rfl, List.nodup_nil, fun i o h => ?_, fun a h => absurd h (by simp)⟩, .cons (script_rel hS) .nil, ?_⟩
    · simp at h
    · rw [hlaw]
      intro c' v H' _ _ r
      cases r
      rfl
  refine codeAny_mono ((F _ hKb (nsK hns)).run callerA [] s1 H ⟨[.ref a], []⟩ [.ref a] [.ref a] (fun v _ => v = .bl true) (fun _ _ _ => False) rfl hr e0 (hbind s1 (.ref a)) (.cons rfl .nil) hsp) fun r s' h => ?_
  match r, h with
  | .error e, h =>
    obtain ⟨_, _, _, _, _, _, _, _, _, _, _, _, z⟩ := h
    exact z.elim
  | .ok (.ret u), h =>
    obtain ⟨v, H', os, bare, un, hok', r', q⟩ := h
    have q : v = .bl true := q
    subst q
    have r' : u = Value.bool true := r'
    subst r'
    refine ⟨rfl, OldK.of_keep fun b o e => ?_, os, bare⟩
    rcases hO b with z | ⟨ob, xs, z⟩
    · exact un.keep b o e z (by simp [frs]) (by simp)
    · have h1 := (hok b _ z).1
      have h2 := (hok' b _ (un.frzs b ob _ z)).1
      rw [e] at h1
      cases h1
      exact h2
/-- the goal hc of the head -/
theorem walk_my {l : PySem.W.OpenLaw} {n k : Nat} {q : Program} {loose : List Str} {XP : (Str → Option Value) → Heap → Prop} {YP : World → Heap → Prop} {d : DefRec} {x : Str} {g : Fn}
    (hn : l.most = some n) (hn2 : n ≤ sizeLine) (hdf : d.params.defaults = []) (hr : Room k callerA)
    (F : ∀ (w : World) (mg : Str → Option Value) (fa : Addr) (h : Heap), YP w h → h.Ns mainGlobals mg → mg d.name = some (.ref fa) →
      ∃ (K : PySem.W.Frag) (fd : FuncData), K.In h ∧ (∀ (s : Shared) (u : Value), BindsTo s fd ⟨[u], []⟩ [(x, u)]) ∧ ∀ base : Heap, K.In base → base.Ns mainGlobals mg → MyFn l.prog w K mg base k fa fd [x] g)
    (hlaw : ∀ ns : List Int, ns.length ≤ n → (∀ i ∈ ns, Builtin.Int.intBits i ≤ 1048576) → ∃ S', g [.scr ns] [] = .ok (.bl true) S') :
    PySem.W.WalkO q loose XP YP l.row.toRowW d [] (fun f vs => PySem.call f vs) := by
  refine Att.attach_callB hn hdf fun w s0 s1 mg mb fa o pm cd doc a vs ns G Y ho hd hcd hmg hobj hints hlen hbits hg => ?_
  obtain ⟨K, fd, KX, hb, hF⟩ := F w mg fa _ Y G.T.g hmg
  obtain ⟨S', e⟩ := hlaw ns hlen hbits
  exact law_my KX G.T.g G.T.b G.T.builtins G.T.nolimit hg hobj hints (Nat.le_trans hlen hn2) hr hF hb e
theorem all_nil {α : Type} {p : α → Prop} : ∀ y ∈ ([] : List α), p y := fun _ h => absurd h (by simp)
theorem all_cons {α : Type} {p : α → Prop} {a : α} {l : List α} (h : p a) (r : ∀ y ∈ l, p y) : ∀ y ∈ a :: l, p y := fun y hy => (List.mem_cons.mp hy).elim (fun e => by rw [e]; exact h) (r y)
theorem fns_nil {P : Program} {w : World} {K : PySem.W.Frag} {mg : Str → Option Value} {base : Heap} {k : Nat} {G : List Fn} : fnsOk P w K mg base k G [] := all_nil
theorem fns_cons {P : Program} {w : World} {K : PySem.W.Frag} {mg : Str → Option Value} {base : Heap} {k i : Nat} {G : List Fn} {x : Str} {g : Fn} {l : List (Str × Nat)} (h : G[i]? = some g) (d : Def P w K mg base k x g) (r : fnsOk P w K mg base k G l) :
    fnsOk P w K mg base k G ((x, i) :: l) := all_cons ⟨g, h, d⟩ r
end RR

set_option linter.all false
set_option maxRecDepth 100000
namespace RR
open PySem
def b_deck : Sms := (Sms.cons (Sm.ret (E.fr true (L.dis (Es.cons (E.fr true (L.cmp (E.blt Bl.abs (Es.cons (E.var 1) Es.nil)) (Tg.nm 1) (It.seq (E.slc (E.var 0) E.non (E.int (63)))) Es.nil [((PySem.Str.ofString "_law_cell"), 1)])) (Es.cons (E.int (0)) (Es.cons (E.int (0)) Es.nil)))))) Sms.nil)
def ir_deck : FnI := ⟨1, 2, true, b_deck⟩
noncomputable def s_deck : Fn := runF [] ir_deck
def b_draw : Sms := (Sms.cons (Sm.asg (Tg.sub (E.var 0) (E.int (2))) (E.bin Bop.add (E.ix (E.var 0) (E.int (2))) (E.int (1)))) (Sms.cons (Sm.asg (Tg.nm 2) (E.neg (E.int (1)))) (Sms.cons (Sm.asg (Tg.nm 3) (E.int (7))) (Sms.cons (Sm.iff (E.cmp Cop.ne (E.ix (E.var 0) (E.int (0))) (E.fr false (L.dis Es.nil))) (Sms.cons (Sm.asg (Tg.nm 2) (E.bin Bop.mod (E.blt Bl.int (Es.cons (E.ix (E.var 0) (E.int (2))) Es.nil)) (E.blt Bl.len (Es.cons (E.ix (E.var 0) (E.int (0))) Es.nil)))) (Sms.cons (Sm.asg (Tg.nm 3) (E.ix (E.ix (E.var 0) (E.int (0))) (E.var 2))) Sms.nil)) Sms.nil) (Sms.cons (Sm.iff (E.cmp Cop.ge (E.var 3) (E.bin Bop.pow (E.int (10)) (E.int (18)))) (Sms.cons (Sm.asg (Tg.sub (E.ix (E.var 0) (E.int (0))) (E.var 2)) (E.bin Bop.fdv (E.blt Bl.int (Es.cons (E.var 3) Es.nil)) (E.var 1))) (Sms.cons (Sm.ret (E.bin Bop.mod (E.blt Bl.int (Es.cons (E.var 3) Es.nil)) (E.var 1))) Sms.nil)) Sms.nil) (Sms.cons (Sm.asg (Tg.nm 4) (E.bin Bop.add (E.bin Bop.add (E.bin Bop.mod (E.blt Bl.int (Es.cons (E.var 3) Es.nil)) (E.int (2147483399))) (E.bin Bop.mul (E.int (7919)) (E.ix (E.var 0) (E.int (2))))) (E.int (31)))) (Sms.cons (Sm.ret (E.bin Bop.mod (E.blt Bl.int (Es.cons (E.bin Bop.mod (E.blt Bl.int (Es.cons (E.bin Bop.pow (E.var 4) (E.int (5))) Es.nil)) (E.int (2147483549))) Es.nil)) (E.var 1))) Sms.nil)))))))
def ir_draw : FnI := ⟨2, 5, false, b_draw⟩
noncomputable def s_draw : Fn := runF [] ir_draw
def b_even_rows : Sms := (Sms.cons (Sm.asg (Tg.tp (Tgs.cons (Tg.nm 3) (Tgs.cons (Tg.nm 4) Tgs.nil))) (E.tup (Es.cons (E.fr false (L.cmp (E.bin Bop.add (E.int (1)) (E.call 0 (Es.cons (E.var 0) (Es.cons (E.int (9)) Es.nil)))) (Tg.nm 8) (It.rng (Es.cons (E.var 1) Es.nil)) Es.nil [((PySem.Str.ofString "_law_place"), 8)])) (Es.cons (E.fr false (L.cmp (E.fr true (L.rep (E.fr false (L.dis (Es.cons (E.int (0)) Es.nil))) (E.var 1))) (Tg.nm 8) (It.rng (Es.cons (E.var 1) Es.nil)) Es.nil [((PySem.Str.ofString "_law_place"), 8)])) Es.nil)))) (Sms.cons (Sm.for_ (Tg.tp (Tgs.cons (Tg.nm 5) (Tgs.cons (Tg.nm 6) Tgs.nil))) (It.seq (E.var 2)) (Sms.cons (Sm.asg (Tg.nm 7) (E.bin Bop.add (E.int (1)) (E.call 0 (Es.cons (E.var 0) (Es.cons (E.int (30)) Es.nil))))) (Sms.cons (Sm.asg (Tg.tp (Tgs.cons (Tg.sub (E.ix (E.var 4) (E.var 5)) (E.var 6)) (Tgs.cons (Tg.sub (E.ix (E.var 4) (E.var 6)) (E.var 5)) Tgs.nil))) (E.tup (Es.cons (E.bin Bop.mul (E.var 7) (E.ix (E.var 3) (E.var 6))) (Es.cons (E.bin Bop.mul (E.var 7) (E.ix (E.var 3) (E.var 5))) Es.nil)))) (Sms.cons (Sm.fgt [5, 6, 7]) Sms.nil)))) (Sms.cons (Sm.ret (E.var 4)) Sms.nil)))
def ir_even_rows : FnI := ⟨3, 9, true, b_even_rows⟩
noncomputable def s_even_rows : Fn := runF [s_draw] ir_even_rows
def b_pairs : Sms := (Sms.cons (Sm.asg (Tg.nm 1) (E.fr true (L.dis Es.nil))) (Sms.cons (Sm.for_ (Tg.nm 2) (It.rng (Es.cons (E.var 0) Es.nil)) (Sms.cons (Sm.exp (E.met Mt.extend (E.var 1) (Es.cons (E.fr false (L.cmp (E.tup (Es.cons (E.var 2) (Es.cons (E.var 3) Es.nil))) (Tg.nm 3) (It.rng (Es.cons (E.bin Bop.add (E.var 2) (E.int (1))) (Es.cons (E.var 0) Es.nil))) Es.nil [((PySem.Str.ofString "_law_j"), 3)])) Es.nil))) (Sms.cons (Sm.fgt [2]) Sms.nil))) (Sms.cons (Sm.ret (E.var 1)) Sms.nil)))
def ir_pairs : FnI := ⟨1, 4, false, b_pairs⟩
noncomputable def s_pairs : Fn := runF [] ir_pairs
def b_some_ties : Sms := (Sms.cons (Sm.asg (Tg.tp (Tgs.cons (Tg.nm 2) (Tgs.cons (Tg.nm 3) Tgs.nil))) (E.tup (Es.cons (E.call 0 (Es.cons (E.var 1) Es.nil)) (Es.cons (E.call 1 (Es.cons (E.var 0) (Es.cons (E.int (5)) Es.nil))) Es.nil)))) (Sms.cons (Sm.iff (E.cmp Cop.eq (E.var 3) (E.int (0))) (Sms.cons (Sm.ret (E.var 2)) Sms.nil) Sms.nil) (Sms.cons (Sm.iff (E.cmp Cop.eq (E.var 3) (E.int (1))) (Sms.cons (Sm.ret (E.fr false (L.cmp (E.var 4) (Tg.nm 4) (It.seq (E.var 2)) (Es.cons (E.cmp Cop.inn (E.bin Bop.sub (E.ix (E.var 4) (E.int (1))) (E.ix (E.var 4) (E.int (0)))) (E.tup (Es.cons (E.int (1)) (Es.cons (E.bin Bop.sub (E.var 1) (E.int (1))) Es.nil)))) Es.nil) [((PySem.Str.ofString "_law_pair"), 4)]))) Sms.nil) Sms.nil) (Sms.cons (Sm.iff (E.cmp Cop.eq (E.var 3) (E.int (2))) (Sms.cons (Sm.ret (E.fr false (L.cmp (E.var 4) (Tg.nm 4) (It.seq (E.var 2)) (Es.cons (E.cmp Cop.eq (E.ix (E.var 4) (E.int (0))) (E.int (0))) Es.nil) [((PySem.Str.ofString "_law_pair"), 4)]))) Sms.nil) Sms.nil) (Sms.cons (Sm.ret (E.fr false (L.cmp (E.var 4) (Tg.nm 4) (It.seq (E.var 2)) (Es.cons (E.cmp Cop.gt (E.call 1 (Es.cons (E.var 0) (Es.cons (E.var 3) Es.nil))) (E.int (0))) Es.nil) [((PySem.Str.ofString "_law_pair"), 4)]))) Sms.nil)))))
def ir_some_ties : FnI := ⟨2, 5, false, b_some_ties⟩
noncomputable def s_some_ties : Fn := runF [s_pairs, s_draw] ir_some_ties
def b_pick : Sms := (Sms.cons (Sm.ret (E.ix (E.var 1) (E.call 0 (Es.cons (E.var 0) (Es.cons (E.blt Bl.len (Es.cons (E.var 1) Es.nil)) Es.nil))))) Sms.nil)
def ir_pick : FnI := ⟨2, 2, false, b_pick⟩
noncomputable def s_pick : Fn := runF [s_draw] ir_pick
def b_rate : Sms := (Sms.cons (Sm.ret (E.call 0 (Es.cons (E.var 0) (Es.cons (E.fr false (L.dis (Es.cons (E.int (1)) (Es.cons (E.int (1)) (Es.cons (E.int (2)) (Es.cons (E.int (3)) (Es.cons (E.bin Bop.add (E.int (1)) (E.call 1 (Es.cons (E.var 0) (Es.cons (E.int (9)) Es.nil)))) (Es.cons (E.bin Bop.add (E.int (1)) (E.call 1 (Es.cons (E.var 0) (Es.cons (E.int (999)) Es.nil)))) (Es.cons (E.bin Bop.pow (E.int (10)) (E.int (6))) Es.nil))))))))) Es.nil)))) Sms.nil)
def ir_rate : FnI := ⟨1, 1, false, b_rate⟩
noncomputable def s_rate : Fn := runF [s_pick, s_draw] ir_rate
def b_tuples : Sms := (Sms.cons (Sm.ret (E.blt Bl.tup (Es.cons (E.fr false (L.cmp (E.blt Bl.tup (Es.cons (E.var 1) Es.nil)) (Tg.nm 1) (It.seq (E.var 0)) Es.nil [((PySem.Str.ofString "_law_row"), 1)])) Es.nil))) Sms.nil)
def ir_tuples : FnI := ⟨1, 2, false, b_tuples⟩
noncomputable def s_tuples : Fn := runF [] ir_tuples
def b_web : Sms := (Sms.cons (Sm.asg (Tg.tp (Tgs.cons (Tg.nm 4) (Tgs.cons (Tg.nm 5) Tgs.nil))) (E.tup (Es.cons (E.bin Bop.add (E.int (1)) (E.call 0 (Es.cons (E.var 0) (Es.cons (E.var 1) Es.nil)))) (Es.cons (E.call 0 (Es.cons (E.var 0) (Es.cons (E.int (5)) Es.nil))) Es.nil)))) (Sms.cons (Sm.asg (Tg.nm 2) (E.call 1 (Es.cons (E.var 0) (Es.cons (E.var 4) (Es.cons (E.call 2 (Es.cons (E.var 0) (Es.cons (E.var 4) Es.nil))) Es.nil))))) (Sms.cons (Sm.asg (Tg.nm 3) (E.fr false (L.cmp (E.var 7) (Tg.nm 7) (It.seq (E.call 3 (Es.cons (E.var 4) Es.nil))) (Es.cons (E.cmp Cop.gt (E.ix (E.ix (E.var 2) (E.ix (E.var 7) (E.int (0)))) (E.ix (E.var 7) (E.int (1)))) (E.int (0))) Es.nil) [((PySem.Str.ofString "_law_pair"), 7)]))) (Sms.cons (Sm.iff (E.an (E.cmp Cop.gt (E.var 5) (E.int (1))) (E.cmp Cop.ne (E.var 3) (E.fr false (L.dis Es.nil)))) (Sms.cons (Sm.for_ (Tg.nm 6) (It.rng (Es.cons (E.bin Bop.add (E.int (1)) (E.call 0 (Es.cons (E.var 0) (Es.cons (E.int (2)) Es.nil)))) Es.nil)) (Sms.cons (Sm.asg (Tg.tp (Tgs.cons (Tg.nm 8) (Tgs.cons (Tg.nm 9) Tgs.nil))) (E.call 4 (Es.cons (E.var 0) (Es.cons (E.var 3) Es.nil)))) (Sms.cons (Sm.asg (Tg.sub (E.ix (E.var 2) (E.var 9)) (E.var 8)) (E.ite (E.cmp Cop.lt (E.var 5) (E.int (4))) (E.blt Bl.mn (Es.cons (E.bin Bop.pow (E.int (10)) (E.int (6))) (Es.cons (E.bin Bop.add (E.ix (E.ix (E.var 2) (E.var 9)) (E.var 8)) (E.call 4 (Es.cons (E.var 0) (Es.cons (E.fr false (L.dis (Es.cons (E.int (1)) (Es.cons (E.call 5 (Es.cons (E.var 0) Es.nil)) Es.nil)))) Es.nil)))) Es.nil))) (E.int (0)))) (Sms.cons (Sm.fgt [6]) Sms.nil)))) Sms.nil) Sms.nil) (Sms.cons (Sm.iff (E.cmp Cop.eq (E.var 5) (E.int (3))) (Sms.cons (Sm.for_ (Tg.tp (Tgs.cons (Tg.nm 8) (Tgs.cons (Tg.nm 9) Tgs.nil))) (It.seq (E.var 3)) (Sms.cons (Sm.asg (Tg.tp (Tgs.cons (Tg.sub (E.ix (E.var 2) (E.var 8)) (E.var 9)) (Tgs.cons (Tg.sub (E.ix (E.var 2) (E.var 9)) (E.var 8)) Tgs.nil))) (E.tup (Es.cons (E.call 5 (Es.cons (E.var 0) Es.nil)) (Es.cons (E.call 5 (Es.cons (E.var 0) Es.nil)) Es.nil)))) Sms.nil)) Sms.nil) Sms.nil) (Sms.cons (Sm.ret (E.call 6 (Es.cons (E.var 2) Es.nil))) Sms.nil))))))
def ir_web : FnI := ⟨2, 10, false, b_web⟩
noncomputable def s_web : Fn := runF [s_draw, s_even_rows, s_some_ties, s_pairs, s_pick, s_rate, s_tuples] ir_web
end RR

set_option linter.all false
set_option maxRecDepth 100000
namespace RR
open PySem
def b_mixed : Sms := (Sms.cons (Sm.asg (Tg.tp (Tgs.cons (Tg.nm 2) (Tgs.cons (Tg.nm 3) Tgs.nil))) (E.tup (Es.cons (E.fr true (L.dis Es.nil)) (Es.cons (E.fr false (L.ofl (E.var 1))) Es.nil)))) (Sms.cons (Sm.whl (E.cmp Cop.ne (E.var 3) (E.fr false (L.dis Es.nil))) (Sms.cons (Sm.asg (Tg.nm 4) (E.call 0 (Es.cons (E.var 0) (Es.cons (E.blt Bl.len (Es.cons (E.var 3) Es.nil)) Es.nil)))) (Sms.cons (Sm.exp (E.met Mt.append (E.var 2) (Es.cons (E.ix (E.var 3) (E.var 4)) Es.nil))) (Sms.cons (Sm.asg (Tg.nm 3) (E.bin Bop.add (E.slc (E.var 3) E.non (E.var 4)) (E.slc (E.var 3) (E.bin Bop.add (E.var 4) (E.int (1))) E.non))) (Sms.cons (Sm.fgt [4]) Sms.nil))))) (Sms.cons (Sm.ret (E.var 2)) Sms.nil)))
def ir_mixed : FnI := ⟨2, 5, false, b_mixed⟩
noncomputable def s_mixed : Fn := runF [s_draw] ir_mixed
def b_ties : Sms := (Sms.cons (Sm.ret (E.fr false (L.cmp (E.var 1) (Tg.nm 1) (It.seq (E.call 0 (Es.cons (E.blt Bl.len (Es.cons (E.var 0) Es.nil)) Es.nil))) (Es.cons (E.cmp Cop.gt (E.bin Bop.add (E.ix (E.ix (E.var 0) (E.ix (E.var 1) (E.int (0)))) (E.ix (E.var 1) (E.int (1)))) (E.ix (E.ix (E.var 0) (E.ix (E.var 1) (E.int (1)))) (E.ix (E.var 1) (E.int (0))))) (E.int (0))) Es.nil) [((PySem.Str.ofString "_law_pair"), 1)]))) Sms.nil)
def ir_ties : FnI := ⟨1, 2, false, b_ties⟩
noncomputable def s_ties : Fn := runF [s_pairs] ir_ties
def b_rings : Sms := (Sms.cons (Sm.asg (Tg.tp (Tgs.cons (Tg.nm 2) (Tgs.cons (Tg.nm 3) (Tgs.cons (Tg.nm 4) Tgs.nil)))) (E.tup (Es.cons (E.call 0 (Es.cons (E.var 0) Es.nil)) (Es.cons (E.fr true (L.dis Es.nil)) (Es.cons (E.fr false (L.cmp (E.tup (Es.cons (E.var 8) Es.nil)) (Tg.nm 8) (It.rng (Es.cons (E.blt Bl.len (Es.cons (E.var 0) Es.nil)) Es.nil)) Es.nil [((PySem.Str.ofString "_law_place"), 8)])) Es.nil))))) (Sms.cons (Sm.for_ (Tg.nm 1) (It.rng (Es.cons (E.int (2)) (Es.cons (E.bin Bop.add (E.blt Bl.len (Es.cons (E.var 0) Es.nil)) (E.int (1))) Es.nil))) (Sms.cons (Sm.asg (Tg.nm 5) (E.fr true (L.dis Es.nil))) (Sms.cons (Sm.for_ (Tg.nm 6) (It.seq (E.var 4)) (Sms.cons (Sm.for_ (Tg.nm 7) (It.rng (Es.cons (E.bin Bop.add (E.ix (E.var 6) (E.int (0))) (E.int (1))) (Es.cons (E.blt Bl.len (Es.cons (E.var 0) Es.nil)) Es.nil))) (Sms.cons (Sm.iff (E.an (E.cmp Cop.nin (E.var 7) (E.var 6)) (E.cmp Cop.inn (E.tup (Es.cons (E.blt Bl.mn (Es.cons (E.ix (E.var 6) (E.neg (E.int (1)))) (Es.cons (E.var 7) Es.nil))) (Es.cons (E.blt Bl.mx (Es.cons (E.ix (E.var 6) (E.neg (E.int (1)))) (Es.cons (E.var 7) Es.nil))) Es.nil))) (E.var 2))) (Sms.cons (Sm.exp (E.met Mt.append (E.var 5) (Es.cons (E.bin Bop.add (E.var 6) (E.tup (Es.cons (E.var 7) Es.nil))) Es.nil))) Sms.nil) Sms.nil) (Sms.cons (Sm.fgt [7]) Sms.nil))) Sms.nil)) (Sms.cons (Sm.asg (Tg.nm 4) (E.var 5)) (Sms.cons (Sm.exp (E.met Mt.extend (E.var 3) (Es.cons (E.blt Bl.srt (Es.cons (E.fr false (L.cmp (E.var 6) (Tg.nm 6) (It.seq (E.var 4)) (Es.cons (E.an (E.cmp Cop.gt (E.var 1) (E.int (2))) (E.an (E.cmp Cop.lt (E.ix (E.var 6) (E.int (1))) (E.ix (E.var 6) (E.neg (E.int (1))))) (E.cmp Cop.inn (E.tup (Es.cons (E.ix (E.var 6) (E.int (0))) (Es.cons (E.ix (E.var 6) (E.neg (E.int (1)))) Es.nil))) (E.var 2)))) Es.nil) [((PySem.Str.ofString "_law_way"), 6)])) Es.nil)) Es.nil))) (Sms.cons (Sm.fgt [1, 5]) Sms.nil)))))) (Sms.cons (Sm.ret (E.var 3)) Sms.nil)))
def ir_rings : FnI := ⟨1, 9, false, b_rings⟩
noncomputable def s_rings : Fn := runF [s_ties] ir_rings
def b_p_product : Sms := (Sms.cons (Sm.asg (Tg.nm 2) (E.int (1))) (Sms.cons (Sm.for_ (Tg.tp (Tgs.cons (Tg.nm 3) (Tgs.cons (Tg.nm 4) Tgs.nil))) (It.zp (E.var 1) (E.bin Bop.add (E.slc (E.var 1) (E.int (1)) E.non) (E.slc (E.var 1) E.non (E.int (1))))) (Sms.cons (Sm.asg (Tg.nm 2) (E.bin Bop.mul (E.var 2) (E.ix (E.ix (E.var 0) (E.var 3)) (E.var 4)))) (Sms.cons (Sm.fgt [3, 4]) Sms.nil))) (Sms.cons (Sm.ret (E.var 2)) Sms.nil)))
def ir_p_product : FnI := ⟨2, 5, false, b_p_product⟩
noncomputable def s_p_product : Fn := runF [] ir_p_product
def b_p_products : Sms := (Sms.cons (Sm.ret (E.tup (Es.cons (E.call 0 (Es.cons (E.var 0) (Es.cons (E.var 1) Es.nil))) (Es.cons (E.call 0 (Es.cons (E.var 0) (Es.cons (E.rvt false (E.var 1)) Es.nil))) Es.nil)))) Sms.nil)
def ir_p_products : FnI := ⟨2, 2, false, b_p_products⟩
noncomputable def s_p_products : Fn := runF [s_p_product] ir_p_products
end RR

set_option linter.all false
set_option maxRecDepth 100000
namespace RR
open PySem
def b_bent : Sms := (Sms.cons (Sm.asg (Tg.nm 3) (E.fr false (L.dis (Es.cons E.non (Es.cons (E.bl true) (Es.cons (E.bl false) (Es.cons (E.neg (E.int (1))) (Es.cons (E.int (0)) (Es.cons (E.int (1)) (Es.cons (E.bin Bop.add (E.bin Bop.pow (E.int (10)) (E.int (6))) (E.int (1))) (Es.cons (E.bin Bop.pow (E.int (10)) (E.int (30))) (Es.cons (E.str (PySem.Str.ofString "0")) (Es.cons (E.str (PySem.Str.ofString "")) (Es.cons (E.tup Es.nil) (Es.cons (E.fr false (L.dis Es.nil)) (Es.cons (E.tup (Es.cons (E.int (0)) Es.nil)) (Es.cons (E.dct [] Es.nil) Es.nil))))))))))))))))) (Sms.cons (Sm.iff (E.or (E.cmp Cop.eq (E.var 2) (E.int (0))) (E.or (E.nt (E.isi (E.var 1) Ty.tup)) (E.or (E.cmp Cop.eq (E.var 1) (E.tup Es.nil)) (E.cmp Cop.eq (E.call 0 (Es.cons (E.var 0) (Es.cons (E.int (4)) Es.nil))) (E.int (0)))))) (Sms.cons (Sm.asg (Tg.nm 5) (E.fr false (L.dis (Es.cons (E.call 1 (Es.cons (E.var 0) (Es.cons (E.var 3) Es.nil))) Es.nil)))) (Sms.cons (Sm.iff (E.isi (E.var 1) Ty.tup) (Sms.cons (Sm.asg (Tg.nm 5) (E.bin Bop.add (E.var 5) (E.fr false (L.dis (Es.cons (E.fr false (L.ofl (E.var 1))) (Es.cons (E.bin Bop.add (E.var 1) (E.slc (E.var 1) (E.neg (E.int (1))) E.non)) (Es.cons (E.slc (E.var 1) (E.int (1)) E.non) (Es.cons (E.rvt false (E.var 1)) Es.nil)))))))) Sms.nil) Sms.nil) (Sms.cons (Sm.ret (E.call 1 (Es.cons (E.var 0) (Es.cons (E.var 5) Es.nil)))) Sms.nil))) Sms.nil) (Sms.cons (Sm.asg (Tg.nm 4) (E.call 0 (Es.cons (E.var 0) (Es.cons (E.blt Bl.len (Es.cons (E.var 1) Es.nil)) Es.nil)))) (Sms.cons (Sm.ret (E.bin Bop.add (E.bin Bop.add (E.slc (E.var 1) E.non (E.var 4)) (E.tup (Es.cons (E.call 2 (Es.cons (E.var 0) (Es.cons (E.ix (E.var 1) (E.var 4)) (Es.cons (E.bin Bop.sub (E.var 2) (E.int (1))) Es.nil)))) Es.nil))) (E.slc (E.var 1) (E.bin Bop.add (E.var 4) (E.int (1))) E.non))) Sms.nil))))
def ir_bent : FnI := ⟨3, 6, false, b_bent⟩
noncomputable def n_bent : Nat → Fn
  | 0 => fun _ _ => .bad
  | n + 1 => runF [s_draw, s_pick, n_bent n] ir_bent
noncomputable def s_bent : Fn := n_bent 6
def b_p_is_square : Sms := (Sms.cons (Sm.iff (E.or (E.nt (E.isi (E.var 0) Ty.tup)) (E.nt (E.chn Cop.le Cop.le (E.int (1)) (E.blt Bl.len (Es.cons (E.var 0) Es.nil)) (E.con (PySem.Str.ofString "MAX_PLACES") (D.int (6)))))) (Sms.cons (Sm.ret (E.str (PySem.Str.ofString "web"))) Sms.nil) Sms.nil) (Sms.cons (Sm.iff (E.nt (E.blt Bl.all (Es.cons (E.fr false (L.cmp (E.an (E.isi (E.var 1) Ty.tup) (E.cmp Cop.eq (E.blt Bl.len (Es.cons (E.var 1) Es.nil)) (E.blt Bl.len (Es.cons (E.var 0) Es.nil)))) (Tg.nm 1) (It.seq (E.var 0)) Es.nil [((PySem.Str.ofString "row"), 1)])) Es.nil))) (Sms.cons (Sm.ret (E.str (PySem.Str.ofString "row"))) Sms.nil) Sms.nil) (Sms.cons (Sm.ret E.non) Sms.nil)))
def ir_p_is_square : FnI := ⟨1, 2, false, b_p_is_square⟩
noncomputable def s_p_is_square : Fn := runF [] ir_p_is_square
def b_p_is_integer : Sms := (Sms.cons (Sm.ret (E.an (E.isi (E.var 0) Ty.int) (E.an (E.nt (E.isi (E.var 0) Ty.bool)) (E.chn Cop.le Cop.le (E.var 1) (E.var 0) (E.var 2))))) Sms.nil)
def ir_p_is_integer : FnI := ⟨3, 3, false, b_p_is_integer⟩
noncomputable def s_p_is_integer : Fn := runF [] ir_p_is_integer
def b_p_web_error : Sms := (Sms.cons (Sm.asg (Tg.nm 1) (E.call 0 (Es.cons (E.var 0) Es.nil))) (Sms.cons (Sm.iff (E.cmp Cop.nsn (E.var 1) E.non) (Sms.cons (Sm.ret (E.var 1)) Sms.nil) Sms.nil) (Sms.cons (Sm.iff (E.nt (E.blt Bl.all (Es.cons (E.fr false (L.cm2 (E.call 1 (Es.cons (E.var 3) (Es.cons (E.int (0)) (Es.cons (E.con (PySem.Str.ofString "MAX_RATE") (D.int (1000000))) Es.nil)))) (Tg.nm 2) (It.seq (E.var 0)) [3] (Tg.nm 3) (It.seq (E.var 2)) Es.nil [((PySem.Str.ofString "row"), 2), ((PySem.Str.ofString "rate"), 3)])) Es.nil))) (Sms.cons (Sm.ret (E.str (PySem.Str.ofString "rate"))) Sms.nil) Sms.nil) (Sms.cons (Sm.iff (E.blt Bl.any (Es.cons (E.fr false (L.cmp (E.cmp Cop.ne (E.ix (E.var 2) (E.var 4)) (E.int (0))) (Tg.tp (Tgs.cons (Tg.nm 4) (Tgs.cons (Tg.nm 2) Tgs.nil))) (It.enm (E.var 0)) Es.nil [((PySem.Str.ofString "place"), 4), ((PySem.Str.ofString "row"), 2)])) Es.nil)) (Sms.cons (Sm.ret (E.str (PySem.Str.ofString "own"))) Sms.nil) Sms.nil) (Sms.cons (Sm.ret E.non) Sms.nil)))))
def ir_p_web_error : FnI := ⟨1, 5, false, b_p_web_error⟩
noncomputable def s_p_web_error : Fn := runF [s_p_is_square, s_p_is_integer] ir_p_web_error
end RR

set_option linter.all false
set_option maxRecDepth 100000
namespace RR
open PySem
def b_even_rows_k14 : Sms := (Sms.cons (Sm.asg (Tg.tp (Tgs.cons (Tg.nm 3) (Tgs.cons (Tg.nm 4) Tgs.nil))) (E.tup (Es.cons (E.fr false (L.cmp (E.bin Bop.add (E.int (1)) (E.call 0 (Es.cons (E.var 0) (Es.cons (E.int (9)) Es.nil)))) (Tg.nm 8) (It.rng (Es.cons (E.var 1) Es.nil)) Es.nil [((PySem.Str.ofString "_law_place"), 8)])) (Es.cons (E.fr false (L.cmp (E.fr true (L.rep (E.fr false (L.dis (Es.cons (E.int (0)) Es.nil))) (E.var 1))) (Tg.nm 8) (It.rng (Es.cons (E.var 1) Es.nil)) Es.nil [((PySem.Str.ofString "_law_place"), 8)])) Es.nil)))) (Sms.cons (Sm.for_ (Tg.tp (Tgs.cons (Tg.nm 5) (Tgs.cons (Tg.nm 6) Tgs.nil))) (It.seq (E.var 2)) (Sms.cons (Sm.asg (Tg.nm 7) (E.bin Bop.add (E.int (1)) (E.call 0 (Es.cons (E.var 0) (Es.cons (E.int (30)) Es.nil))))) (Sms.cons (Sm.asg (Tg.tp (Tgs.cons (Tg.sub (E.ix (E.var 4) (E.var 5)) (E.var 6)) (Tgs.cons (Tg.sub (E.ix (E.var 4) (E.var 6)) (E.var 5)) Tgs.nil))) (E.tup (Es.cons (E.bin Bop.mul (E.var 7) (E.ix (E.var 3) (E.var 6))) (Es.cons (E.bin Bop.mul (E.var 7) (E.ix (E.var 3) (E.var 5))) Es.nil)))) (Sms.cons (Sm.fgt [5, 6, 7]) Sms.nil)))) (Sms.cons (Sm.ret (E.var 4)) Sms.nil)))
def ir_even_rows_k14 : FnI := ⟨3, 9, false, b_even_rows_k14⟩
noncomputable def s_even_rows_k14 : Fn := runF [s_draw] ir_even_rows_k14
def b_stretches : Sms := (Sms.cons (Sm.asg (Tg.tp (Tgs.cons (Tg.nm 4) (Tgs.cons (Tg.nm 5) Tgs.nil))) (E.tup (Es.cons (E.bin Bop.add (E.int (1)) (E.call 0 (Es.cons (E.var 0) (Es.cons (E.var 1) Es.nil)))) (Es.cons (E.call 0 (Es.cons (E.var 0) (Es.cons (E.int (4)) Es.nil))) Es.nil)))) (Sms.cons (Sm.asg (Tg.nm 2) (E.call 1 (Es.cons (E.var 0) (Es.cons (E.var 4) (Es.cons (E.call 2 (Es.cons (E.var 0) (Es.cons (E.var 4) Es.nil))) Es.nil))))) (Sms.cons (Sm.asg (Tg.nm 3) (E.fr false (L.cmp (E.fr true (L.rep (E.fr false (L.dis (Es.cons (E.tup (Es.cons (E.int (0)) (Es.cons (E.int (0)) Es.nil))) Es.nil))) (E.var 4))) (Tg.nm 8) (It.rng (Es.cons (E.var 4) Es.nil)) Es.nil [((PySem.Str.ofString "_law_place"), 8)]))) (Sms.cons (Sm.for_ (Tg.tp (Tgs.cons (Tg.nm 6) (Tgs.cons (Tg.nm 7) Tgs.nil))) (It.seq (E.call 3 (Es.cons (E.var 4) Es.nil))) (Sms.cons (Sm.for_ (Tg.tp (Tgs.cons (Tg.nm 9) (Tgs.cons (Tg.nm 10) Tgs.nil))) (It.seq (E.fr false (L.dis (Es.cons (E.tup (Es.cons (E.var 6) (Es.cons (E.var 7) Es.nil))) (Es.cons (E.tup (Es.cons (E.var 7) (Es.cons (E.var 6) Es.nil))) Es.nil))))) (Sms.cons (Sm.asg (Tg.nm 11) (E.ix (E.ix (E.var 2) (E.var 9)) (E.var 10))) (Sms.cons (Sm.iff (E.cmp Cop.gt (E.var 11) (E.int (0))) (Sms.cons (Sm.asg (Tg.nm 12) (E.blt Bl.mx (Es.cons (E.int (1)) (Es.cons (E.bin Bop.sub (E.var 11) (E.call 0 (Es.cons (E.var 0) (Es.cons (E.ix (E.fr false (L.dis (Es.cons (E.int (1)) (Es.cons (E.int (2)) (Es.cons (E.int (9)) (Es.cons (E.int (90)) Es.nil)))))) (E.var 5)) Es.nil)))) Es.nil)))) (Sms.cons (Sm.asg (Tg.nm 13) (E.bin Bop.add (E.var 11) (E.call 0 (Es.cons (E.var 0) (Es.cons (E.ix (E.fr false (L.dis (Es.cons (E.int (1)) (Es.cons (E.int (2)) (Es.cons (E.int (9)) (Es.cons (E.int (900)) Es.nil)))))) (E.var 5)) Es.nil))))) (Sms.cons (Sm.asg (Tg.sub (E.ix (E.var 3) (E.var 9)) (E.var 10)) (E.call 4 (Es.cons (E.var 0) (Es.cons (E.fr false (L.dis (Es.cons (E.tup (Es.cons (E.var 12) (Es.cons (E.var 13) Es.nil))) (Es.cons (E.tup (Es.cons (E.var 12) (Es.cons (E.var 13) Es.nil))) (Es.cons (E.tup (Es.cons (E.var 11) (Es.cons (E.var 11) Es.nil))) (Es.cons (E.tup (Es.cons (E.var 13) (Es.cons (E.var 13) Es.nil))) (Es.cons (E.tup (Es.cons (E.var 12) (Es.cons (E.var 12) Es.nil))) Es.nil))))))) Es.nil)))) Sms.nil))) Sms.nil) (Sms.cons (Sm.fgt [9, 10, 11]) Sms.nil)))) (Sms.cons (Sm.fgt [6, 7]) Sms.nil))) (Sms.cons (Sm.ret (E.call 5 (Es.cons (E.var 3) Es.nil))) Sms.nil)))))
def ir_stretches : FnI := ⟨2, 14, false, b_stretches⟩
noncomputable def s_stretches : Fn := runF [s_draw, s_even_rows_k14, s_some_ties, s_pairs, s_pick, s_tuples] ir_stretches
def b_p_is_pair : Sms := (Sms.cons (Sm.iff (E.or (E.nt (E.isi (E.var 0) Ty.tup)) (E.cmp Cop.ne (E.blt Bl.len (Es.cons (E.var 0) Es.nil)) (E.int (2)))) (Sms.cons (Sm.ret (E.bl false)) Sms.nil) Sms.nil) (Sms.cons (Sm.ret (E.an (E.blt Bl.all (Es.cons (E.fr false (L.cmp (E.call 0 (Es.cons (E.var 1) (Es.cons (E.int (0)) (Es.cons (E.con (PySem.Str.ofString "MAX_RATE") (D.int (1000000))) Es.nil)))) (Tg.nm 1) (It.seq (E.var 0)) Es.nil [((PySem.Str.ofString "item"), 1)])) Es.nil)) (E.cmp Cop.le (E.ix (E.var 0) (E.int (0))) (E.ix (E.var 0) (E.int (1)))))) Sms.nil))
def ir_p_is_pair : FnI := ⟨1, 2, false, b_p_is_pair⟩
noncomputable def s_p_is_pair : Fn := runF [s_p_is_integer] ir_p_is_pair
def b_p_is_one_way : Sms := (Sms.cons (Sm.asg (Tg.nm 3) (E.bin Bop.add (E.ix (E.ix (E.var 0) (E.var 1)) (E.var 2)) (E.ix (E.ix (E.var 0) (E.var 2)) (E.var 1)))) (Sms.cons (Sm.ret (E.an (E.blt Bl.any (Es.cons (E.fr false (L.cmp (E.cmp Cop.eq (E.var 4) (E.int (0))) (Tg.nm 4) (It.seq (E.var 3)) Es.nil [((PySem.Str.ofString "number"), 4)])) Es.nil)) (E.blt Bl.any (Es.cons (E.fr false (L.cmp (E.cmp Cop.gt (E.var 4) (E.int (0))) (Tg.nm 4) (It.seq (E.var 3)) Es.nil [((PySem.Str.ofString "number"), 4)])) Es.nil)))) Sms.nil))
def ir_p_is_one_way : FnI := ⟨3, 5, false, b_p_is_one_way⟩
noncomputable def s_p_is_one_way : Fn := runF [] ir_p_is_one_way
def b_p_stretches_error : Sms := (Sms.cons (Sm.asg (Tg.nm 1) (E.call 0 (Es.cons (E.var 0) Es.nil))) (Sms.cons (Sm.iff (E.cmp Cop.nsn (E.var 1) E.non) (Sms.cons (Sm.ret (E.ite (E.cmp Cop.eq (E.var 1) (E.str (PySem.Str.ofString "web"))) (E.str (PySem.Str.ofString "stretches")) (E.var 1))) Sms.nil) Sms.nil) (Sms.cons (Sm.iff (E.nt (E.blt Bl.all (Es.cons (E.fr false (L.cm2 (E.call 1 (Es.cons (E.var 5) Es.nil)) (Tg.nm 4) (It.seq (E.var 0)) [5] (Tg.nm 5) (It.seq (E.var 4)) Es.nil [((PySem.Str.ofString "row"), 4), ((PySem.Str.ofString "pair"), 5)])) Es.nil))) (Sms.cons (Sm.ret (E.str (PySem.Str.ofString "pair"))) Sms.nil) Sms.nil) (Sms.cons (Sm.iff (E.blt Bl.any (Es.cons (E.fr false (L.cmp (E.cmp Cop.ne (E.ix (E.var 4) (E.var 6)) (E.tup (Es.cons (E.int (0)) (Es.cons (E.int (0)) Es.nil)))) (Tg.tp (Tgs.cons (Tg.nm 6) (Tgs.cons (Tg.nm 4) Tgs.nil))) (It.enm (E.var 0)) Es.nil [((PySem.Str.ofString "place"), 6), ((PySem.Str.ofString "row"), 4)])) Es.nil)) (Sms.cons (Sm.ret (E.str (PySem.Str.ofString "own"))) Sms.nil) Sms.nil) (Sms.cons (Sm.iff (E.blt Bl.any (Es.cons (E.fr false (L.cm2 (E.call 2 (Es.cons (E.var 0) (Es.cons (E.var 3) (Es.cons (E.var 2) Es.nil)))) (Tg.nm 2) (It.rng (Es.cons (E.blt Bl.len (Es.cons (E.var 0) Es.nil)) Es.nil)) [3] (Tg.nm 3) (It.rng (Es.cons (E.var 2) Es.nil)) Es.nil [((PySem.Str.ofString "j"), 2), ((PySem.Str.ofString "i"), 3)])) Es.nil)) (Sms.cons (Sm.ret (E.str (PySem.Str.ofString "way"))) Sms.nil) Sms.nil) (Sms.cons (Sm.ret E.non) Sms.nil))))))
def ir_p_stretches_error : FnI := ⟨1, 7, false, b_p_stretches_error⟩
noncomputable def s_p_stretches_error : Fn := runF [s_p_is_square, s_p_is_pair, s_p_is_one_way] ir_p_stretches_error
def b_is_int : Sms := (Sms.cons (Sm.ret (E.an (E.isi (E.var 0) Ty.int) (E.an (E.nt (E.isi (E.var 0) Ty.bool)) (E.chn Cop.le Cop.le (E.var 1) (E.var 0) (E.var 2))))) Sms.nil)
def ir_is_int : FnI := ⟨3, 3, false, b_is_int⟩
noncomputable def s_is_int : Fn := runF [] ir_is_int
def b_is_pair : Sms := (Sms.cons (Sm.iff (E.or (E.nt (E.isi (E.var 0) Ty.tup)) (E.cmp Cop.ne (E.blt Bl.len (Es.cons (E.var 0) Es.nil)) (E.int (2)))) (Sms.cons (Sm.ret (E.bl false)) Sms.nil) Sms.nil) (Sms.cons (Sm.ret (E.an (E.cmp Cop.eq (E.fr false (L.cmp (E.int (1)) (Tg.nm 1) (It.seq (E.var 0)) (Es.cons (E.nt (E.call 0 (Es.cons (E.var 1) (Es.cons (E.int (0)) (Es.cons (E.bin Bop.pow (E.int (10)) (E.int (6))) Es.nil))))) Es.nil) [((PySem.Str.ofString "_law_item"), 1)])) (E.fr false (L.dis Es.nil))) (E.cmp Cop.le (E.ix (E.var 0) (E.int (0))) (E.ix (E.var 0) (E.int (1)))))) Sms.nil))
def ir_is_pair : FnI := ⟨1, 2, false, b_is_pair⟩
noncomputable def s_is_pair : Fn := runF [s_is_int] ir_is_pair
def b_word : Sms := (Sms.cons (Sm.iff (E.or (E.nt (E.isi (E.var 0) Ty.tup)) (E.nt (E.chn Cop.le Cop.le (E.int (1)) (E.blt Bl.len (Es.cons (E.var 0) Es.nil)) (E.int (6))))) (Sms.cons (Sm.ret (E.str (PySem.Str.ofString "stretches"))) Sms.nil) Sms.nil) (Sms.cons (Sm.for_ (Tg.nm 1) (It.seq (E.var 0)) (Sms.cons (Sm.iff (E.or (E.nt (E.isi (E.var 1) Ty.tup)) (E.cmp Cop.ne (E.blt Bl.len (Es.cons (E.var 1) Es.nil)) (E.blt Bl.len (Es.cons (E.var 0) Es.nil)))) (Sms.cons (Sm.ret (E.str (PySem.Str.ofString "row"))) Sms.nil) Sms.nil) Sms.nil)) (Sms.cons (Sm.for_ (Tg.nm 1) (It.seq (E.var 0)) (Sms.cons (Sm.iff (E.cmp Cop.ne (E.fr false (L.cmp (E.var 7) (Tg.nm 7) (It.seq (E.var 1)) (Es.cons (E.nt (E.call 0 (Es.cons (E.var 7) Es.nil))) Es.nil) [((PySem.Str.ofString "_law_pair"), 7)])) (E.fr false (L.dis Es.nil))) (Sms.cons (Sm.ret (E.str (PySem.Str.ofString "pair"))) Sms.nil) Sms.nil) Sms.nil)) (Sms.cons (Sm.iff (E.cmp Cop.ne (E.fr false (L.cmp (E.var 5) (Tg.nm 5) (It.rng (Es.cons (E.blt Bl.len (Es.cons (E.var 0) Es.nil)) Es.nil)) (Es.cons (E.cmp Cop.ne (E.ix (E.ix (E.var 0) (E.var 5)) (E.var 5)) (E.tup (Es.cons (E.int (0)) (Es.cons (E.int (0)) Es.nil)))) Es.nil) [((PySem.Str.ofString "_law_at"), 5)])) (E.fr false (L.dis Es.nil))) (Sms.cons (Sm.ret (E.str (PySem.Str.ofString "own"))) Sms.nil) Sms.nil) (Sms.cons (Sm.for_ (Tg.tp (Tgs.cons (Tg.nm 2) (Tgs.cons (Tg.nm 3) Tgs.nil))) (It.seq (E.call 1 (Es.cons (E.blt Bl.len (Es.cons (E.var 0) Es.nil)) Es.nil))) (Sms.cons (Sm.asg (Tg.nm 4) (E.fr false (L.cmp (E.cmp Cop.gt (E.var 6) (E.int (0))) (Tg.nm 6) (It.seq (E.bin Bop.add (E.ix (E.ix (E.var 0) (E.var 2)) (E.var 3)) (E.ix (E.ix (E.var 0) (E.var 3)) (E.var 2)))) Es.nil [((PySem.Str.ofString "_law_number"), 6)]))) (Sms.cons (Sm.iff (E.an (E.cmp Cop.inn (E.bl true) (E.var 4)) (E.cmp Cop.inn (E.bl false) (E.var 4))) (Sms.cons (Sm.ret (E.str (PySem.Str.ofString "way"))) Sms.nil) Sms.nil) (Sms.cons (Sm.fgt [2, 3, 4]) Sms.nil)))) (Sms.cons (Sm.ret E.non) Sms.nil))))))
def ir_word : FnI := ⟨1, 8, false, b_word⟩
noncomputable def s_word : Fn := runF [s_is_pair, s_pairs] ir_word
def b_law : Sms := (Sms.cons (Sm.asg (Tg.nm 1) (E.call 0 (Es.cons (E.var 0) Es.nil))) (Sms.cons (Sm.for_ (Tg.nm 2) (It.rng (Es.cons (E.int (8)) Es.nil)) (Sms.cons (Sm.asg (Tg.nm 3) (E.call 1 (Es.cons (E.var 1) (Es.cons (E.int (6)) Es.nil)))) (Sms.cons (Sm.asg (Tg.nm 4) (E.fr true (L.dis (Es.cons (E.var 3) (Es.cons (E.fr false (L.ofl (E.var 3))) (Es.cons (E.bin Bop.add (E.var 3) (E.slc (E.var 3) E.non (E.int (1)))) (Es.cons (E.slc (E.var 3) (E.int (1)) E.non) (Es.cons (E.tup Es.nil) (Es.cons E.non (Es.cons (E.dct [] Es.nil) (Es.cons (E.str (PySem.Str.ofString "")) (Es.cons (E.tup (Es.cons (E.tup (Es.cons (E.tup (Es.cons (E.int (0)) (Es.cons (E.int (0)) Es.nil))) Es.nil)) Es.nil)) (Es.cons (E.tup (Es.cons (E.tup (Es.cons (E.tup (Es.cons (E.int (0)) (Es.cons (E.int (1)) Es.nil))) Es.nil)) Es.nil)) Es.nil))))))))))))) (Sms.cons (Sm.exp (E.met Mt.append (E.var 4) (Es.cons (E.bin Bop.mul (E.tup (Es.cons (E.bin Bop.mul (E.tup (Es.cons (E.tup (Es.cons (E.int (0)) (Es.cons (E.int (0)) Es.nil))) Es.nil)) (E.int (7))) Es.nil)) (E.int (7))) Es.nil))) (Sms.cons (Sm.asg (Tg.tp (Tgs.cons (Tg.nm 8) (Tgs.cons (Tg.nm 9) Tgs.nil))) (E.tup (Es.cons (E.call 2 (Es.cons (E.var 1) (Es.cons (E.blt Bl.len (Es.cons (E.var 3) Es.nil)) Es.nil))) (Es.cons (E.call 2 (Es.cons (E.var 1) (Es.cons (E.blt Bl.len (Es.cons (E.var 3) Es.nil)) Es.nil))) Es.nil)))) (Sms.cons (Sm.for_ (Tg.nm 5) (It.seq (E.fr false (L.dis (Es.cons (E.tup (Es.cons (E.int (0)) (Es.cons (E.int (0)) Es.nil))) (Es.cons (E.tup (Es.cons (E.int (0)) (Es.cons (E.int (3)) Es.nil))) (Es.cons (E.tup (Es.cons (E.int (3)) (Es.cons (E.int (2)) Es.nil))) (Es.cons (E.tup (Es.cons (E.int (1)) (Es.cons (E.bin Bop.pow (E.int (10)) (E.int (6))) Es.nil))) (Es.cons (E.tup (Es.cons (E.int (1)) (Es.cons (E.bin Bop.add (E.bin Bop.pow (E.int (10)) (E.int (6))) (E.int (1))) Es.nil))) (Es.cons (E.tup (Es.cons (E.bl true) (Es.cons (E.int (1)) Es.nil))) (Es.cons (E.tup (Es.cons (E.neg (E.int (1))) (Es.cons (E.int (1)) Es.nil))) (Es.cons (E.tup (Es.cons (E.int (1)) (Es.cons (E.int (1)) (Es.cons (E.int (1)) Es.nil)))) (Es.cons (E.fr false (L.dis (Es.cons (E.int (1)) (Es.cons (E.int (1)) Es.nil)))) Es.nil)))))))))))) (Sms.cons (Sm.asg (Tg.nm 10) (E.bin Bop.add (E.bin Bop.add (E.slc (E.ix (E.var 3) (E.var 8)) E.non (E.var 9)) (E.tup (Es.cons (E.var 5) Es.nil))) (E.slc (E.ix (E.var 3) (E.var 8)) (E.bin Bop.add (E.var 9) (E.int (1))) E.non))) (Sms.cons (Sm.exp (E.met Mt.append (E.var 4) (Es.cons (E.bin Bop.add (E.bin Bop.add (E.slc (E.var 3) E.non (E.var 8)) (E.tup (Es.cons (E.var 10) Es.nil))) (E.slc (E.var 3) (E.bin Bop.add (E.var 8) (E.int (1))) E.non)) Es.nil))) (Sms.cons (Sm.fgt [5, 10]) Sms.nil)))) (Sms.cons (Sm.for_ (Tg.nm 6) (It.rng (Es.cons (E.int (5)) Es.nil)) (Sms.cons (Sm.asg (Tg.nm 11) (E.call 3 (Es.cons (E.var 1) (Es.cons (E.var 3) (Es.cons (E.int (3)) Es.nil))))) (Sms.cons (Sm.asg (Tg.nm 4) (E.bin Bop.add (E.var 4) (E.fr false (L.dis (Es.cons (E.var 11) (Es.cons (E.call 3 (Es.cons (E.var 1) (Es.cons (E.var 11) (Es.cons (E.int (3)) Es.nil)))) Es.nil)))))) (Sms.cons (Sm.fgt [6, 11]) Sms.nil)))) (Sms.cons (Sm.for_ (Tg.nm 7) (It.seq (E.var 4)) (Sms.cons (Sm.asg (Tg.nm 12) (E.blt Bl.repr (Es.cons (E.var 7) Es.nil))) (Sms.cons (Sm.iff (E.or (E.cmp Cop.ne (E.blt Bl.repr (Es.cons (E.call 4 (Es.cons (E.var 7) Es.nil)) Es.nil)) (E.blt Bl.repr (Es.cons (E.call 5 (Es.cons (E.var 7) Es.nil)) Es.nil))) (E.cmp Cop.ne (E.blt Bl.repr (Es.cons (E.var 7) Es.nil)) (E.var 12))) (Sms.cons (Sm.ret (E.bl false)) Sms.nil) Sms.nil) (Sms.cons (Sm.fgt [7, 12]) Sms.nil)))) (Sms.cons (Sm.fgt [2, 3, 4, 8, 9]) Sms.nil))))))))) (Sms.cons (Sm.ret (E.bl true)) Sms.nil)))
def ir_law : FnI := ⟨1, 13, false, b_law⟩
noncomputable def s_law : Fn := runF [s_deck, s_stretches, s_draw, s_bent, s_p_stretches_error, s_word] ir_law
end RR

set_option Elab.async false
set_option linter.all false
set_option maxRecDepth 100000
set_option maxHeartbeats 1000000
/-! plain lemmas of the small language -/
namespace RR
open PySem L2
/-! ### how long a text of data is -/
mutual
def wz : PyData → Nat
  | .none => 4
  | .bool _ => 5
  | .int _ => 1921
  | .str x => 10 * x.length + 2
  | .list xs => 3 + wzs xs
  | .tuple xs => 3 + wzs xs
  | .dict _ => 2
def wzs : List PyData → Nat
  | [] => 0
  | x :: xs => wz x + 2 + wzs xs
end
mutual
def wok : PyData → Bool
  | .none => true
  | .bool _ => true
  | .int i => decide (i.natAbs.log2 < 1920)
  | .str x => x.cps.toList.all fun c => decide (c < 16 ^ 8)
  | .list xs => woks xs
  | .tuple xs => woks xs
  | .dict l => l.isEmpty
def woks : List PyData → Bool
  | [] => true
  | x :: xs => wok x && woks xs
end
theorem textFrom_le : ∀ (ts : List Str) (k : Nat) (acc : Str), (textFrom k acc ts).length ≤ acc.length + (ts.map (·.length + 2)).sum
  | [], k, acc => by simp [textFrom]
  | t :: r, k, acc => by
    have h := textFrom_le r (k + 1) (acc ++ (if k > 0 then ", " else "" : String) ++ t)
    have e : (acc ++ (if k > 0 then ", " else "" : String) ++ t).length = acc.length + (if k > 0 then 2 else 0) + t.length := by
      rw [strLen_append, strLen_append]
      split <;> rfl
    have hb : (if k > 0 then 2 else 0 : Nat) ≤ 2 := by split <;> omega
    rw [e] at h
    show (textFrom (k + 1) _ r).length ≤ _
    simp only [List.map_cons, List.sum_cons]
    exact Nat.le_trans h (by omega)
theorem piled_eq : ∀ ts : List Str, piled ts = (ts.map (·.length + 2)).sum
  | [] => rfl
  | t :: r => by
    have := piled_eq r
    simp [piled] at this ⊢
mutual
theorem wz_le : ∀ d : PyData, wok d = true → d.shown.length ≤ wz d ∧ d.showable = true
  | .none, _ => ⟨by show (4 : Nat) ≤ 4; omega, rfl⟩
  | .bool b, _ => ⟨by cases b <;> (first | (show (4 : Nat) ≤ 5; omega) | (show (5 : Nat) ≤ 5; omega)), rfl⟩
  | .int i, h => ⟨PyProof.Rows.int_text_len_1921 (of_decide_eq_true h), h⟩
  | .str x, h => ⟨StrLaws.reprText_len x fun c hc => of_decide_eq_true (List.all_eq_true.mp h c hc), rfl⟩
  | .list xs, h => by
    obtain ⟨h1, h2⟩ := wzs_le xs h
    refine ⟨?_, h2⟩
    show (textFrom 0 "[" (PyData.shownAll xs) ++ "]").length ≤ 3 + wzs xs
    rw [strLen_append]
    have := textFrom_le (PyData.shownAll xs) 0 "["
    have e1 : (("[" : String) : Str).length = 1 := rfl
    have e2 : (("]" : String) : Str).length = 1 := rfl
    omega
  | .tuple xs, h => by
    obtain ⟨h1, h2⟩ := wzs_le xs h
    refine ⟨?_, h2⟩
    show (("(" : Str) ++ Str.join ", " (PyData.shownAll xs) ++ (if (PyData.shownAll xs).length == 1 then ",)" else ")" : String)).length ≤ 3 + wzs xs
    rw [strLen_append, strLen_append]
    have e1 : (("(" : String) : Str).length = 1 := rfl
    have e2 : ((if (PyData.shownAll xs).length == 1 then ",)" else ")" : String) : Str).length ≤ 2 := by split <;> decide
    cases xs with
    | nil =>
      have e3 : (Str.join ", " (PyData.shownAll [])).length = 0 := rfl
      rw [e3]
      omega
    | cons x xs =>
      have := join_length_add (PyData.shownAll (x :: xs)) (by simp [PyData.shownAll])
      rw [piled_eq] at this
      omega
  | .dict [], _ => ⟨by decide, rfl⟩
  | .dict (_ :: _), h => nomatch h
theorem wzs_le : ∀ ds : List PyData, woks ds = true → ((PyData.shownAll ds).map (·.length + 2)).sum ≤ wzs ds ∧ PyData.showableAll ds = true
  | [], _ => ⟨Nat.le_refl _, rfl⟩
  | d :: ds, h => by
    obtain ⟨h1, h2⟩ := Bool.and_eq_true_iff.mp (show (wok d && woks ds) = true from h)
    obtain ⟨a1, a2⟩ := wz_le d h1
    obtain ⟨b1, b2⟩ := wzs_le ds h2
    refine ⟨?_, ?_⟩
    · show ((d.shown.length + 2) :: (PyData.shownAll ds).map (·.length + 2)).sum ≤ wz d + 2 + wzs ds
      rw [List.sum_cons]
      omega
    · show (d.showable && PyData.showableAll ds) = true
      rw [a2, b2]; rfl
end
/-- repr of a value of this kind -/
theorem repr_ok {S : Store} {d : D} {p : PyData} (h : pyD S d = some p) (hw : wok p = true) (hz : wz p ≤ 16777216) (hd : p.depth ≤ 64) : reprD S d = some p.shown := by
  obtain ⟨h1, h2⟩ := wz_le p hw
  unfold reprD
  rw [h]
  exact if_pos ⟨h2, by omega, hd⟩
/-! ### what is as it is -/
section
variable {α β : Type} {S : Store} {r : Env}
theorem bnd_ok {a : α} {f : α → Store → R β} : (R.ok a S).bnd f = f a S := rfl
theorem bnd_exc {c : Str} {fs : Flds} {f : α → Store → R β} : (R.exc c fs S).bnd f = .exc c fs S := rfl
theorem opt_some {a : α} : R.opt (some a) S = .ok a S := rfl
theorem nx_ok {a : α} : (R.ok a S).nx = .ok a S := rfl
theorem fl_ok {a : α} {f : α → Store → Fl} : (R.ok a S).fl r f = f a S := rfl
theorem fl_exc {c : Str} {fs : Flds} {f : α → Store → Fl} : (R.exc c fs S : R α).fl r f = .exc c fs r S := rfl
end
theorem run_ok {G : List Fn} {F : FnI} {args : List D} {S : Store} (h : args.length = F.np) : runF G F args S = exitR F.keep S (exs G F.body (args.map some ++ List.replicate (F.ns - F.np) none) S) := by
  unfold runF
  exact if_pos h
theorem exit_ret {keep : Bool} {S0 S : Store} {d : D} : exitR keep S0 (.ret d S) = fin keep S0 d S := rfl
theorem exit_next {keep : Bool} {S0 S : Store} {r : Env} : exitR keep S0 (.next r S) = fin keep S0 .non S := rfl
theorem fin_keep {S0 S : Store} {d : D} : fin true S0 d S = .ok d S := by unfold fin; exact if_pos rfl
/-- a statement that goes on -/
theorem exs_next {G : List Fn} {s : Sm} {ss : Sms} {r r1 : Env} {S S1 : Store} (h : ex G s r S = .next r1 S1) : exs G (.cons s ss) r S = exs G ss r1 S1 := by
  rw [exs, h]
theorem exs_ret {G : List Fn} {s : Sm} {ss : Sms} {r : Env} {S S1 : Store} {d : D} (h : ex G s r S = .ret d S1) : exs G (.cons s ss) r S = .ret d S1 := by
  rw [exs, h]
theorem ex_asg {G : List Fn} {t : Tg} {e : E} {r r1 : Env} {S S1 S2 : Store} {d : D} (h : ev G e r S = .ok d S1) (h2 : asg G t d r S1 = .ok r1 S2) : ex G (.asg t e) r S = .next r1 S2 := by
  rw [ex, h, fl_ok, h2]; rfl
theorem ex_exp {G : List Fn} {e : E} {r : Env} {S S1 : Store} {d : D} (h : ev G e r S = .ok d S1) : ex G (.exp e) r S = .next r S1 := by
  rw [ex, h]; rfl
theorem ex_ret {G : List Fn} {e : E} {r : Env} {S S1 : Store} {d : D} (h : ev G e r S = .ok d S1) : ex G (.ret e) r S = .ret d S1 := by
  rw [ex, h]; rfl
theorem ex_iff {G : List Fn} {e : E} {a b : Sms} {r : Env} {S S1 : Store} {t : Bool} (h : ev G e r S = .ok (.bl t) S1) : ex G (.iff e a b) r S = bif t then exs G a r S1 else exs G b r S1 := by
  rw [ex, h]
  cases t <;> rfl
theorem ex_for {G : List Fn} {t : Tg} {it : It} {b : Sms} {r : Env} {S S1 : Store} {p : List D × Gd} (h : itm G it r S = .ok p S1) : ex G (.for_ t it b) r S = forS (fun x r S => asg G t x r S) (fun r S => exs G b r S) p.2 p.1 r S1 := by
  rw [ex, h]; rfl
/-! ### the operations, one by one -/
section
variable {S : Store} {i j : Int} {a b : Bool} {x y : D} {xs ys : List D} {n : Nat}
theorem q_add : binD S .add (.int i) (.int j) = some (.int (i + j)) := rfl
theorem q_sub : binD S .sub (.int i) (.int j) = some (.int (i - j)) := rfl
theorem q_mul (h : mulOk i j) : binD S .mul (.int i) (.int j) = some (.int (i * j)) := if_pos h
theorem q_fdv (h : divOk j) : binD S .fdv (.int i) (.int j) = some (.int (i / j)) := if_pos h
theorem q_mod (h : j ≠ 0) : binD S .mod (.int i) (.int j) = some (.int (i.fmod j)) := if_pos h
theorem q_pow (h : 0 ≤ j ∧ j ≤ 1000000 ∧ i.natAbs < 2 ^ 64) : binD S .pow (.int i) (.int j) = some (.int (i ^ j.toNat)) := if_pos h
theorem q_lt : cmpD S .lt (.int i) (.int j) = some (decide (i < j)) := rfl
theorem q_le : cmpD S .le (.int i) (.int j) = some (decide (i ≤ j)) := rfl
theorem q_gt : cmpD S .gt (.int i) (.int j) = some (decide (j < i)) := rfl
theorem q_ge : cmpD S .ge (.int i) (.int j) = some (decide (j ≤ i)) := rfl
theorem q_eqi : cmpD S .eq (.int i) (.int j) = some (i == j) := by
  show (if okPy (.int i) = true ∧ okPy (.int j) = true then some (i == j) else none) = _
  exact if_pos ⟨rfl, rfl⟩
theorem q_nei : cmpD S .ne (.int i) (.int j) = some (!(i == j)) := by
  show ((if okPy (.int i) = true ∧ okPy (.int j) = true then some (i == j) else none).map _) = _
  rw [if_pos ⟨rfl, rfl⟩]; rfl
theorem q_int : bltD S .int [.int i] = some (.int i) := rfl
theorem q_abs : bltD S .abs [.int i] = some (.int (if i < 0 then -i else i)) := rfl
theorem q_lenL : bltD S .len [.lst xs] = some (.int xs.length) := rfl
theorem q_lenT : bltD S .len [.tup xs] = some (.int xs.length) := rfl
theorem q_lenS {ns : List Int} : bltD S .len [.scr ns] = some (.int ns.length) := by
  show some (D.int ((ns.map D.int).length : Nat)) = _
  rw [List.length_map]
theorem q_lenR (h : S[n]? = some (.lst xs)) : bltD S .len [.ref n] = some (.int xs.length) := by
  show (itemsD S (.ref n)).map _ = _
  simp only [itemsD, h]; rfl
theorem q_tupT : bltD S .tup [.tup xs] = some (.tup xs) := rfl
theorem q_tupL : bltD S .tup [.lst xs] = some (.tup xs) := rfl
theorem q_tupR (h : S[n]? = some (.lst xs)) : bltD S .tup [.ref n] = some (.tup xs) := by
  show (itemsD S (.ref n)).map _ = _
  simp only [itemsD, h]; rfl
theorem q_ixL (h : atI xs i = some x) : ixD S (.lst xs) (.int i) = some x := h
theorem q_ixT (h : atI xs i = some x) : ixD S (.tup xs) (.int i) = some x := h
theorem q_ixR (h : S[n]? = some (.lst xs)) (h2 : atI xs i = some x) : ixD S (.ref n) (.int i) = some x := by
  show (match itemsD S (.ref n) with
    | some xs => atI xs i
    | none => none) = _
  simp only [itemsD, h]; exact h2
theorem q_tr : truthD S (.bl a) = some a := rfl
theorem at_of {α : Type} {xs : List α} {i : Int} {x : α} (h0 : 0 ≤ i) (h : xs[i.toNat]? = some x) : atI xs i = some x := by
  have hl := (List.getElem?_eq_some_iff.mp h).1
  unfold atI ixN
  rw [if_pos h0, if_pos (by omega)]
  exact h
end
/-! ### comprehensions, loops -/
section
variable {at_ : D → Env → Store → R Env} {cd : Env → Store → R Bool} {el : Env → Store → R D} {g : Gd} {r : Env}
/-- all turns alike, the store as it is -/
theorem cmp_map {S : Store} (f : D → D) (hg : gdOk g S) : ∀ {xs : List D}, (∀ x ∈ xs, ∃ r1, at_ x r S = .ok r1 S ∧ cd r1 S = .ok true S ∧ el r1 S = .ok (f x) S) → cmpS at_ cd el g r xs S = .ok (xs.map f) S
  | [], _ => by unfold cmpS; exact if_pos hg
  | x :: xs, h => by
    obtain ⟨r1, h1, h2, h3⟩ := h x List.mem_cons_self
    unfold cmpS
    rw [if_pos hg, h1, bnd_ok, h2, bnd_ok, if_pos rfl, h3, bnd_ok, cmp_map f hg (xs := xs) fun y hy => h y (List.mem_cons_of_mem _ hy)]
    rfl
/-- .. with a test -/
theorem cmp_filter {S : Store} (p : D → Bool) (f : D → D) (hg : gdOk g S) : ∀ {xs : List D}, (∀ x ∈ xs, ∃ r1, at_ x r S = .ok r1 S ∧ cd r1 S = .ok (p x) S ∧ (p x = true → el r1 S = .ok (f x) S)) → cmpS at_ cd el g r xs S = .ok ((xs.filter p).map f) S
  | [], _ => by unfold cmpS; exact if_pos hg
  | x :: xs, h => by
    obtain ⟨r1, h1, h2, h3⟩ := h x List.mem_cons_self
    have ih := cmp_filter p f hg (xs := xs) fun y hy => h y (List.mem_cons_of_mem _ hy)
    unfold cmpS
    rw [if_pos hg, h1, bnd_ok, h2, bnd_ok]
    cases q : p x with
    | false =>
      rw [if_neg Bool.false_ne_true, ih, List.filter_cons_of_neg (by rw [q]; simp)]
    | true =>
      rw [if_pos rfl, h3 q, bnd_ok, ih, List.filter_cons_of_pos q]
      rfl
/-- turns that change the store, by an invariant -/
theorem cmp_inv {I : Nat → Store → Prop} {V : D → Prop} : ∀ {xs : List D} {S : Store} {n : Nat}, I n S → (∀ n S, I n S → gdOk g S) →
    (∀ x ∈ xs, ∀ m S, m < n + xs.length → I m S → ∃ r1 S1 b S2, at_ x r S = .ok r1 S1 ∧ cd r1 S1 = .ok b S2 ∧ ((b = true ∧ ∃ y S3, el r1 S2 = .ok y S3 ∧ V y ∧ I (m + 1) S3) ∨ (b = false ∧ I (m + 1) S2))) →
    ∃ ys S', cmpS at_ cd el g r xs S = .ok ys S' ∧ (∀ y ∈ ys, V y) ∧ ys.length ≤ xs.length ∧ I (n + xs.length) S'
  | [], S, n, h, hg, _ => ⟨[], S, by unfold cmpS; exact if_pos (hg n S h), by simp, Nat.le_refl _, h⟩
  | x :: xs, S, n, h, hg, ht => by
    obtain ⟨r1, S1, b, S2, h1, h2, h3⟩ := ht x List.mem_cons_self n S (by simp) h
    rcases h3 with ⟨rfl, y, S3, h4, h5, h6⟩ | ⟨rfl, h6⟩
    · obtain ⟨ys, S', e, v, l, i⟩ := cmp_inv (xs := xs) h6 hg fun z hz m S hm => ht z (List.mem_cons_of_mem _ hz) m S (by rw [List.length_cons]; omega)
      refine ⟨y :: ys, S', ?_, ?_, by simp; omega, by rw [List.length_cons, show n + (xs.length + 1) = n + 1 + xs.length by omega]; exact i⟩
      · unfold cmpS
        rw [if_pos (hg n S h), h1, bnd_ok, h2, bnd_ok, if_pos rfl, h4, bnd_ok, e]
        rfl
      · intro z hz
        rcases List.mem_cons.mp hz with q | q
        · rw [q]; exact h5
        · exact v z q
    · obtain ⟨ys, S', e, v, l, i⟩ := cmp_inv (xs := xs) h6 hg fun z hz m S hm => ht z (List.mem_cons_of_mem _ hz) m S (by rw [List.length_cons]; omega)
      refine ⟨ys, S', ?_, v, by simp; omega, by rw [List.length_cons, show n + (xs.length + 1) = n + 1 + xs.length by omega]; exact i⟩
      unfold cmpS
      rw [if_pos (hg n S h), h1, bnd_ok, h2, bnd_ok, if_neg Bool.false_ne_true, e]
/-- .. without a test: as many as there are -/
theorem cmp_all {I : Nat → Store → Prop} {V : Nat → D → Prop} : ∀ {xs : List D} {S : Store} {n : Nat}, I n S → (∀ n S, I n S → gdOk g S) →
    (∀ i x, xs[i]? = some x → ∀ S, I (n + i) S → ∃ r1 S1 S2 y S3, at_ x r S = .ok r1 S1 ∧ cd r1 S1 = .ok true S2 ∧ el r1 S2 = .ok y S3 ∧ V (n + i) y ∧ I (n + i + 1) S3) →
    ∃ ys S', cmpS at_ cd el g r xs S = .ok ys S' ∧ (∀ i y, ys[i]? = some y → V (n + i) y) ∧ ys.length = xs.length ∧ I (n + xs.length) S'
  | [], S, n, h, hg, _ => ⟨[], S, by unfold cmpS; exact if_pos (hg n S h), by simp, rfl, h⟩
  | x :: xs, S, n, h, hg, ht => by
    obtain ⟨r1, S1, S2, y, S3, h1, h2, h4, h5, h6⟩ := ht 0 x rfl S h
    obtain ⟨ys, S', e, v, l, i⟩ := cmp_all (xs := xs) (n := n + 1) h6 hg fun i z hz S hS => by
      have := ht (i + 1) z (by simpa using hz) S (by rw [show n + (i + 1) = n + 1 + i by omega]; exact hS)
      rw [show n + (i + 1) = n + 1 + i by omega] at this
      exact this
    refine ⟨y :: ys, S', ?_, fun i z hz => ?_, by simp [l], by rw [List.length_cons, show n + (xs.length + 1) = n + 1 + xs.length by omega]; exact i⟩
    · unfold cmpS
      rw [if_pos (hg n S h), h1, bnd_ok, h2, bnd_ok, if_pos rfl, h4, bnd_ok, e]
      rfl
    · cases i with
      | zero => simp at hz; subst hz; exact h5
      | succ i =>
        have := v i z (by simpa using hz)
        rw [show n + (i + 1) = n + 1 + i by omega]
        exact this
/-- a loop by an invariant, no break, no return -/
theorem for_inv {bd : Env → Store → Fl} {I : Nat → Env → Store → Prop} : ∀ {xs : List D} {r : Env} {S : Store} {n : Nat}, I n r S → (∀ n r S, I n r S → gdOk g S) →
    (∀ i x, xs[i]? = some x → ∀ r S, I (n + i) r S → ∃ r1 S1 r2 S2, at_ x r S = .ok r1 S1 ∧ (bd r1 S1 = .next r2 S2 ∨ bd r1 S1 = .con r2 S2) ∧ I (n + i + 1) r2 S2) →
    ∃ r' S', forS at_ bd g xs r S = .next r' S' ∧ I (n + xs.length) r' S'
  | [], r, S, n, h, hg, _ => ⟨r, S, by unfold forS; exact if_pos (hg n r S h), h⟩
  | x :: xs, r, S, n, h, hg, ht => by
    obtain ⟨r1, S1, r2, S2, h1, h2, h3⟩ := ht 0 x rfl r S h
    obtain ⟨r', S', e, i⟩ := for_inv (xs := xs) (n := n + 1) h3 hg fun i z hz r S hS => by
      have := ht (i + 1) z (by simpa using hz) r S (by rw [show n + (i + 1) = n + 1 + i by omega]; exact hS)
      rw [show n + (i + 1) = n + 1 + i by omega] at this
      exact this
    refine ⟨r', S', ?_, by rw [List.length_cons, show n + (xs.length + 1) = n + 1 + xs.length by omega]; exact i⟩
    unfold forS
    rw [if_pos (hg n r S h), h1, nx_ok, fl_ok]
    rcases h2 with h2 | h2 <;> (rw [h2]; exact e)
end
/-! ### statements and comprehensions at the goal -/
section
variable {G : List Fn} {t : Tg} {it : It} {b ss : Sms} {r : Env} {S S1 : Store} {xs : List D} {g : Gd}
theorem for_goal {P : Fl → Prop} (I : Nat → Env → Store → Prop) (h : itm G it r S = .ok (xs, g) S1) (h0 : I 0 r S1) (hg : ∀ n r S, I n r S → gdOk g S)
    (ht : ∀ i x, xs[i]? = some x → ∀ r S, I i r S → ∃ r1 S1 r2 S2, asg G t x r S = .ok r1 S1 ∧ (exs G b r1 S1 = .next r2 S2 ∨ exs G b r1 S1 = .con r2 S2) ∧ I (i + 1) r2 S2)
    (hk : ∀ r' S', I xs.length r' S' → P (exs G ss r' S')) : P (exs G (.cons (.for_ t it b) ss) r S) := by
  obtain ⟨r', S', e, i⟩ := for_inv (at_ := fun x r S => asg G t x r S) (bd := fun r S => exs G b r S) (g := g) (I := I) (xs := xs) (n := 0) h0 hg (by
    intro i x hx r S hI
    rw [Nat.zero_add] at hI ⊢
    exact ht i x hx r S hI)
  rw [Nat.zero_add] at i
  rw [exs_next ((ex_for h).trans e)]
  exact hk r' S' i
theorem if_goal {P : Fl → Prop} {e : E} {a b : Sms} {v : Bool} (h : ev G e r S = .ok (.bl v) S1) (h1 : v = true → P (match exs G a r S1 with
      | .next r1 S1 => exs G ss r1 S1
      | o => o)) (h2 : v = false → P (match exs G b r S1 with
      | .next r1 S1 => exs G ss r1 S1
      | o => o)) : P (exs G (.cons (.iff e a b) ss) r S) := by
  rw [exs, ex_iff h]
  cases v with
  | true => exact h1 rfl
  | false => exact h2 rfl
theorem if_no {P : Fl → Prop} {e : E} {a : Sms} {v : Bool} (h : ev G e r S = .ok (.bl v) S1) (h1 : v = true → P (match exs G a r S1 with
      | .next r1 S1 => exs G ss r1 S1
      | o => o)) (h2 : v = false → P (exs G ss r S1)) : P (exs G (.cons (.iff e a .nil) ss) r S) := if_goal h h1 fun hv => by
  rw [exs]
  exact h2 hv
theorem ev_cmp {al : Bool} {e : E} {c : Es} {own : List (Str × Nat)} {ys : List D} {S2 : Store} (h : itm G it r S = .ok (xs, g) S1) (hl : xs.length ≤ 16777216)
    (hc : cmpS (fun x r S => asg G t x r S) (fun r S => cnd G c r S) (fun r S => ev G e r S) g (wipeE r own) xs S1 = .ok ys S2) : ev G (.fr al (.cmp e t it c own)) r S = mkL al (.ok ys S2) := by
  rw [ev, evl, h, bnd_ok, if_pos hl, hc]; rfl
theorem mk_val {ys : List D} : mkL false (.ok ys S) = .ok (.lst ys) S := by unfold mkL; exact if_neg Bool.false_ne_true
theorem mk_ref {ys : List D} : mkL true (.ok ys S) = .ok (.ref S.length) (S ++ [.lst ys]) := by unfold mkL; exact if_pos rfl
theorem evs_one {e : E} {x : D} (h : ev G e r S = .ok x S1) : evs G (.cons e .nil) r S = .ok [x] S1 := by
  rw [evs, h, bnd_ok, evs]; rfl
theorem evs_cons {e : E} {es : Es} {x : D} {S2 : Store} (h : ev G e r S = .ok x S1) (h2 : evs G es r S1 = .ok xs S2) : evs G (.cons e es) r S = .ok (x :: xs) S2 := by
  rw [evs, h, bnd_ok, h2]; rfl
end
theorem ev_met {G : List Fn} {m : Mt} {a : E} {es : Es} {r : Env} {S S1 S2 S3 : Store} {i : Nat} {xs : List D} {d : D} (h : ev G a r S = .ok (.ref i) S1) (h2 : evs G es r S1 = .ok xs S2) (h3 : metD S2 m (.ref i) xs = .ok d S3) : ev G (.met m a es) r S = .ok d S3 := by
  rw [ev, h, bnd_ok]
  show (evs G es r S1).bnd _ = _
  rw [h2, bnd_ok, h3]
theorem ev_blt {G : List Fn} {b : Bl} {es : Es} {r : Env} {S S1 : Store} {xs : List D} {d : D} (h : evs G es r S = .ok xs S1) (h2 : bltD S1 b xs = some d) : ev G (.blt b es) r S = .ok d S1 := by
  rw [ev, h, bnd_ok, h2]; rfl
theorem ev_call {G : List Fn} {i : Nat} {es : Es} {r : Env} {S S1 S2 : Store} {xs : List D} {d : D} {f : Fn} (hf : G[i]? = some f) (h : evs G es r S = .ok xs S1) (h2 : f xs S1 = .ok d S2) : ev G (.call i es) r S = .ok d S2 := by
  rw [ev, h, bnd_ok, hf]; exact h2
theorem ev_dis {G : List Fn} {al : Bool} {es : Es} {r : Env} {S S1 : Store} {xs : List D} (h : evs G es r S = .ok xs S1) : ev G (.fr al (.dis es)) r S = mkL al (.ok xs S1) := by
  rw [ev, evl, h]
theorem ev_tup {G : List Fn} {es : Es} {r : Env} {S S1 : Store} {xs : List D} (h : evs G es r S = .ok xs S1) : ev G (.tup es) r S = .ok (.tup xs) S1 := by
  rw [ev, h]; rfl
mutual
theorem fz_one {n : Nat} {r : Nat → Option D} : ∀ d : D, noRef d = true → fzR n r d = some d
  | .non, _ => rfl
  | .bl _, _ => rfl
  | .int _, _ => rfl
  | .str _, _ => rfl
  | .scr _, _ => rfl
  | .tup xs, h => by show (fzsR n r xs).map D.tup = _; rw [fz_all xs h]; rfl
  | .lst xs, h => by show (fzsR n r xs).map D.lst = _; rw [fz_all xs h]; rfl
  | .dct ks xs, h => by show (fzsR n r xs).map (D.dct ks) = _; rw [fz_all xs h]; rfl
  | .ref _, h => nomatch h
theorem fz_all {n : Nat} {r : Nat → Option D} : ∀ ds : List D, noRefs ds = true → fzsR n r ds = some ds
  | [], _ => rfl
  | d :: ds, h => by
    obtain ⟨h1, h2⟩ := Bool.and_eq_true_iff.mp (show (noRef d && noRefs ds) = true from h)
    unfold fzsR
    rw [fz_one d h1, fz_all ds h2]
end
end RR

set_option Elab.async false
set_option linter.all false
set_option maxRecDepth 100000
set_option maxHeartbeats 1000000
/-! evaluation by rules -/
namespace RR.N
open PySem L2
/-- from a up to b -/
def rg (a b : Int) : List Int := (List.range (b - a).toNat).map fun (i : Nat) => a + (i : Int)
theorem rgI_eq (a b : Int) : rgI a b = (rg a b).map .int := by
  unfold rgI rg
  rw [List.map_map]; rfl
theorem rg_len (a b : Int) : (rg a b).length = (b - a).toNat := by simp [rg]
theorem mem_rg {a b x : Int} : x ∈ rg a b ↔ a ≤ x ∧ x < b := by
  unfold rg
  simp only [List.mem_map, List.mem_range]
  constructor
  · rintro ⟨i, h, rfl⟩; omega
  · rintro ⟨h1, h2⟩; exact ⟨(x - a).toNat, by omega, by omega⟩
theorem rg_get {a b : Int} {i : Nat} (h : i < (b - a).toNat) : (rg a b)[i]? = some (a + i) := by
  unfold rg
  rw [List.getElem?_map, List.getElem?_range h]; rfl
section
variable {G : List Fn} {r : Env} {S S1 S2 S3 : Store} {x y z : D} {i j : Int} {p q : Bool}
theorem ev_non : ev G .non r S = .ok .non S := by rw [ev]
theorem ev_bl {b : Bool} : ev G (.bl b) r S = .ok (.bl b) S := by rw [ev]
theorem ev_int {i : Int} : ev G (.int i) r S = .ok (.int i) S := by rw [ev]
theorem ev_str {z : Str} : ev G (.str z) r S = .ok (.str z) S := by rw [ev]
theorem ev_con {z : Str} {d : D} : ev G (.con z d) r S = .ok d S := by rw [ev]
theorem ev_var {i : Nat} {d : D} (h : look r i = some d) : ev G (.var i) r S = .ok d S := by rw [ev, h]; rfl
theorem ev_varQ {i : Nat} {q : R D} (h : ev G (.var i) r S = q) : ev G (.var i) r S = q := h
theorem ev_tupQ {es : Es} {q : R D} (h : ev G (.tup es) r S = q) : ev G (.tup es) r S = q := h
theorem ev_bin {o : Bop} {a b : E} {d : D} (h : ev G a r S = .ok x S1) (h2 : ev G b r S1 = .ok y S2) (h3 : binD S2 o x y = some d) : ev G (.bin o a b) r S = .ok d S2 := by
  rw [ev, h]; show (ev G b r S1).bnd _ = _; rw [h2]; show R.opt (binD S2 o x y) S2 = _; rw [h3]; rfl
theorem ev_neg {a : E} (h : ev G a r S = .ok (.int i) S1) : ev G (.neg a) r S = .ok (.int (-i)) S1 := by rw [ev, h]; rfl
theorem ev_nt {a : E} (h : ev G a r S = .ok x S1) (h2 : truthD S1 x = some p) : ev G (.nt a) r S = .ok (.bl (!p)) S1 := by
  rw [ev, h]; show R.opt ((truthD S1 x).map _) S1 = _; rw [h2]; rfl
theorem ev_an {a b : E} (h : ev G a r S = .ok (D.bl p) S1) (h2 : p = true → ev G b r S1 = .ok (.bl q) S1) : ev G (.an a b) r S = .ok (.bl (p && q)) S1 := by
  rw [ev, h]
  show (match truthD S1 (D.bl p) with | some true => ev G b r S1 | some false => R.ok (D.bl p) S1 | none => R.bad) = _
  cases p with
  | true => exact h2 rfl
  | false => rfl
theorem ev_or {a b : E} (h : ev G a r S = .ok (D.bl p) S1) (h2 : p = false → ev G b r S1 = .ok (.bl q) S1) : ev G (.or a b) r S = .ok (.bl (p || q)) S1 := by
  rw [ev, h]
  show (match truthD S1 (D.bl p) with | some true => R.ok (D.bl p) S1 | some false => ev G b r S1 | none => .bad) = _
  cases p with
  | false => exact h2 rfl
  | true => rfl
theorem ev_cmp {o : Cop} {a b : E} (h : ev G a r S = .ok x S1) (h2 : ev G b r S1 = .ok y S2) (h3 : cmpD S2 o x y = some p) : ev G (.cmp o a b) r S = .ok (.bl p) S2 := by
  rw [ev, h]; show (ev G b r S1).bnd _ = _; rw [h2]; show R.opt ((cmpD S2 o x y).map D.bl) S2 = _; rw [h3]; rfl
theorem ev_chn {o o2 : Cop} {a b c : E} (h : ev G a r S = .ok x S1) (h2 : ev G b r S1 = .ok y S2) (h3 : cmpD S2 o x y = some p) (h4 : p = true → ev G c r S2 = .ok z S2) (h5 : p = true → cmpD S2 o2 y z = some q) : ev G (.chn o o2 a b c) r S = .ok (.bl (p && q)) S2 := by
  rw [ev, h]; show (ev G b r S1).bnd _ = _; rw [h2]
  show (match cmpD S2 o x y with
    | some true => (ev G c r S2).bnd fun z S3 => .opt ((cmpD S3 o2 y z).map D.bl) S3
    | some false => R.ok (D.bl false) S2
    | none => R.bad) = _
  rw [h3]
  cases p with
  | false => rfl
  | true =>
    show (ev G c r S2).bnd _ = _
    rw [h4 rfl]; show R.opt ((cmpD S2 o2 y z).map D.bl) S2 = _; rw [h5 rfl]; rfl
theorem ev_ite {c a b : E} {d1 d2 : D} (h : ev G c r S = .ok (D.bl p) S1) (h1 : p = true → ev G a r S1 = .ok d1 S1) (h2 : p = false → ev G b r S1 = .ok d2 S1) : ev G (.ite c a b) r S = .ok (bif p then d1 else d2) S1 := by
  rw [ev, h]
  show (match truthD S1 (D.bl p) with | some true => ev G a r S1 | some false => ev G b r S1 | none => .bad) = _
  cases p with
  | true => exact h1 rfl
  | false => exact h2 rfl
theorem ev_iteI {c a b : E} {i j : Int} (h : ev G c r S = .ok (D.bl p) S1) (h1 : p = true → ev G a r S1 = .ok (.int i) S1) (h2 : p = false → ev G b r S1 = .ok (.int j) S1) : ev G (.ite c a b) r S = .ok (.int (if p = true then i else j)) S1 := by
  rw [ev_ite h h1 h2]
  cases p <;> rfl
theorem ev_iteL {c a b : E} {xs ys : List D} (h : ev G c r S = .ok (D.bl p) S1) (h1 : p = true → ev G a r S1 = .ok (.lst xs) S1) (h2 : p = false → ev G b r S1 = .ok (.lst ys) S1) : ev G (.ite c a b) r S = .ok (.lst (if p = true then xs else ys)) S1 := by
  rw [ev_ite h h1 h2]
  cases p <;> rfl
theorem evs_nil : evs G .nil r S = .ok [] S := by rw [evs]
theorem evs_cons {e : E} {es : Es} {xs : List D} (h : ev G e r S = .ok x S1) (h2 : evs G es r S1 = .ok xs S2) : evs G (.cons e es) r S = .ok (x :: xs) S2 := by
  rw [evs, h]; show (evs G es r S1).bnd _ = _; rw [h2]; rfl
theorem ev_tup {es : Es} {xs : List D} (h : evs G es r S = .ok xs S1) : ev G (.tup es) r S = .ok (.tup xs) S1 := by rw [ev, h]; rfl
theorem ev_frv {l : L} {xs : List D} (h : evl G l r S = .ok xs S1) : ev G (.fr false l) r S = .ok (.lst xs) S1 := by
  rw [ev, h]; unfold mkL; exact if_neg Bool.false_ne_true
theorem ev_frr {l : L} {xs : List D} (h : evl G l r S = .ok xs S1) : ev G (.fr true l) r S = .ok (.ref S1.length) (S1 ++ [.lst xs]) := by
  rw [ev, h]; unfold mkL; exact if_pos rfl
theorem evl_dis {es : Es} {xs : List D} (h : evs G es r S = .ok xs S1) : evl G (.dis es) r S = .ok xs S1 := by rw [evl, h]
theorem evl_rep {a b : E} {ds : List D} (h : ev G a r S = .ok x S1) (h2 : ev G b r S1 = .ok y S2) (h3 : repD S2 x y = some ds) : evl G (.rep a b) r S = .ok ds S2 := by
  rw [evl, h]; show (ev G b r S1).bnd _ = _; rw [h2]; show R.opt (repD S2 x y) S2 = _; rw [h3]; rfl
theorem evl_ofl {a : E} {ds : List D} (h : ev G a r S = .ok x S1) (h3 : itemsD S1 x = some ds) : evl G (.ofl a) r S = .ok ds S1 := by
  rw [evl, h]; show R.opt (itemsD S1 x) S1 = _; rw [h3]; rfl
theorem evl_rng {es : Es} {xs ds : List D} (h : evs G es r S = .ok xs S1) (h3 : rngD xs = some ds) : evl G (.rng es) r S = .ok ds S1 := by
  rw [evl, h]; show R.opt (rngD xs) S1 = _; rw [h3]; rfl
theorem ev_trg {es : Es} {xs ds : List D} (h : evs G es r S = .ok xs S1) (h3 : rngD xs = some ds) : ev G (.trg es) r S = .ok (.tup ds) S1 := by
  rw [ev, h]; show R.opt ((rngD xs).map D.tup) S1 = _; rw [h3]; rfl
theorem ev_ix {a b : E} {d : D} (h : ev G a r S = .ok x S1) (h2 : ev G b r S1 = .ok y S2) (h3 : ixD S2 x y = some d) : ev G (.ix a b) r S = .ok d S2 := by
  rw [ev, h]; show (ev G b r S1).bnd _ = _; rw [h2]; show R.opt (ixD S2 x y) S2 = _; rw [h3]; rfl
theorem ev_slc {a lo hi : E} {d : D} {l h : Option Int} (e1 : ev G a r S = .ok x S1) (e2 : (ev G lo r S1).bnd (bndI lo.isNon) = .ok l S1) (e3 : (ev G hi r S1).bnd (bndI hi.isNon) = .ok h S1) (e4 : slcO S1 x l h = some d) : ev G (.slc a lo hi) r S = .ok d S1 := by
  rw [ev, e1]
  show ((ev G lo r S1).bnd (bndI lo.isNon)).bnd _ = _
  rw [e2]
  show ((ev G hi r S1).bnd (bndI hi.isNon)).bnd _ = _
  rw [e3]
  show R.opt (slcO S1 x l h) S1 = _
  rw [e4]; rfl
theorem bd_non : (ev G .non r S).bnd (bndI E.non.isNon) = .ok none S := by rw [ev]; rfl
theorem bd_int {e : E} (hn : e.isNon = false) (h : ev G e r S = .ok (.int i) S) : (ev G e r S).bnd (bndI e.isNon) = .ok (some i) S := by rw [h, hn]; rfl
theorem ev_rev {a : E} {d : D} (h : ev G a r S = .ok x S1) (h3 : revD S1 x = some d) : ev G (.rev a) r S = .ok d S1 := by
  rw [ev, h]; show R.opt (revD S1 x) S1 = _; rw [h3]; rfl
theorem ev_rvt {a : E} {d : D} {up : Bool} (h : ev G a r S = .ok x S1) (h3 : rvtD up x = some d) : ev G (.rvt up a) r S = .ok d S1 := by
  rw [ev, h]; show R.opt (rvtD up x) S1 = _; rw [h3]; rfl
theorem ev_call {i : Nat} {es : Es} {xs : List D} {d : D} {f : Fn} (h : evs G es r S = .ok xs S1) (hf : G[i]? = some f) (h2 : f xs S1 = .ok d S2) : ev G (.call i es) r S = .ok d S2 := by
  rw [ev, h]; show (match G[i]? with | some f => f xs S1 | none => .bad) = _; rw [hf]; exact h2
theorem ev_blt {b : Bl} {es : Es} {xs : List D} {d : D} (h : evs G es r S = .ok xs S1) (h2 : bltD S1 b xs = some d) : ev G (.blt b es) r S = .ok d S1 := by
  rw [ev, h]; show R.opt (bltD S1 b xs) S1 = _; rw [h2]; rfl
theorem ev_isi {a : E} {t : Ty} (h : ev G a r S = .ok x S1) : ev G (.isi a t) r S = .ok (.bl (isiD S1 x t)) S1 := by rw [ev, h]; rfl
theorem ev_met {m : Mt} {a : E} {es : Es} {k : Nat} {xs : List D} {d : D} (h : ev G a r S = .ok (.ref k) S1) (h2 : evs G es r S1 = .ok xs S2) (h3 : metD S2 m (.ref k) xs = .ok d S3) : ev G (.met m a es) r S = .ok d S3 := by
  rw [ev, h]; show (evs G es r S1).bnd _ = _; rw [h2]; exact h3
section
variable {α : Type} {a0 a1 a2 a3 a4 a5 a6 a7 a8 a9 : α} {l : List α}
theorem g0 : (a0 :: l)[0]? = some a0 := rfl
theorem g1 : (a0 :: a1 :: l)[1]? = some a1 := rfl
theorem g2 : (a0 :: a1 :: a2 :: l)[2]? = some a2 := rfl
theorem g3 : (a0 :: a1 :: a2 :: a3 :: l)[3]? = some a3 := rfl
theorem g4 : (a0 :: a1 :: a2 :: a3 :: a4 :: l)[4]? = some a4 := rfl
theorem g5 : (a0 :: a1 :: a2 :: a3 :: a4 :: a5 :: l)[5]? = some a5 := rfl
theorem g6 : (a0 :: a1 :: a2 :: a3 :: a4 :: a5 :: a6 :: l)[6]? = some a6 := rfl
theorem g7 : (a0 :: a1 :: a2 :: a3 :: a4 :: a5 :: a6 :: a7 :: l)[7]? = some a7 := rfl
theorem g8 : (a0 :: a1 :: a2 :: a3 :: a4 :: a5 :: a6 :: a7 :: a8 :: l)[8]? = some a8 := rfl
theorem g9 : (a0 :: a1 :: a2 :: a3 :: a4 :: a5 :: a6 :: a7 :: a8 :: a9 :: l)[9]? = some a9 := rfl
end
/-! ### sources -/
theorem itm_seq {e : E} {w : List D × Gd} (h : ev G e r S = .ok x S1) (h2 : seqI S1 x = some w) : itm G (.seq e) r S = .ok w S1 := by
  rw [itm, h]; show R.opt (seqI S1 x) S1 = _; rw [h2]; rfl
theorem itm_rng {es : Es} {xs ys : List D} (h : evs G es r S = .ok xs S1) (h2 : rngD xs = some ys) : itm G (.rng es) r S = .ok (ys, none) S1 := by
  rw [itm, h]; show R.opt ((rngD xs).map _) S1 = _; rw [h2]; rfl
theorem itm_enm {e : E} {w : List D × Gd} (h : ev G e r S = .ok x S1) (h2 : enmI S1 x = some w) : itm G (.enm e) r S = .ok w S1 := by
  rw [itm, h]; show R.opt (enmI S1 x) S1 = _; rw [h2]; rfl
theorem itm_zp {a b : E} {w : List D × Gd} (h : ev G a r S = .ok x S1) (h2 : ev G b r S1 = .ok y S2) (h3 : zpI S2 x y = some w) : itm G (.zp a b) r S = .ok w S2 := by
  rw [itm, h]; show (ev G b r S1).bnd _ = _; rw [h2]; show R.opt (zpI S2 x y) S2 = _; rw [h3]; rfl
theorem asg_nm {i : Nat} {d : D} : asg G (.nm i) d r S = .ok (r.set i (some d)) S := by rw [asg]
theorem asg_2 {i j : Nat} {a b : D} : asg G (.tp (.cons (.nm i) (.cons (.nm j) .nil))) (.tup [a, b]) r S = .ok ((r.set i (some a)).set j (some b)) S := by
  simp only [asg, asgs, Tgs.len, List.length_cons, List.length_nil, R.bnd]; rfl
theorem asg_3 {i j k : Nat} {a b c : D} : asg G (.tp (.cons (.nm i) (.cons (.nm j) (.cons (.nm k) .nil)))) (.tup [a, b, c]) r S = .ok (((r.set i (some a)).set j (some b)).set k (some c)) S := by
  simp only [asg, asgs, Tgs.len, List.length_cons, List.length_nil, R.bnd]; rfl
theorem asg_n2 {i j k : Nat} {a b c : D} : asg G (.tp (.cons (.nm i) (.cons (.tp (.cons (.nm j) (.cons (.nm k) .nil))) .nil))) (.tup [a, .tup [b, c]]) r S = .ok (((r.set i (some a)).set j (some b)).set k (some c)) S := by
  simp only [asg, asgs, Tgs.len, List.length_cons, List.length_nil, R.bnd]; rfl
theorem asg_2n {i j k : Nat} {a b c : D} : asg G (.tp (.cons (.tp (.cons (.nm i) (.cons (.nm j) .nil))) (.cons (.nm k) .nil))) (.tup [.tup [a, b], c]) r S = .ok (((r.set i (some a)).set j (some b)).set k (some c)) S := by
  simp only [asg, asgs, Tgs.len, List.length_cons, List.length_nil, R.bnd]; rfl
theorem cnd_nil : cnd G .nil r S = .ok true S := by rw [cnd]
theorem cnd_one {e : E} (h : ev G e r S = .ok x S1) (h2 : truthD S1 x = some p) : cnd G (.cons e .nil) r S = .ok p S1 := by
  rw [cnd, h]; show R.opt (truthD S1 x) S1 = _; rw [h2]; rfl
end
/-! ### comprehensions over what is told by f, the store as it is -/
section
variable {α β : Type} {G : List Fn} {r : Env} {S S1 : Store} {e : E} {t : Tg} {it : It} {c : Es} {own : List (Str × Nat)} {xs : List α} {f : α → D} {r1 : α → Env} {h : α → D} {p : α → Bool}
theorem cmpS_map {g : Gd} (hg : gdOk g S) {at_ : D → Env → Store → R Env} {cd : Env → Store → R Bool} {el : Env → Store → R D} : ∀ {xs : List α}, (∀ x ∈ xs, at_ (f x) r S = .ok (r1 x) S) → (∀ x ∈ xs, cd (r1 x) S = .ok (p x) S) → (∀ x ∈ xs, p x = true → el (r1 x) S = .ok (h x) S) →
    cmpS at_ cd el g r (xs.map f) S = .ok ((xs.filter p).map h) S
  | [], _, _, _ => by unfold cmpS; exact if_pos hg
  | x :: xs, h1, h2, h3 => by
    rw [List.map_cons]
    unfold cmpS
    rw [if_pos hg, h1 x List.mem_cons_self]
    show (cd (r1 x) S).bnd _ = _
    rw [h2 x List.mem_cons_self]
    have ih := cmpS_map hg (xs := xs) (at_ := at_) (cd := cd) (el := el) (fun y hy => h1 y (List.mem_cons_of_mem _ hy)) (fun y hy => h2 y (List.mem_cons_of_mem _ hy)) (fun y hy => h3 y (List.mem_cons_of_mem _ hy))
    show (if p x = true then _ else _) = _
    cases q : p x with
    | false => rw [if_neg Bool.false_ne_true, ih, List.filter_cons_of_neg (by rw [q]; simp)]
    | true =>
      rw [if_pos rfl, h3 x List.mem_cons_self q, List.filter_cons_of_pos q]
      show (cmpS _ _ _ _ _ _ _).bnd _ = _
      rw [ih]; rfl
theorem evl_cmpG {g : Gd} (hi : itm G it r S = .ok (xs.map f, g) S1) (hl : xs.length ≤ 16777216) (hg : gdOk g S1) (ha : ∀ x ∈ xs, asg G t (f x) (wipeE r own) S1 = .ok (r1 x) S1) (hc : ∀ x ∈ xs, cnd G c (r1 x) S1 = .ok (p x) S1) (he : ∀ x ∈ xs, p x = true → ev G e (r1 x) S1 = .ok (h x) S1) :
    evl G (.cmp e t it c own) r S = .ok ((xs.filter p).map h) S1 := by
  rw [evl, hi]
  show (if (xs.map f).length ≤ 16777216 then _ else _) = _
  rw [if_pos (by rw [List.length_map]; exact hl), cmpS_map hg (at_ := fun x r S => asg G t x r S) (cd := fun r S => cnd G c r S) (el := fun r S => ev G e r S) ha hc he]; rfl
theorem evl_cmpG0 {g : Gd} (hi : itm G it r S = .ok (xs.map f, g) S1) (hl : xs.length ≤ 16777216) (hg : gdOk g S1) (ha : ∀ x ∈ xs, asg G t (f x) (wipeE r own) S1 = .ok (r1 x) S1) (he : ∀ x ∈ xs, ev G e (r1 x) S1 = .ok (h x) S1) :
    evl G (.cmp e t it .nil own) r S = .ok (xs.map h) S1 := by
  have := evl_cmpG (c := .nil) (p := fun _ => true) hi hl hg ha (fun _ _ => cnd_nil) fun x hx _ => he x hx
  rw [this]
  congr 2
  exact List.filter_eq_self.mpr fun _ _ => rfl
theorem evl_cmp (hi : itm G it r S = .ok (xs.map f, none) S1) (hl : xs.length ≤ 16777216) (ha : ∀ x ∈ xs, asg G t (f x) (wipeE r own) S1 = .ok (r1 x) S1) (hc : ∀ x ∈ xs, cnd G c (r1 x) S1 = .ok (p x) S1) (he : ∀ x ∈ xs, p x = true → ev G e (r1 x) S1 = .ok (h x) S1) :
    evl G (.cmp e t it c own) r S = .ok ((xs.filter p).map h) S1 := evl_cmpG hi hl trivial ha hc he
theorem evl_cmp0 (hi : itm G it r S = .ok (xs.map f, none) S1) (hl : xs.length ≤ 16777216) (ha : ∀ x ∈ xs, asg G t (f x) (wipeE r own) S1 = .ok (r1 x) S1) (he : ∀ x ∈ xs, ev G e (r1 x) S1 = .ok (h x) S1) :
    evl G (.cmp e t it .nil own) r S = .ok (xs.map h) S1 := evl_cmpG0 hi hl trivial ha he
end
end RR.N

set_option Elab.async false
set_option linter.all false
set_option maxRecDepth 100000
set_option maxHeartbeats 1000000
/-! values told by lists of a type; operations on them -/
namespace RR.N
open PySem L2
/-- what stands at a place -/
def pl {α : Type} [Inhabited α] (xs : List α) (i : Int) : α := xs.getD i.toNat default
theorem pl_some {α : Type} [Inhabited α] {xs : List α} {i : Int} (h0 : 0 ≤ i) (h1 : i < xs.length) : xs[i.toNat]? = some (pl xs i) := by
  unfold pl
  rw [List.getD_eq_getElem?_getD, List.getElem?_eq_getElem (by omega)]; rfl
theorem pl_mem {α : Type} [Inhabited α] {xs : List α} {i : Int} (h0 : 0 ≤ i) (h1 : i < xs.length) : pl xs i ∈ xs := List.mem_of_getElem? (pl_some h0 h1)
theorem pl_nat {α : Type} [Inhabited α] {xs : List α} {i : Nat} {x : α} (h : xs[i]? = some x) : pl xs (i : Int) = x := by
  unfold pl
  rw [Int.toNat_natCast, List.getD_eq_getElem?_getD, h]; rfl
theorem pl_of {α : Type} [Inhabited α] {xs : List α} {i : Int} {x : α} (h : xs[i.toNat]? = some x) : pl xs i = x := by
  unfold pl
  rw [List.getD_eq_getElem?_getD, h]; rfl
abbrev TI (xs : List Int) : D := .tup (xs.map .int)
abbrev WT (rows : List (List Int)) : D := .tup (rows.map fun row => .tup (row.map .int))
abbrev prD (p : Int × Int) : D := .tup [.int p.1, .int p.2]
theorem atI_map {α : Type} [Inhabited α] {xs : List α} {f : α → D} {i : Int} (h0 : 0 ≤ i) (h1 : i < xs.length) : atI (xs.map f) i = some (f (pl xs i)) := by
  unfold atI ixN
  rw [if_pos h0, if_pos (by rw [List.length_map]; exact h1)]
  show (xs.map f)[i.toNat]? = _
  rw [List.getElem?_map, pl_some h0 h1]; rfl
/-- .. from the end -/
theorem atI_neg {α : Type} [Inhabited α] {xs : List α} {f : α → D} {k : Nat} (h0 : 0 < k) (h1 : k ≤ xs.length) : atI (xs.map f) (-(k : Int)) = some (f (pl xs (xs.length - k : Nat))) := by
  unfold atI ixN
  rw [if_neg (by omega), if_pos (by rw [List.length_map]; omega)]
  show (xs.map f)[_]? = _
  rw [List.length_map, show (-(k : Int) + (xs.length : Int)).toNat = xs.length - k by omega, List.getElem?_map]
  have : xs[xs.length - k]? = some (pl xs (xs.length - k : Nat)) := by
    have := pl_some (xs := xs) (i := ((xs.length - k : Nat) : Int)) (by omega) (by omega)
    rwa [Int.toNat_natCast] at this
  rw [this]; rfl
section
variable {α β : Type} {S : Store} {i j : Int} {a b : Bool} {x y z : Str} {xs : List α} {ys : List β} {f g : α → D} {h : β → D} {n : Nat} {d e : D} {ds : List D}
theorem q_ixT [Inhabited α] (h0 : 0 ≤ i) (h1 : i < xs.length) : ixD S (.tup (xs.map f)) (.int i) = some (f (pl xs i)) := atI_map h0 h1
theorem q_ixL [Inhabited α] (h0 : 0 ≤ i) (h1 : i < xs.length) : ixD S (.lst (xs.map f)) (.int i) = some (f (pl xs i)) := atI_map h0 h1
theorem q_ixR [Inhabited α] (hS : S[n]? = some (.lst (xs.map f))) (h0 : 0 ≤ i) (h1 : i < xs.length) : ixD S (.ref n) (.int i) = some (f (pl xs i)) := by
  have : itemsD S (.ref n) = some (xs.map f) := by simp only [itemsD, hS]
  simp only [ixD, this]
  exact atI_map h0 h1
theorem q_ixp0 {p : Int × Int} : ixD S (prD p) (.int 0) = some (.int p.1) := rfl
theorem q_ixp1 {p : Int × Int} : ixD S (prD p) (.int 1) = some (.int p.2) := rfl
theorem q_lenM : bltD S .len [.tup (xs.map f)] = some (.int xs.length) := by
  show some (D.int ((xs.map f).length : Nat)) = _
  rw [List.length_map]
theorem q_lenLM : bltD S .len [.lst (xs.map f)] = some (.int xs.length) := by
  show some (D.int ((xs.map f).length : Nat)) = _
  rw [List.length_map]
theorem q_lenT : bltD S .len [.tup ds] = some (.int ds.length) := rfl
theorem q_lenL : bltD S .len [.lst ds] = some (.int ds.length) := rfl
theorem q_lenR (hS : S[n]? = some (.lst (xs.map f))) : bltD S .len [.ref n] = some (.int xs.length) := by
  show (itemsD S (.ref n)).map _ = _
  simp only [itemsD, hS, Option.map_some, List.length_map]
theorem q_tupT : bltD S .tup [.tup ds] = some (.tup ds) := rfl
theorem q_tupL : bltD S .tup [.lst ds] = some (.tup ds) := rfl
theorem q_tupR (hS : S[n]? = some (.lst ds)) : bltD S .tup [.ref n] = some (.tup ds) := by
  show (itemsD S (.ref n)).map _ = _
  simp only [itemsD, hS]; rfl
theorem intsD_map (ns : List Int) : intsD (ns.map .int) = some ns := by
  induction ns with
  | nil => rfl
  | cons n ns ih => simp only [List.map_cons, intsD, ih]; rfl
theorem blsD_map (ns : List Bool) : blsD (ns.map .bl) = some ns := by
  induction ns with
  | nil => rfl
  | cons n ns ih => simp only [List.map_cons, blsD, ih]; rfl
theorem q_sum {k : α → Int} : bltD S .sum [.lst (xs.map fun x => .int (k x))] = some (.int (xs.map k).sum) := by
  show ((listD S _).bind intsD).map _ = _
  have : (xs.map fun x => D.int (k x)) = (xs.map k).map .int := by rw [List.map_map]; rfl
  rw [this]
  show (intsD ((xs.map k).map .int)).map _ = _
  rw [intsD_map]; rfl
theorem q_all {k : α → Bool} : bltD S .all [.lst (xs.map fun x => .bl (k x))] = some (.bl (xs.all k)) := by
  have : (xs.map fun x => D.bl (k x)) = (xs.map k).map .bl := by rw [List.map_map]; rfl
  rw [this]
  show (blsD ((xs.map k).map .bl)).map _ = _
  rw [blsD_map]
  show some (D.bl ((xs.map k).all id)) = _
  rw [List.all_map]; rfl
theorem q_any {k : α → Bool} : bltD S .any [.lst (xs.map fun x => .bl (k x))] = some (.bl (xs.any k)) := by
  have : (xs.map fun x => D.bl (k x)) = (xs.map k).map .bl := by rw [List.map_map]; rfl
  rw [this]
  show (blsD ((xs.map k).map .bl)).map _ = _
  rw [blsD_map]
  show some (D.bl ((xs.map k).any id)) = _
  rw [List.any_map]; rfl
theorem q_add : binD S .add (.int i) (.int j) = some (.int (i + j)) := rfl
theorem q_sub : binD S .sub (.int i) (.int j) = some (.int (i - j)) := rfl
theorem q_mul (h : mulOk i j) : binD S .mul (.int i) (.int j) = some (.int (i * j)) := if_pos h
theorem q_mulA (h : i.natAbs < 18446744073709551616) : binD S .mul (.int i) (.int j) = some (.int (i * j)) := q_mul (.inl (.inl h))
theorem q_mulB (h : j.natAbs < 18446744073709551616) : binD S .mul (.int i) (.int j) = some (.int (i * j)) := q_mul (.inl (.inr h))
theorem q_fdv (h : divOk j) : binD S .fdv (.int i) (.int j) = some (.int (i / j)) := if_pos h
theorem q_mod (h : j ≠ 0) : binD S .mod (.int i) (.int j) = some (.int (i.fmod j)) := if_pos h
theorem q_pow (h : 0 ≤ j ∧ j ≤ 1000000 ∧ i.natAbs < 2 ^ 64) : binD S .pow (.int i) (.int j) = some (.int (i ^ j.toNat)) := if_pos h
theorem q_addT {us vs : List D} (h : us.length + vs.length ≤ 16777216) : binD S .add (.tup us) (.tup vs) = some (.tup (us ++ vs)) := by
  show (if us.length + vs.length ≤ 16777216 then some (D.tup (us ++ vs)) else none) = _
  exact if_pos h
theorem q_addL {us vs : List D} (h : us.length + vs.length ≤ 16777216) : binD S .add (.lst us) (.lst vs) = some (.lst (us ++ vs)) := by
  show (if us.length + vs.length ≤ 16777216 then some (D.lst (us ++ vs)) else none) = _
  exact if_pos h
theorem q_lt : cmpD S .lt (.int i) (.int j) = some (decide (i < j)) := rfl
theorem q_le : cmpD S .le (.int i) (.int j) = some (decide (i ≤ j)) := rfl
theorem q_gt : cmpD S .gt (.int i) (.int j) = some (decide (j < i)) := rfl
theorem q_ge : cmpD S .ge (.int i) (.int j) = some (decide (j ≤ i)) := rfl
theorem q_isn : cmpD S .isn d .non = some (match d with | .non => true | _ => false) := by cases d <;> rfl
theorem q_nsn : cmpD S .nsn d .non = some (match d with | .non => false | _ => true) := by cases d <;> rfl
theorem eq0_of_py {p q : PyData} (h1 : pyD S d = some p) (h2 : pyD S e = some q) (o1 : okPy p = true) (o2 : okPy q = true) : eqD0 S d e = some (PyData.eqv p q) := by
  unfold eqD0
  rw [h1, h2]
  exact if_pos ⟨o1, o2⟩
theorem ne_of0 {b : Bool} (h : eqD0 S d e = some b) : cmpD S .ne d e = some (!b) := by
  show neD S d e = _
  unfold neD
  rw [h]
theorem q_neE {x : D} {xs : List D} : cmpD S .ne (.lst (x :: xs)) (.lst []) = some true := by
  show neD S _ _ = _
  unfold neD
  cases h : eqD0 S (.lst (x :: xs)) (.lst []) with
  | none => rfl
  | some b =>
    unfold eqD0 at h
    have e2 : pyD S (.lst []) = some (.list []) := rfl
    rw [e2] at h
    cases h1 : pyD S (.lst (x :: xs)) with
    | none => rw [h1] at h; cases h
    | some p =>
      rw [h1] at h
      obtain ⟨ps, q1, q2⟩ := Option.map_eq_some_iff.mp (show (pysR _ (x :: xs)).map PyData.list = some p from h1)
      subst q2
      cases ps with
      | nil =>
        unfold pysR at q1
        split at q1 <;> cases q1
      | cons y ys =>
        simp only [] at h
        split at h
        · cases h; rfl
        · cases h
theorem q_eqE {xs : List D} : cmpD S .eq (.tup xs) (.tup []) = some xs.isEmpty := by
  show eqD S _ _ = _
  unfold eqD
  cases h : eqD0 S (.tup xs) (.tup []) with
  | none => rfl
  | some b =>
    unfold eqD0 at h
    have e2 : pyD S (.tup []) = some (.tuple []) := rfl
    rw [e2] at h
    cases h1 : pyD S (.tup xs) with
    | none => rw [h1] at h; cases h
    | some p =>
      rw [h1] at h
      obtain ⟨ps, q1, q2⟩ := Option.map_eq_some_iff.mp (show (pysR _ xs).map PyData.tuple = some p from h1)
      subst q2
      simp only [] at h
      split at h
      · cases h
        cases xs with
        | nil => cases q1; rfl
        | cons x xs =>
          cases ps with
          | nil =>
            unfold pysR at q1
            split at q1 <;> cases q1
          | cons y ys => rfl
      · cases h
theorem eq_of_py {p q : PyData} (h1 : pyD S d = some p) (h2 : pyD S e = some q) (o1 : okPy p = true) (o2 : okPy q = true) : eqD S d e = some (PyData.eqv p q) := by
  unfold eqD
  rw [eq0_of_py h1 h2 o1 o2]
theorem q_eq {p q : PyData} (h1 : pyD S d = some p) (h2 : pyD S e = some q) (o1 : okPy p = true) (o2 : okPy q = true) : cmpD S .eq d e = some (PyData.eqv p q) := eq_of_py h1 h2 o1 o2
theorem q_ne {p q : PyData} (h1 : pyD S d = some p) (h2 : pyD S e = some q) (o1 : okPy p = true) (o2 : okPy q = true) : cmpD S .ne d e = some (!PyData.eqv p q) := by
  exact ne_of0 (eq0_of_py h1 h2 o1 o2)
theorem q_eqi : cmpD S .eq (.int i) (.int j) = some (decide (i = j)) := by
  rw [q_eq (p := .int i) (q := .int j) rfl rfl rfl rfl]
  show some (i == j) = _
  congr 1
theorem q_nei : cmpD S .ne (.int i) (.int j) = some (!decide (i = j)) := by
  rw [q_ne (p := .int i) (q := .int j) rfl rfl rfl rfl]
  show some (!(i == j)) = _
  congr 1
theorem ok_str (h : PyData.strOk x = true) : okPy (.str x) = true := by
  show (PyData.strOk x && decide (0 ≤ 64)) = true
  rw [h]; rfl
theorem q_eqs (h : PyData.strOk x = true) (h2 : PyData.strOk y = true) : cmpD S .eq (.str x) (.str y) = some (x == y) := q_eq (p := .str x) (q := .str y) rfl rfl (ok_str h) (ok_str h2)
theorem q_nes (h : PyData.strOk x = true) : cmpD S .ne (.str x) (.str x) = some false := by
  rw [q_ne (p := .str x) (q := .str x) rfl rfl (ok_str h) (ok_str h)]
  show some (!(x == x)) = _
  simp
theorem eqv_ii (i j : Int) : PyData.eqv (.int i) (.int j) = decide (i = j) := by
  show (i == j) = _
  by_cases h : i = j <;> simp [h]
theorem q_eqp {p q : Int × Int} : cmpD S .eq (prD p) (prD q) = some (decide (p = q)) := by
  rw [q_eq (p := .tuple [.int p.1, .int p.2]) (q := .tuple [.int q.1, .int q.2]) rfl rfl rfl rfl]
  congr 1
  have e : PyData.eqv (.tuple [.int p.1, .int p.2]) (.tuple [.int q.1, .int q.2]) = (PyData.eqv (.int p.1) (.int q.1) && (PyData.eqv (.int p.2) (.int q.2) && true)) := rfl
  rw [e, eqv_ii, eqv_ii]
  obtain ⟨a, b⟩ := p
  obtain ⟨c, d⟩ := q
  simp only [Prod.mk.injEq, Bool.and_true, Bool.decide_and]
theorem q_len0 : cmpD S .ne (.int i) (.int j) = some (!decide (i = j)) := q_nei
theorem q_trb : truthD S (.bl a) = some a := rfl
theorem q_abs : bltD S .abs [.int i] = some (.int (if i < 0 then -i else i)) := rfl
theorem q_int : bltD S .int [.int i] = some (.int i) := rfl
theorem q_intb : bltD S .int [.bl a] = some (.int (if a = true then 1 else 0)) := by cases a <;> rfl
theorem q_mn2 : bltD S .mn [.int i, .int j] = some (.int (min i j)) := by
  show some (D.int (if j < i then j else i)) = _
  rw [Int.min_def]; split <;> split <;> first | rfl | (congr 2; omega)
theorem q_mx2 : bltD S .mx [.int i, .int j] = some (.int (max i j)) := by
  show some (D.int (if j > i then j else i)) = _
  rw [Int.max_def]; split <;> split <;> first | rfl | (congr 2; omega)
theorem q_rg1 (h0 : smI j) (h1 : j ≤ 16777216) : rngD [.int j] = some ((rg 0 j).map .int) := by
  rw [← rgI_eq]; exact if_pos ⟨h0, h1⟩
theorem q_rg2 (h0 : smI i) (h1 : smI j) (h2 : j - i ≤ 16777216) : rngD [.int i, .int j] = some ((rg i j).map .int) := by
  rw [← rgI_eq]; exact if_pos ⟨h0, h1, h2⟩
theorem sm_of (h0 : -1000000000 ≤ i) (h1 : i ≤ 1000000000) : smI i := ⟨by omega, by omega⟩
theorem q_seqT : seqI S (.tup ds) = some (ds, none) := rfl
theorem q_seqL : seqI S (.lst ds) = some (ds, none) := rfl
theorem q_seqR (hS : S[n]? = some (.lst ds)) : seqI S (.ref n) = some (ds, some (n, ds)) := by
  show (itemsD S (.ref n)).map _ = _
  simp only [itemsD, hS]; rfl
theorem enumD_map : ∀ (k : Nat) (xs : List α), enumD k (xs.map f) = (xs.zipIdx k).map fun p => .tup [.int p.2, f p.1]
  | _, [] => rfl
  | k, x :: xs => by rw [List.map_cons, enumD, enumD_map (k + 1) xs]; rfl
theorem zipD_map : ∀ (xs : List α) (ys : List β), zipD (xs.map f) (ys.map h) = (xs.zip ys).map fun p => .tup [f p.1, h p.2]
  | [], _ => by simp [zipD]
  | _ :: _, [] => by simp [zipD]
  | x :: xs, y :: ys => by rw [List.map_cons, List.map_cons, zipD, zipD_map xs ys]; rfl
theorem q_zipT : zpI S (.tup (xs.map f)) (.tup (ys.map h)) = some ((xs.zip ys).map (fun p => .tup [f p.1, h p.2]), none) := by
  show some (zipD _ _, none) = _
  rw [zipD_map]
theorem q_zipL : zpI S (.lst (xs.map f)) (.lst (ys.map h)) = some ((xs.zip ys).map (fun p => .tup [f p.1, h p.2]), none) := by
  show some (zipD _ _, none) = _
  rw [zipD_map]
theorem q_enmT : enmI S (.tup (xs.map f)) = some ((xs.zipIdx).map (fun p => .tup [.int p.2, f p.1]), none) := by
  show some (enumD 0 _, none) = _
  rw [enumD_map]
theorem q_enmL : enmI S (.lst (xs.map f)) = some ((xs.zipIdx).map (fun p => .tup [.int p.2, f p.1]), none) := by
  show some (enumD 0 _, none) = _
  rw [enumD_map]
end
/-! ### the store as a def leaves it -/
theorem agree_refl {n : Nat} : ∀ S : Store, agree n S S
  | [] => trivial
  | o :: S => ⟨.inl rfl, agree_refl S⟩
theorem agree_app {n : Nat} : ∀ (S X : Store), agree n S (S ++ X)
  | [], _ => trivial
  | o :: S, X => ⟨.inl rfl, agree_app S X⟩
theorem fin_keep {S0 S : Store} {d : D} : fin true S0 d S = .ok d S := by unfold fin; exact if_pos rfl
/-- new objects alone, a value without any of them -/
theorem fin_app {S X : Store} {d : D} (h : noRef d = true) : fin false S d (S ++ X) = .ok d S := by
  unfold fin
  rw [if_neg Bool.false_ne_true, if_pos (agree_app S X)]
  unfold fzD
  rw [if_pos h]
  simp
theorem fin_same {S : Store} {d : D} (h : noRef d = true) : fin false S d S = .ok d S := by
  have := fin_app (S := S) (X := []) h
  rwa [List.append_nil] at this
theorem run_ok {G : List Fn} {F : FnI} {args : List D} {S : Store} (h : args.length = F.np) : runF G F args S = exitR F.keep S (exs G F.body (args.map some ++ List.replicate (F.ns - F.np) none) S) := by
  unfold runF
  exact if_pos h
theorem noRefs_map {α : Type} {f : α → D} (h : ∀ x, noRef (f x) = true) : ∀ xs : List α, noRefs (xs.map f) = true
  | [] => rfl
  | x :: xs => by rw [List.map_cons, noRefs, h x, noRefs_map h xs]; rfl
theorem noRefs_mapM {α : Type} {f : α → D} : ∀ xs : List α, (∀ x ∈ xs, noRef (f x) = true) → noRefs (xs.map f) = true
  | [], _ => rfl
  | x :: xs, h => by rw [List.map_cons, noRefs, h x List.mem_cons_self, noRefs_mapM xs fun y hy => h y (List.mem_cons_of_mem _ hy)]; rfl
theorem noRef_TI (xs : List Int) : noRef (TI xs) = true := noRefs_map (fun _ => rfl) xs
theorem noRef_WT (rows : List (List Int)) : noRef (WT rows) = true := noRefs_map (fun row => noRef_TI row) rows
/-! ### statements -/
section
variable {G : List Fn} {t : Tg} {it : It} {b ss : Sms} {r r1 : Env} {S S1 S2 : Store} {d : D} {e : E} {P : Fl → Prop}
theorem st_nil (h : P (.next r S)) : P (exs G .nil r S) := by rw [exs]; exact h
theorem st_of {s : Sm} (h : ex G s r S = .next r1 S1) (k : P (exs G ss r1 S1)) : P (exs G (.cons s ss) r S) := by rw [exs, h]; exact k
theorem st_asg (h : ev G e r S = .ok d S1) (h2 : asg G t d r S1 = .ok r1 S2) (k : P (exs G ss r1 S2)) : P (exs G (.cons (.asg t e) ss) r S) := by
  refine st_of (r1 := r1) (S1 := S2) ?_ k
  rw [ex, h]
  show (asg G t d r S1).nx.fl r _ = _
  rw [h2]; rfl
theorem st_exp (h : ev G e r S = .ok d S1) (k : P (exs G ss r S1)) : P (exs G (.cons (.exp e) ss) r S) := by
  refine st_of (r1 := r) (S1 := S1) ?_ k
  rw [ex, h]; rfl
theorem st_ret (h : ev G e r S = .ok d S1) (k : P (.ret d S1)) : P (exs G (.cons (.ret e) ss) r S) := by
  rw [exs, ex, h]; exact k
theorem st_fgt {is : List Nat} (k : P (exs G ss (wipeN r is) S)) : P (exs G (.cons (.fgt is) ss) r S) := by
  refine st_of (r1 := wipeN r is) (S1 := S) ?_ k
  rw [ex]
theorem st_iff {a b : Sms} {v : Bool} (h : ev G e r S = .ok (.bl v) S1) (h1 : v = true → P (match exs G a r S1 with
      | .next r1 S1 => exs G ss r1 S1
      | o => o)) (h2 : v = false → P (match exs G b r S1 with
      | .next r1 S1 => exs G ss r1 S1
      | o => o)) : P (exs G (.cons (.iff e a b) ss) r S) := by
  rw [exs, ex, h]
  show P (match (match truthD S1 (.bl v) with
    | some true => exs G a r S1
    | some false => exs G b r S1
    | none => .bad) with
    | .next r1 S1 => exs G ss r1 S1
    | o => o)
  cases v with
  | true => exact h1 rfl
  | false => exact h2 rfl
/-- an if that leaves the def -/
theorem st_ifr {a : Sms} {v : Bool} (h : ev G e r S = .ok (.bl v) S1) (h1 : v = true → ∃ o, exs G a r S1 = o ∧ P o ∧ (match o with | .next _ _ => False | _ => True)) (h2 : v = false → P (exs G ss r S1)) : P (exs G (.cons (.iff e a .nil) ss) r S) := by
  refine st_iff h (fun hv => ?_) fun hv => ?_
  · obtain ⟨o, e1, p, q⟩ := h1 hv
    rw [e1]
    cases o <;> first | exact p | exact q.elim
  · rw [exs]; exact h2 hv
/-- an if without an else, both ways go on -/
theorem st_ift {a : Sms} {v : Bool} {r2 : Env} {S2 : Store} (h : ev G e r S = .ok (.bl v) S1) (h1 : v = true → exs G a r S1 = .next r2 S2) (h2 : v = false → r2 = r ∧ S2 = S1) (k : P (exs G ss r2 S2)) : P (exs G (.cons (.iff e a .nil) ss) r S) := by
  refine st_iff h (fun hv => ?_) fun hv => ?_
  · rw [h1 hv]; exact k
  · obtain ⟨rfl, rfl⟩ := h2 hv
    rw [exs]; exact k
/-- what a def's end gives -/
def Ends (keep : Bool) (S0 : Store) (Q : R D → Prop) (o : Fl) : Prop := Q (exitR keep S0 o)
def EqR (q o : R D) : Prop := o = q
/-- what a turn leaves -/
def Goes (J : Env → Store → Prop) (o : Fl) : Prop := ∃ r2 S2, (o = .next r2 S2 ∨ o = .con r2 S2) ∧ J r2 S2
theorem fn_eq {F : FnI} {args : List D} {q : R D} (h : args.length = F.np) (k : Ends F.keep S (EqR q) (exs G F.body (args.map some ++ List.replicate (F.ns - F.np) none) S)) : runF G F args S = q := by
  rw [run_ok h]; exact k
theorem fn_go {F : FnI} {args : List D} {Q : R D → Prop} (h : args.length = F.np) (k : Ends F.keep S Q (exs G F.body (args.map some ++ List.replicate (F.ns - F.np) none) S)) : Q (runF G F args S) := by
  rw [run_ok h]; exact k
theorem end_same (h : noRef d = true) : Ends false S (EqR (.ok d S)) (.ret d S) := fin_same h
theorem end_app {X : Store} (h : noRef d = true) : Ends false S (EqR (.ok d S)) (.ret d (S ++ X)) := fin_app h
theorem goes {J : Env → Store → Prop} (h : J r S) : Goes J (.next r S) := ⟨r, S, .inl rfl, h⟩
/-- an if that returns -/
theorem st_ifR {keep : Bool} {S0 : Store} {Q : R D → Prop} {a : E} {v : Bool} {d : D} (h : ev G e r S = .ok (.bl v) S1) (h1 : v = true → ev G a r S1 = .ok d S2) (h2 : v = true → Ends keep S0 Q (.ret d S2)) (h3 : v = false → Ends keep S0 Q (exs G ss r S1)) :
    Ends keep S0 Q (exs G (.cons (.iff e (.cons (.ret a) .nil) .nil) ss) r S) :=
  st_ifr h (fun hv => ⟨.ret d S2, by rw [exs, ex, h1 hv]; rfl, h2 hv, trivial⟩) h3
/-- a loop over a list as it stands: the items so far are told -/
theorem st_for {α : Type} {f : α → D} {xs : List α} {g : Gd} (I : List α → Env → Store → Prop) (h : itm G it r S = .ok (xs.map f, g) S1) (h0 : I [] r S1) (hg : ∀ done r S, I done r S → gdOk g S)
    (ht : ∀ done x, x ∈ xs → (∃ rest, done ++ x :: rest = xs) → ∀ r S, I done r S → ∃ r1 S1, asg G t (f x) r S = .ok r1 S1 ∧ Goes (I (done ++ [x])) (exs G b r1 S1))
    (hk : ∀ r' S', I xs r' S' → P (exs G ss r' S')) : P (exs G (.cons (.for_ t it b) ss) r S) := by
  have key : ∀ (rest done : List α) (r : Env) (S : Store), done ++ rest = xs → I done r S → ∃ r' S', forS (fun x r S => asg G t x r S) (fun r S => exs G b r S) g (rest.map f) r S = .next r' S' ∧ I xs r' S' := by
    intro rest
    induction rest with
    | nil =>
      intro done r S hd hI
      rw [List.append_nil] at hd
      subst hd
      refine ⟨r, S, ?_, hI⟩
      show forS _ _ _ [] _ _ = _
      unfold forS
      exact if_pos (hg _ _ _ hI)
    | cons x rest ih =>
      intro done r S hd hI
      obtain ⟨r1, S1, h1, r2, S2, h2, h3⟩ := ht done x (by rw [← hd]; simp) ⟨rest, hd⟩ r S hI
      obtain ⟨r', S', e, i⟩ := ih (done ++ [x]) r2 S2 (by rw [← hd]; simp) h3
      refine ⟨r', S', ?_, i⟩
      rw [List.map_cons]
      unfold forS
      rw [if_pos (hg _ _ _ hI), h1]
      show (match exs G b r1 S1 with
        | .next r2 S2 => forS (fun x r S => asg G t x r S) (fun r S => exs G b r S) g (rest.map f) r2 S2
        | .con r2 S2 => forS (fun x r S => asg G t x r S) (fun r S => exs G b r S) g (rest.map f) r2 S2
        | .brk r2 S2 => .next r2 S2
        | o => o) = _
      rcases h2 with h2 | h2 <;> (rw [h2]; exact e)
  obtain ⟨r', S', e, i⟩ := key xs [] r S1 rfl h0
  refine st_of (r1 := r') (S1 := S') ?_ (hk r' S' i)
  rw [ex, h]
  exact e
/-- .. whose state is a function of the items so far -/
theorem st_fold {α : Type} {f : α → D} {xs : List α} (Ef : List α → Env) (Sf : List α → Store) (h : itm G it r S = .ok (xs.map f, none) S1) (h0 : r = Ef [] ∧ S1 = Sf [])
    (ht : ∀ done x, x ∈ xs → (∃ rest, done ++ x :: rest = xs) → ∃ r1, asg G t (f x) (Ef done) (Sf done) = .ok r1 (Sf done) ∧ Goes (fun r S => r = Ef (done ++ [x]) ∧ S = Sf (done ++ [x])) (exs G b r1 (Sf done)))
    (hk : P (exs G ss (Ef xs) (Sf xs))) : P (exs G (.cons (.for_ t it b) ss) r S) :=
  st_for (fun done r S => r = Ef done ∧ S = Sf done) h h0 (fun _ _ _ _ => trivial) (fun done x hx hr r S hI => by
    obtain ⟨rfl, rfl⟩ := hI
    obtain ⟨r1, h1, h2⟩ := ht done x hx hr
    exact ⟨r1, _, h1, h2⟩) fun r' S' hI => by
    obtain ⟨rfl, rfl⟩ := hI
    exact hk
end
end RR.N

set_option Elab.async false
set_option linter.all false
set_option maxRecDepth 100000
set_option maxHeartbeats 1000000
/-! texts of values -/
namespace RR.N
open PySem L2
def sok (x : Str) : Bool := x.cps.toList.all fun c => decide (c < 0x110000)
theorem sok_iff {x : Str} : PyData.strOk x = sok x := by
  unfold PyData.strOk sok
  simp
theorem sok_str (s : String) : sok (Str.ofString s) = true := by
  unfold sok
  rw [PyProof.Rows.signs_ofString, List.all_eq_true]
  intro c hc
  obtain ⟨ch, _, rfl⟩ := List.mem_map.mp hc
  have := ch.valid
  refine decide_eq_true ?_
  show ch.val.toNat < 1114112
  rcases this with h | h
  · exact Nat.lt_trans h (by decide)
  · exact h.2
theorem sok_app {x y : Str} (h : sok x = true) (h2 : sok y = true) : sok (x ++ y) = true := by
  unfold sok at h h2 ⊢
  show (x.cps ++ y.cps).toList.all _ = true
  rw [Array.toList_append, List.all_append, h, h2]; rfl
theorem sok_text : ∀ (ts : List Str) (k : Nat) (acc : Str), (∀ t ∈ ts, sok t = true) → sok acc = true → sok (textFrom k acc ts) = true
  | [], _, _, _, h => h
  | t :: r, k, acc, h, ha => by
    refine sok_text r (k + 1) _ (fun u hu => h u (List.mem_cons_of_mem _ hu)) (sok_app (sok_app ha (sok_str _)) (h t List.mem_cons_self))
theorem sok_join : ∀ (ts : List Str), (∀ t ∈ ts, sok t = true) → sok (Str.join ", " ts) = true
  | [], _ => rfl
  | [t], h => h t List.mem_cons_self
  | t :: u :: r, h => by
    show sok (t ++ ", " ++ Str.join ", " (u :: r)) = true
    exact sok_app (sok_app (h t List.mem_cons_self) (sok_str ", ")) (sok_join (u :: r) fun x hx => h x (List.mem_cons_of_mem _ hx))
mutual
def noS : PyData → Bool
  | .str x => sok (PyData.str x).shown
  | .dict l => l.isEmpty
  | .list xs => noSs xs
  | .tuple xs => noSs xs
  | .none => true
  | .bool _ => true
  | .int _ => true
def noSs : List PyData → Bool
  | [] => true
  | x :: xs => noS x && noSs xs
end
mutual
theorem sok_shown : ∀ d : PyData, noS d = true → sok d.shown = true
  | .none, _ => sok_str _
  | .bool b, _ => by cases b <;> exact sok_str _
  | .int _, _ => sok_str _
  | .str _, h => h
  | .dict [], _ => by decide +kernel
  | .dict (_ :: _), h => nomatch h
  | .list xs, h => sok_app (sok_text _ _ _ (soks_shown xs h) (sok_str _)) (sok_str _)
  | .tuple xs, h => sok_app (sok_app (sok_str _) (sok_join _ (soks_shown xs h))) (sok_str _)
theorem soks_shown : ∀ ds : List PyData, noSs ds = true → ∀ t ∈ PyData.shownAll ds, sok t = true
  | [], _, t, ht => absurd ht (by simp [PyData.shownAll])
  | d :: ds, h, t, ht => by
    obtain ⟨h1, h2⟩ := Bool.and_eq_true_iff.mp (show (noS d && noSs ds) = true from h)
    rcases List.mem_cons.mp (show t ∈ d.shown :: PyData.shownAll ds from ht) with q | q
    · rw [q]; exact sok_shown d h1
    · exact soks_shown ds h2 t q
end
/-- a value that a text can be made of: at most so long, so deep -/
def Ft (w k : Nat) (d : D) : Prop := ∃ p, (∀ r, pyR r d = some p) ∧ wok p = true ∧ wz p ≤ w ∧ p.depth ≤ k ∧ noS p = true
def Fts (w k : Nat) (ds : List D) : Prop := ∃ ps, (∀ r, pysR r ds = some ps) ∧ woks ps = true ∧ wzs ps ≤ ds.length * (w + 2) ∧ PyData.depthAll ps ≤ k ∧ noSs ps = true
theorem Ft.mono {w k w' k' : Nat} {d : D} (h : Ft w k d) (hw : w ≤ w') (hk : k ≤ k') : Ft w' k' d := by
  obtain ⟨p, h1, h2, h3, h4, h5⟩ := h
  exact ⟨p, h1, h2, by omega, by omega, h5⟩
theorem Ft.non : Ft 4 0 .non := ⟨.none, fun _ => rfl, rfl, Nat.le_refl _, Nat.le_refl _, rfl⟩
theorem Ft.bl {b : Bool} : Ft 5 0 (.bl b) := ⟨.bool b, fun _ => rfl, rfl, Nat.le_refl _, Nat.le_refl _, rfl⟩
theorem Ft.dct : Ft 2 1 (.dct [] []) := ⟨.dict [], fun _ => rfl, rfl, Nat.le_refl _, Nat.le_refl _, rfl⟩
theorem Ft.int {i : Int} (h : i.natAbs.log2 < 1920) : Ft 1921 0 (.int i) := ⟨.int i, fun _ => rfl, decide_eq_true h, Nat.le_refl _, Nat.le_refl _, rfl⟩
theorem Ft.str {x : Str} (h : (x.cps.toList.all fun c => decide (c < 16 ^ 8)) = true) (h2 : sok (PyData.str x).shown = true) : Ft (10 * x.length + 2) 0 (.str x) := ⟨.str x, fun _ => rfl, h, Nat.le_refl _, Nat.le_refl _, h2⟩
theorem Fts.of {w k : Nat} : ∀ {ds : List D}, (∀ d ∈ ds, Ft w k d) → Fts w k ds
  | [], _ => ⟨[], fun _ => rfl, rfl, Nat.zero_le _, Nat.zero_le _, rfl⟩
  | d :: ds, h => by
    obtain ⟨ps, h1, h2, h3, h4, h5⟩ := Fts.of (ds := ds) fun e he => h e (List.mem_cons_of_mem _ he)
    obtain ⟨p, g1, g2, g3, g4, g5⟩ := h d List.mem_cons_self
    refine ⟨p :: ps, fun r => ?_, ?_, ?_, ?_, ?_⟩
    · unfold pysR
      rw [g1, h1]
    · show (wok p && woks ps) = true
      rw [g2, h2]; rfl
    · show wz p + 2 + wzs ps ≤ (ds.length + 1) * (w + 2)
      rw [Nat.succ_mul]; omega
    · show max p.depth (PyData.depthAll ps) ≤ k
      omega
    · show (noS p && noSs ps) = true
      rw [g5, h5]; rfl
theorem Ft.tup {w k n : Nat} {ds : List D} (h : ∀ d ∈ ds, Ft w k d) (hn : ds.length ≤ n) : Ft (3 + n * (w + 2)) (k + 1) (.tup ds) := by
  obtain ⟨ps, h1, h2, h3, h4, h5⟩ := Fts.of h
  refine ⟨.tuple ps, fun r => ?_, h2, ?_, ?_, h5⟩
  · show (pysR r ds).map PyData.tuple = _
    rw [h1]; rfl
  · show 3 + wzs ps ≤ _
    have := Nat.mul_le_mul_right (w + 2) hn
    omega
  · show PyData.depthAll ps + 1 ≤ _
    omega
theorem Ft.lst {w k n : Nat} {ds : List D} (h : ∀ d ∈ ds, Ft w k d) (hn : ds.length ≤ n) : Ft (3 + n * (w + 2)) (k + 1) (.lst ds) := by
  obtain ⟨ps, h1, h2, h3, h4, h5⟩ := Fts.of h
  refine ⟨.list ps, fun r => ?_, h2, ?_, ?_, h5⟩
  · show (pysR r ds).map PyData.list = _
    rw [h1]; rfl
  · show 3 + wzs ps ≤ _
    have := Nat.mul_le_mul_right (w + 2) hn
    omega
  · show PyData.depthAll ps + 1 ≤ _
    omega
theorem Ft.tupM {α : Type} {w k n : Nat} {xs : List α} {f : α → D} (h : ∀ x ∈ xs, Ft w k (f x)) (hn : xs.length ≤ n) : Ft (3 + n * (w + 2)) (k + 1) (.tup (xs.map f)) :=
  Ft.tup (fun d hd => by obtain ⟨x, hx, rfl⟩ := List.mem_map.mp hd; exact h x hx) (by rw [List.length_map]; exact hn)
theorem Ft.lstM {α : Type} {w k n : Nat} {xs : List α} {f : α → D} (h : ∀ x ∈ xs, Ft w k (f x)) (hn : xs.length ≤ n) : Ft (3 + n * (w + 2)) (k + 1) (.lst (xs.map f)) :=
  Ft.lst (fun d hd => by obtain ⟨x, hx, rfl⟩ := List.mem_map.mp hd; exact h x hx) (by rw [List.length_map]; exact hn)
theorem Ft.two {w k w2 k2 : Nat} {d e : D} (h : Ft w k d) (h2 : Ft w2 k2 e) : Ft (3 + 2 * (max w w2 + 2)) (max k k2 + 1) (.lst [d, e]) :=
  Ft.lst (fun x hx => by
    rcases List.mem_cons.mp hx with rfl | hx
    · exact h.mono (by omega) (by omega)
    · rw [List.mem_singleton.mp hx]; exact h2.mono (by omega) (by omega)) (Nat.le_refl _)
/-- its text -/
theorem repr_ft {S : Store} {d : D} {w k : Nat} (h : Ft w k d) (hw : w ≤ 16777216) (hk : k ≤ 64) : ∃ x, bltD S .repr [d] = some (.str x) ∧ sok x = true := by
  obtain ⟨p, h1, h2, h3, h4, h5⟩ := h
  refine ⟨p.shown, ?_, sok_shown p h5⟩
  show (reprD S d).map D.str = _
  rw [repr_ok (h1 _) h2 (by omega) (by omega)]; rfl
theorem q_same {S : Store} {x : Str} (h : sok x = true) : cmpD S .ne (.str x) (.str x) = some false := q_nes (by rw [sok_iff]; exact h)
theorem log_lt {x : Int} (h : x.natAbs < 2 ^ 1920) : x.natAbs.log2 < 1920 := by
  by_cases h0 : x.natAbs = 0
  · rw [h0]; decide
  · exact (Nat.log2_lt h0).mpr h
/-- repr(a) != repr(b) where both are the same value -/
theorem ev_reprne {G : List Fn} {a b : E} {r : Env} {S : Store} {d : D} {w k : Nat} (hd : Ft w k d) (hw : w ≤ 16777216) (hk : k ≤ 64) (h1 : ev G a r S = .ok d S) (h2 : ev G b r S = .ok d S) :
    ev G (.cmp .ne (.blt .repr (.cons a .nil)) (.blt .repr (.cons b .nil))) r S = .ok (.bl false) S := by
  obtain ⟨x, e1, e2⟩ := repr_ft (S := S) hd hw hk
  exact ev_cmp (ev_blt (evs_cons h1 evs_nil) e1) (ev_blt (evs_cons h2 evs_nil) e1) (q_same e2)
end RR.N

set_option Elab.async false
set_option linter.all false
set_option maxRecDepth 100000
set_option maxHeartbeats 1000000
namespace RR.N
open PySem L2
set_option hygiene false in
local macro_rules
  | `(tactic| sizeOf_list_dec) => `(tactic| first | with_reducible assumption | omega | (exact sm_of (by omega) (by omega)) | (simp only [List.length_map, List.length_append, List.length_cons, List.length_nil, rg_len]; omega))
set_option hygiene false in
local macro_rules
  | `(tactic| array_get_dec) => `(tactic| first
    | with_reducible first
      | exact q_add | exact q_sub | exact q_lt | exact q_le | exact q_gt | exact q_ge | exact q_eqi | exact q_nei | exact q_trb
      | exact q_eqp | exact q_ixp0 | exact q_ixp1
      | exact q_lenM | exact q_lenLM | exact q_lenT | exact q_lenL | exact q_tupT | exact q_tupL | exact q_sum | exact q_all | exact q_any | exact q_int | exact q_intb | exact q_mn2 | exact q_mx2 | exact q_abs
      | exact q_zipT | exact q_zipL | exact q_enmL | exact q_enmT | exact q_seqT | exact q_seqL
    | ((with_reducible apply q_mulA) <;> omega)
    | ((with_reducible apply q_mulB) <;> omega)
    | ((with_reducible apply q_pow) <;> decide)
    | ((with_reducible apply q_rg1) <;> sizeOf_list_dec) | ((with_reducible apply q_rg2) <;> sizeOf_list_dec)
    | ((with_reducible apply q_ixT) <;> sizeOf_list_dec) | ((with_reducible apply q_ixL) <;> sizeOf_list_dec))
set_option hygiene false in
local macro_rules
  | `(tactic| array_mem_dec) => `(tactic| first
    | with_reducible first
      | exact ev_int | exact ev_bl | exact ev_non | exact ev_str | exact ev_con | exact evs_nil
      | exact g0 | exact g1 | exact g2 | exact g3 | exact g4 | exact g5 | exact g6 | exact g7 | exact g8 | exact g9
    | ((with_reducible apply ev_varQ); exact ev_var rfl)
    | ((with_reducible apply evs_cons) <;> array_mem_dec)
    | ((with_reducible apply ev_bin) <;> array_mem_dec)
    | ((with_reducible apply ev_ix) <;> array_mem_dec)
    | ((with_reducible apply ev_cmp) <;> array_mem_dec)
    | ((with_reducible apply ev_tup) <;> array_mem_dec)
    | ((with_reducible apply ev_tupQ); apply ev_tup <;> array_mem_dec)
    | ((with_reducible apply ev_blt) <;> array_mem_dec)
    | ((with_reducible apply ev_frv) <;> array_mem_dec)
    | ((with_reducible apply ev_frr) <;> array_mem_dec)
    | ((with_reducible apply evl_dis) <;> array_mem_dec)
    | ((with_reducible apply ev_call) <;> array_mem_dec)
    | ((with_reducible apply itm_seq) <;> array_mem_dec)
    | ((with_reducible apply itm_rng) <;> array_mem_dec)
    | ((with_reducible apply itm_enm) <;> array_mem_dec)
    | ((with_reducible apply itm_zp) <;> array_mem_dec)
    | ((with_reducible apply evl_cmp0) <;> array_mem_dec)
    | ((with_reducible apply evl_cmp) <;> array_mem_dec)
    | ((with_reducible apply cnd_one) <;> array_mem_dec)
    | with_reducible first | exact asg_nm | exact asg_2 | exact asg_3 | exact asg_n2 | exact asg_2n
    | ((with_reducible apply ev_an) <;> array_mem_dec)
    | ((with_reducible apply ev_or) <;> array_mem_dec)
    | ((with_reducible apply ev_nt) <;> array_mem_dec)
    | ((with_reducible apply ev_neg) <;> array_mem_dec)
    | ((with_reducible apply ev_iteI) <;> array_mem_dec)
    | ((with_reducible apply ev_ite) <;> array_mem_dec)
    | array_get_dec
    | (intro _ <;> array_mem_dec)
    | sizeOf_list_dec)
/-- the pairs of unlike places -/
def prs (n : Int) : List (Int × Int) := (rg 0 n).flatMap fun i => (rg (i + 1) n).map fun j => (i, j)
theorem app_at {S : Store} {o : Ob} : (S ++ [o])[S.length]? = some o := by simp
theorem app_set {S : Store} {o o' : Ob} : (S ++ [o]).set S.length o' = S ++ [o'] := by simp
theorem fin_last {S : Store} {xs : List D} (h : noRefs xs = true) : fin false S (.ref S.length) (S ++ [.lst xs]) = .ok (.lst xs) S := by
  unfold fin
  rw [if_neg Bool.false_ne_true, if_pos (agree_app S _)]
  have e : fzD (S ++ [.lst xs]) S.length (.ref S.length) = some (.lst xs) := by
    unfold fzD
    rw [if_neg (by simp [noRef])]
    show (if S.length < S.length then some (D.ref S.length) else obFz S.length _ (S ++ [Ob.lst xs])[S.length]?) = _
    rw [if_neg (by omega), app_at]
    show (fzsR S.length _ xs).map D.lst = _
    rw [RR.fz_all xs h]
    rfl
  rw [e]
  show R.ok _ _ = _
  rw [List.take_left' rfl]
theorem m_ext {S : Store} {n : Nat} {xs ys : List D} (h : S[n]? = some (.lst xs)) (hl : xs.length + ys.length ≤ 16777216) : metD S .extend (.ref n) [.lst ys] = .ok .non (S.set n (.lst (xs ++ ys))) := by
  show (match S[n]?, some ys with
    | some (.lst xs), some ys => if xs.length + ys.length ≤ 16777216 then R.ok D.non (S.set n (.lst (xs ++ ys))) else .bad
    | _, _ => .bad) = _
  rw [h]
  exact if_pos hl
theorem m_app {S : Store} {n : Nat} {xs : List D} {d : D} (h : S[n]? = some (.lst xs)) (hl : xs.length < 16777216) : metD S .append (.ref n) [d] = .ok .non (S.set n (.lst (xs ++ [d]))) := by
  show (match S[n]? with
    | some (.lst xs) => if xs.length < 16777216 then R.ok D.non (S.set n (.lst (xs ++ [d]))) else .bad
    | none => .bad) = _
  rw [h]
  exact if_pos hl
section
variable {G : List Fn} {ss : Sms} {r : Env} {S : Store} {P : Fl → Prop} {a e : E} {xs ys : List D} {d : D}
/-- the list that was made last grows -/
theorem st_extL (h : ev G a r (S ++ [.lst xs]) = .ok (.ref S.length) (S ++ [.lst xs])) (h2 : ev G e r (S ++ [.lst xs]) = .ok (.lst ys) (S ++ [.lst xs])) (hl : xs.length + ys.length ≤ 16777216)
    (k : P (exs G ss r (S ++ [.lst (xs ++ ys)]))) : P (exs G (.cons (.exp (.met .extend a (.cons e .nil))) ss) r (S ++ [.lst xs])) :=
  st_exp (ev_met h (evs_cons h2 evs_nil) (m_ext app_at hl)) (by rw [app_set]; exact k)
theorem st_appL (h : ev G a r (S ++ [.lst xs]) = .ok (.ref S.length) (S ++ [.lst xs])) (h2 : ev G e r (S ++ [.lst xs]) = .ok d (S ++ [.lst xs])) (hl : xs.length < 16777216)
    (k : P (exs G ss r (S ++ [.lst (xs ++ [d])]))) : P (exs G (.cons (.exp (.met .append a (.cons e .nil))) ss) r (S ++ [.lst xs])) :=
  st_exp (ev_met h (evs_cons h2 evs_nil) (m_app app_at hl)) (by rw [app_set]; exact k)
end
theorem prs_le {n : Int} : ∀ {l : List Int}, (∀ i ∈ l, 0 ≤ i) → n ≤ 1000 → (l.flatMap fun i => (rg (i + 1) n).map fun j => (i, j)).length ≤ l.length * 1000
  | [], _, _ => by simp
  | i :: l, h, hn => by
    have ih := prs_le (l := l) (fun j hj => h j (List.mem_cons_of_mem _ hj)) hn
    have := h i List.mem_cons_self
    rw [List.flatMap_cons, List.length_append, List.length_map, rg_len, List.length_cons]
    omega
theorem end_last {S : Store} {xs : List D} (h : noRefs xs = true) : Ends false S (EqR (.ok (.lst xs) S)) (.ret (.ref S.length) (S ++ [.lst xs])) := fin_last h
theorem pairs_eq {n : Int} {S : Store} (h0 : 0 ≤ n) (h1 : n ≤ 1000) : s_pairs [.int n] S = .ok (.lst ((prs n).map prD)) S := by
  refine fn_eq rfl ?_
  show Ends false S _ (exs [] b_pairs [some (.int n), none, none, none] S)
  refine st_asg (d := .ref S.length) (by array_mem_dec) asg_nm ?_
  refine st_fold (xs := rg 0 n) (f := .int) (S1 := S ++ [.lst []]) (fun _ => [some (.int n), some (.ref S.length), none, none]) (fun done => S ++ [.lst ((done.flatMap fun i => (rg (i + 1) n).map fun j => (i, j)).map prD)]) (by array_mem_dec) ⟨rfl, rfl⟩ ?_ ?_
  · intro done i hi ⟨rest, hd⟩
    have hi := mem_rg.mp hi
    have hl := prs_le (n := n) (l := done) (fun j hj => (mem_rg.mp (by rw [← hd]; exact List.mem_append_left _ hj)).1) h1
    have hl2 : done.length ≤ 1000 := by
      have := congrArg List.length hd
      rw [List.length_append, rg_len] at this
      omega
    refine ⟨_, asg_nm, ?_⟩
    refine st_extL (ys := ((rg (i + 1) n).map fun j => (i, j)).map prD) (ev_var rfl) ?_ ?_ ?_
    · rw [List.map_map]
      array_mem_dec
    · rw [List.length_map, List.length_map, List.length_map, rg_len]; omega
    · refine st_fgt (st_nil (goes ⟨rfl, ?_⟩))
      rw [List.flatMap_append, List.flatMap_singleton, List.map_append]
  · exact st_ret (by array_mem_dec) (end_last (noRefs_map (fun _ => rfl) _))
end RR.N

set_option Elab.async false
set_option linter.all false
set_option maxRecDepth 100000
set_option maxHeartbeats 1000000
namespace RR
open PySem L2
/-- the deck's two objects, what lies behind them -/
def dk (cs : List Int) (k : Int) (T : Store) : Store := .lst (cs.map .int) :: .lst [.ref 0, .int 0, .int k] :: T
theorem below_ints {n : Nat} : ∀ ns : List Int, belows n (ns.map .int) = true
  | [] => rfl
  | i :: r => by simp [belows, below, below_ints r]
theorem agree_refl {n : Nat} : ∀ S : Store, agree n S S
  | [] => trivial
  | o :: S => ⟨.inl rfl, agree_refl S⟩
theorem agree_app {n : Nat} : ∀ (S X : Store), agree n S (S ++ X)
  | [], _ => trivial
  | o :: S, X => ⟨.inl rfl, agree_app S X⟩
theorem agree_dk {cs cs' : List Int} {k k' : Int} {T X : Store} {n : Nat} (hn : 0 < n) : agree n (dk cs k T) (dk cs' k' (T ++ X)) :=
  ⟨.inr (below_ints cs'), .inr (by simp [belowO, belows, below, hn]), agree_app T X⟩
theorem dk_len {cs : List Int} {k : Int} {T : Store} : (dk cs k T).length = T.length + 2 := rfl
theorem fin_dk {cs cs' : List Int} {k k' : Int} {T X : Store} {d : D} (h : noRef d = true) : fin false (dk cs k T) d (dk cs' k' (T ++ X)) = .ok d (dk cs' k' T) := by
  unfold fin
  rw [if_neg Bool.false_ne_true, if_pos (agree_dk (by rw [dk_len]; omega))]
  unfold fzD
  rw [if_pos h]
  show R.ok d _ = _
  congr 1
  show (dk cs' k' (T ++ X)).take (T.length + 2) = _
  unfold dk
  simp
theorem fin_dk0 {cs cs' : List Int} {k k' : Int} {T : Store} {d : D} (h : noRef d = true) : fin false (dk cs k T) d (dk cs' k' T) = .ok d (dk cs' k' T) := by
  have := fin_dk (cs := cs) (cs' := cs') (k := k) (k' := k') (T := T) (X := []) h
  rwa [List.append_nil] at this
theorem pysR_ints {r : Nat → Option PyData} : ∀ ns : List Int, pysR r (ns.map .int) = some (ns.map .int)
  | [] => rfl
  | i :: l => by simp [pysR, pyR, pysR_ints l]
theorem depth_ints : ∀ ns : List Int, PyData.depthAll (ns.map .int) = 0
  | [] => rfl
  | i :: l => by simp [PyData.depthAll, PyData.depth, depth_ints l]
theorem lay_ints : ∀ ns : List Int, PyData.canLayAll0 (ns.map .int) = true
  | [] => rfl
  | i :: l => by simp [PyData.canLayAll0, PyData.canLay0, lay_ints l]
theorem ok_ints {ns : List Int} : okPy (.list (ns.map .int)) = true := by
  show (PyData.canLayAll0 (ns.map .int) && decide (PyData.depthAll (ns.map .int) + 1 ≤ 64)) = true
  rw [lay_ints, depth_ints]; rfl
theorem ne_nil {cs : List Int} {k : Int} {T : Store} : cmpD (dk cs k T) .ne (.ref 0) (.lst []) = some (!cs.isEmpty) := by
  have h1 : pyD (dk cs k T) (.ref 0) = some (.list (cs.map .int)) := by
    show ((pysR _ (cs.map .int)).map PyData.list) = _
    rw [pysR_ints]; rfl
  have h2 : pyD (dk cs k T) (.lst []) = some (.list []) := rfl
  have e0 : eqD0 (dk cs k T) (.ref 0) (.lst []) = some cs.isEmpty := by
    unfold eqD0
    rw [h1, h2]
    show (if okPy (.list (cs.map .int)) = true ∧ okPy (.list []) = true then some _ else none) = _
    rw [if_pos ⟨ok_ints, rfl⟩]
    cases cs <;> rfl
  show neD _ _ _ = _
  unfold neD
  rw [e0]
theorem fmod_pos {a m : Int} (h : 1 ≤ m) : 0 ≤ a.fmod m ∧ a.fmod m < m := ⟨Int.fmod_nonneg_of_pos a (by omega), Int.fmod_lt_of_pos a (by omega)⟩
theorem p18 : (10 : Int) ^ (18 : Int).toNat = 1000000000000000000 := rfl
theorem draw_end {cs : List Int} {k m c : Int} {T : Store} {G : List Fn} {at_ : Int} (h1 : 1 ≤ m) (h2 : m < 1073741824) (hk0 : 0 ≤ k) (hk : k ≤ 1000000000001) (hat : 1000000000000000000 ≤ c → ∃ j, ixN cs.length at_ = some j) {rest : Sms}
    (hr : rest = (Sms.cons (Sm.iff (E.cmp Cop.ge (E.var 3) (E.bin Bop.pow (E.int (10)) (E.int (18)))) (Sms.cons (Sm.asg (Tg.sub (E.ix (E.var 0) (E.int (0))) (E.var 2)) (E.bin Bop.fdv (E.blt Bl.int (Es.cons (E.var 3) Es.nil)) (E.var 1))) (Sms.cons (Sm.ret (E.bin Bop.mod (E.blt Bl.int (Es.cons (E.var 3) Es.nil)) (E.var 1))) Sms.nil)) Sms.nil) (Sms.cons (Sm.asg (Tg.nm 4) (E.bin Bop.add (E.bin Bop.add (E.bin Bop.mod (E.blt Bl.int (Es.cons (E.var 3) Es.nil)) (E.int (2147483399))) (E.bin Bop.mul (E.int (7919)) (E.ix (E.var 0) (E.int (2))))) (E.int (31)))) (Sms.cons (Sm.ret (E.bin Bop.mod (E.blt Bl.int (Es.cons (E.bin Bop.mod (E.blt Bl.int (Es.cons (E.bin Bop.pow (E.var 4) (E.int (5))) Es.nil)) (E.int (2147483549))) Es.nil)) (E.var 1))) Sms.nil)))) :
    ∃ r cs', exs G rest [some (.ref 1), some (.int m), some (.int at_), some (.int c), none] (dk cs k T) = .ret (.int r) (dk cs' k T) ∧ 0 ≤ r ∧ r < m ∧ cs'.length = cs.length := by
  subst hr
  have hm0 : m ≠ 0 := by omega
  have i0 : ixD (dk cs k T) (.ref 1) (.int 0) = some (.ref 0) := rfl
  have i2 : ixD (dk cs k T) (.ref 1) (.int 2) = some (.int k) := rfl
  have hcond : ev G (E.cmp Cop.ge (E.var 3) (E.bin Bop.pow (E.int (10)) (E.int (18)))) [some (.ref 1), some (.int m), some (.int at_), some (.int c), none] (dk cs k T) = .ok (.bl (decide (1000000000000000000 ≤ c))) (dk cs k T) := by
    simp only [ev, evs, evl, asg, asgs, itm, cnd, look, opt_some, bnd_ok, nx_ok, fl_ok, Option.map, q_add, q_sub, q_lt, q_le, q_gt, q_ge, q_eqi, q_nei, q_int, q_abs, q_lenL, q_lenT, q_lenS, q_tupT, q_tupL, q_tr, List.set_cons_zero, List.set_cons_succ, Tgs.len, q_pow (show (0 : Int) ≤ 18 ∧ (18 : Int) ≤ 1000000 ∧ (10 : Int).natAbs < 2 ^ 64 by decide), p18]
  by_cases hc : 1000000000000000000 ≤ c
  · obtain ⟨j, hj⟩ := hat hc
    have ej : subD (dk cs k T) (.ref 0) (.int at_) (.int (c / m)) = some (dk (cs.set j (c / m)) k T) := by
      show (ixN (cs.map D.int).length at_).map (fun j => (dk cs k T).set 0 (.lst ((cs.map .int).set j (.int (c / m))))) = _
      rw [List.length_map, hj]
      unfold dk
      simp [List.map_set]
    refine ⟨c.fmod m, cs.set j (c / m), ?_, (fmod_pos h1).1, (fmod_pos h1).2, by simp⟩
    refine exs_ret ?_
    rw [ex_iff hcond, decide_eq_true hc]
    show exs G _ _ _ = _
    rw [exs_next (ex_asg (d := .int (c / m)) (S1 := dk cs k T) (r1 := [some (.ref 1), some (.int m), some (.int at_), some (.int c), none]) (S2 := dk (cs.set j (c / m)) k T) ?_ ?_)]
    · refine exs_ret (ex_ret ?_)
      simp only [ev, evs, evl, asg, asgs, itm, cnd, look, opt_some, bnd_ok, nx_ok, fl_ok, Option.map, q_add, q_sub, q_lt, q_le, q_gt, q_ge, q_eqi, q_nei, q_int, q_abs, q_lenL, q_lenT, q_lenS, q_tupT, q_tupL, q_tr, List.set_cons_zero, List.set_cons_succ, Tgs.len, q_mod hm0]
    · simp only [ev, evs, evl, asg, asgs, itm, cnd, look, opt_some, bnd_ok, nx_ok, fl_ok, Option.map, q_add, q_sub, q_lt, q_le, q_gt, q_ge, q_eqi, q_nei, q_int, q_abs, q_lenL, q_lenT, q_lenS, q_tupT, q_tupL, q_tr, List.set_cons_zero, List.set_cons_succ, Tgs.len, q_fdv (show divOk m from ⟨by omega, .inl h2⟩)]
    · simp only [ev, evs, evl, asg, asgs, itm, cnd, look, opt_some, bnd_ok, nx_ok, fl_ok, Option.map, q_add, q_sub, q_lt, q_le, q_gt, q_ge, q_eqi, q_nei, q_int, q_abs, q_lenL, q_lenT, q_lenS, q_tupT, q_tupL, q_tr, List.set_cons_zero, List.set_cons_succ, Tgs.len, i0, ej]
  · have hb := fmod_pos (a := c) (m := 2147483399) (by omega)
    have hp : 0 ≤ (5 : Int) ∧ (5 : Int) ≤ 1000000 ∧ (c.fmod 2147483399 + 7919 * k + 31).natAbs < 2 ^ 64 := ⟨by decide, by decide, by omega⟩
    rw [exs_next (r1 := [some (.ref 1), some (.int m), some (.int at_), some (.int c), none]) (S1 := dk cs k T)]
    · rw [exs_next (ex_asg (d := .int (c.fmod 2147483399 + 7919 * k + 31)) (S1 := dk cs k T) (r1 := [some (.ref 1), some (.int m), some (.int at_), some (.int c), some (.int (c.fmod 2147483399 + 7919 * k + 31))]) (S2 := dk cs k T) ?_ ?_)]
      · refine ⟨_, cs, exs_ret (ex_ret (d := .int ((((c.fmod 2147483399 + 7919 * k + 31) ^ (5 : Int).toNat).fmod 2147483549).fmod m)) ?_), (fmod_pos h1).1, (fmod_pos h1).2, rfl⟩
        simp only [ev, evs, evl, asg, asgs, itm, cnd, look, opt_some, bnd_ok, nx_ok, fl_ok, Option.map, q_add, q_sub, q_lt, q_le, q_gt, q_ge, q_eqi, q_nei, q_int, q_abs, q_lenL, q_lenT, q_lenS, q_tupT, q_tupL, q_tr, List.set_cons_zero, List.set_cons_succ, Tgs.len, q_pow hp, q_mod hm0, q_mod (show (2147483549 : Int) ≠ 0 by decide)]
      · simp only [ev, evs, evl, asg, asgs, itm, cnd, look, opt_some, bnd_ok, nx_ok, fl_ok, Option.map, q_add, q_sub, q_lt, q_le, q_gt, q_ge, q_eqi, q_nei, q_int, q_abs, q_lenL, q_lenT, q_lenS, q_tupT, q_tupL, q_tr, List.set_cons_zero, List.set_cons_succ, Tgs.len, i2, q_mod (show (2147483399 : Int) ≠ 0 by decide), q_mul (show mulOk 7919 k from .inl (.inl (by decide)))]
      · simp only [ev, evs, evl, asg, asgs, itm, cnd, look, opt_some, bnd_ok, nx_ok, fl_ok, Option.map, q_add, q_sub, q_lt, q_le, q_gt, q_ge, q_eqi, q_nei, q_int, q_abs, q_lenL, q_lenT, q_lenS, q_tupT, q_tupL, q_tr, List.set_cons_zero, List.set_cons_succ, Tgs.len]
    · rw [ex_iff hcond, decide_eq_false hc]
      show exs G _ _ _ = _
      rw [exs]
theorem draw_ok {cs : List Int} {k m : Int} {T : Store} (h1 : 1 ≤ m) (h2 : m < 1073741824) (hk0 : 0 ≤ k) (hk : k ≤ 1000000000000) :
    ∃ r cs', s_draw [.ref 1, .int m] (dk cs k T) = .ok (.int r) (dk cs' (k + 1) T) ∧ 0 ≤ r ∧ r < m ∧ cs'.length = cs.length := by
  have i2 : ixD (dk cs k T) (.ref 1) (.int 2) = some (.int k) := rfl
  have hS : subD (dk cs k T) (.ref 1) (.int 2) (.int (k + 1)) = some (dk cs (k + 1) T) := rfl
  have key : ∀ {o : Fl} {r : Int} {cs' : List Int}, o = .ret (.int r) (dk cs' (k + 1) T) → exitR false (dk cs k T) o = .ok (.int r) (dk cs' (k + 1) T) := by
    rintro _ r cs' rfl
    exact fin_dk0 rfl
  unfold s_draw
  rw [run_ok rfl]
  simp only [ir_draw, b_draw, List.map_cons, List.map_nil, List.replicate, List.cons_append, List.nil_append, Nat.reduceSub]
  rw [exs_next (ex_asg (d := .int (k + 1)) (S1 := dk cs k T) (r1 := [some (.ref 1), some (.int m), none, none, none]) (S2 := dk cs (k + 1) T) ?_ ?_),
    exs_next (ex_asg (d := .int (-1)) (S1 := dk cs (k + 1) T) (r1 := [some (.ref 1), some (.int m), some (.int (-1)), none, none]) (S2 := dk cs (k + 1) T) ?_ ?_),
    exs_next (ex_asg (d := .int 7) (S1 := dk cs (k + 1) T) (r1 := [some (.ref 1), some (.int m), some (.int (-1)), some (.int 7), none]) (S2 := dk cs (k + 1) T) ?_ ?_)]
  · have j0 : ixD (dk cs (k + 1) T) (.ref 1) (.int 0) = some (.ref 0) := rfl
    have j2 : ixD (dk cs (k + 1) T) (.ref 1) (.int 2) = some (.int (k + 1)) := rfl
    have hcond : ev [] (E.cmp Cop.ne (E.ix (E.var 0) (E.int (0))) (E.fr false (L.dis Es.nil))) [some (.ref 1), some (.int m), some (.int (-1)), some (.int 7), none] (dk cs (k + 1) T) = .ok (.bl (!cs.isEmpty)) (dk cs (k + 1) T) := by
      simp only [ev, evs, evl, asg, asgs, itm, cnd, look, opt_some, bnd_ok, nx_ok, fl_ok, Option.map, q_add, q_sub, q_lt, q_le, q_gt, q_ge, q_eqi, q_nei, q_int, q_abs, q_lenL, q_lenT, q_lenS, q_tupT, q_tupL, q_tr, List.set_cons_zero, List.set_cons_succ, Tgs.len, j0, mkL, if_neg Bool.false_ne_true, ne_nil]
    cases cs with
    | nil =>
      obtain ⟨r, cs', e, h3, h4, h5⟩ := draw_end (cs := []) (k := k + 1) (m := m) (c := 7) (T := T) (G := []) (at_ := -1) h1 h2 (by omega) (by omega) (by intro h; omega) rfl
      refine ⟨r, cs', key ?_, h3, h4, h5⟩
      rw [exs_next (r1 := [some (.ref 1), some (.int m), some (.int (-1)), some (.int 7), none]) (S1 := dk [] (k + 1) T)]
      · exact e
      · rw [ex_iff hcond]
        show exs [] _ _ _ = _
        rw [exs]
    | cons c0 cr =>
      have hl : (1 : Int) ≤ (((c0 :: cr).length : Nat) : Int) := by simp; omega
      have hb := fmod_pos (a := k + 1) hl
      obtain ⟨c, hc⟩ : ∃ c, (c0 :: cr)[((k + 1).fmod ((c0 :: cr).length : Nat)).toNat]? = some c := ⟨_, List.getElem?_eq_getElem (by omega)⟩
      have hix : ixN (c0 :: cr).length ((k + 1).fmod ((c0 :: cr).length : Nat)) = some ((k + 1).fmod ((c0 :: cr).length : Nat)).toNat := by
        unfold ixN
        rw [if_pos hb.1, if_pos (by omega)]
      obtain ⟨r, cs', e, h3, h4, h5⟩ := draw_end (cs := c0 :: cr) (k := k + 1) (m := m) (c := c) (T := T) (G := []) (at_ := (k + 1).fmod ((c0 :: cr).length : Nat)) h1 h2 (by omega) (by omega) (fun _ => ⟨_, hix⟩) rfl
      have j3 : bltD (dk (c0 :: cr) (k + 1) T) .len [.ref 0] = some (.int ((c0 :: cr).length : Nat)) := by
        rw [q_lenR (xs := (c0 :: cr).map .int) rfl, List.length_map]
      have j4 : ixD (dk (c0 :: cr) (k + 1) T) (.ref 0) (.int ((k + 1).fmod ((c0 :: cr).length : Nat))) = some (.int c) :=
        q_ixR (xs := (c0 :: cr).map .int) rfl (at_of hb.1 (by rw [List.getElem?_map, hc]; rfl))
      refine ⟨r, cs', key ?_, h3, h4, h5⟩
      rw [exs_next (r1 := [some (.ref 1), some (.int m), some (.int ((k + 1).fmod ((c0 :: cr).length : Nat))), some (.int c), none]) (S1 := dk (c0 :: cr) (k + 1) T)]
      · exact e
      · rw [ex_iff hcond]
        show exs [] _ _ _ = _
        rw [exs_next (ex_asg (d := .int ((k + 1).fmod ((c0 :: cr).length : Nat))) (S1 := dk (c0 :: cr) (k + 1) T) (r1 := [some (.ref 1), some (.int m), some (.int ((k + 1).fmod ((c0 :: cr).length : Nat))), some (.int 7), none]) (S2 := dk (c0 :: cr) (k + 1) T) ?_ ?_),
          exs_next (ex_asg (d := .int c) (S1 := dk (c0 :: cr) (k + 1) T) (r1 := [some (.ref 1), some (.int m), some (.int ((k + 1).fmod ((c0 :: cr).length : Nat))), some (.int c), none]) (S2 := dk (c0 :: cr) (k + 1) T) ?_ ?_)]
        · rw [exs]
        · simp only [ev, evs, evl, asg, asgs, itm, cnd, look, opt_some, bnd_ok, nx_ok, fl_ok, Option.map, q_add, q_sub, q_lt, q_le, q_gt, q_ge, q_eqi, q_nei, q_int, q_abs, q_lenL, q_lenT, q_lenS, q_tupT, q_tupL, q_tr, List.set_cons_zero, List.set_cons_succ, Tgs.len, j0, j4]
        · simp only [ev, evs, evl, asg, asgs, itm, cnd, look, opt_some, bnd_ok, nx_ok, fl_ok, Option.map, q_add, q_sub, q_lt, q_le, q_gt, q_ge, q_eqi, q_nei, q_int, q_abs, q_lenL, q_lenT, q_lenS, q_tupT, q_tupL, q_tr, List.set_cons_zero, List.set_cons_succ, Tgs.len]
        · simp only [ev, evs, evl, asg, asgs, itm, cnd, look, opt_some, bnd_ok, nx_ok, fl_ok, Option.map, q_add, q_sub, q_lt, q_le, q_gt, q_ge, q_eqi, q_nei, q_int, q_abs, q_lenL, q_lenT, q_lenS, q_tupT, q_tupL, q_tr, List.set_cons_zero, List.set_cons_succ, Tgs.len, j0, j2, j3, q_mod (show (((c0 :: cr).length : Nat) : Int) ≠ 0 by omega)]
        · simp only [ev, evs, evl, asg, asgs, itm, cnd, look, opt_some, bnd_ok, nx_ok, fl_ok, Option.map, q_add, q_sub, q_lt, q_le, q_gt, q_ge, q_eqi, q_nei, q_int, q_abs, q_lenL, q_lenT, q_lenS, q_tupT, q_tupL, q_tr, List.set_cons_zero, List.set_cons_succ, Tgs.len]
  · simp only [ev, evs, evl, asg, asgs, itm, cnd, look, opt_some, bnd_ok, nx_ok, fl_ok, Option.map, q_add, q_sub, q_lt, q_le, q_gt, q_ge, q_eqi, q_nei, q_int, q_abs, q_lenL, q_lenT, q_lenS, q_tupT, q_tupL, q_tr, List.set_cons_zero, List.set_cons_succ, Tgs.len]
  · simp only [ev, evs, evl, asg, asgs, itm, cnd, look, opt_some, bnd_ok, nx_ok, fl_ok, Option.map, q_add, q_sub, q_lt, q_le, q_gt, q_ge, q_eqi, q_nei, q_int, q_abs, q_lenL, q_lenT, q_lenS, q_tupT, q_tupL, q_tr, List.set_cons_zero, List.set_cons_succ, Tgs.len]
  · simp only [ev, evs, evl, asg, asgs, itm, cnd, look, opt_some, bnd_ok, nx_ok, fl_ok, Option.map, q_add, q_sub, q_lt, q_le, q_gt, q_ge, q_eqi, q_nei, q_int, q_abs, q_lenL, q_lenT, q_lenS, q_tupT, q_tupL, q_tr, List.set_cons_zero, List.set_cons_succ, Tgs.len]
  · simp only [ev, evs, evl, asg, asgs, itm, cnd, look, opt_some, bnd_ok, nx_ok, fl_ok, Option.map, q_add, q_sub, q_lt, q_le, q_gt, q_ge, q_eqi, q_nei, q_int, q_abs, q_lenL, q_lenT, q_lenS, q_tupT, q_tupL, q_tr, List.set_cons_zero, List.set_cons_succ, Tgs.len]
  · simp only [ev, evs, evl, asg, asgs, itm, cnd, look, opt_some, bnd_ok, nx_ok, fl_ok, Option.map, q_add, q_sub, q_lt, q_le, q_gt, q_ge, q_eqi, q_nei, q_int, q_abs, q_lenL, q_lenT, q_lenS, q_tupT, q_tupL, q_tr, List.set_cons_zero, List.set_cons_succ, Tgs.len, i2]
  · simp only [ev, evs, evl, asg, asgs, itm, cnd, look, opt_some, bnd_ok, nx_ok, fl_ok, Option.map, q_add, q_sub, q_lt, q_le, q_gt, q_ge, q_eqi, q_nei, q_int, q_abs, q_lenL, q_lenT, q_lenS, q_tupT, q_tupL, q_tr, List.set_cons_zero, List.set_cons_succ, Tgs.len, hS]
end RR

set_option Elab.async false
set_option linter.all false
set_option maxRecDepth 100000
set_option maxHeartbeats 1000000
/-! the laws' own web makers -/
namespace RR
open PySem L2
/-- a non-keeping def's end over the deck -/
theorem end_dk {cs cs' : List Int} {k k' : Int} {T X : Store} {d : D} {o : Fl} (h : o = .ret d (dk cs' k' (T ++ X))) (hn : noRef d = true) : exitR false (dk cs k T) o = .ok d (dk cs' k' T) := by
  rw [h]; exact fin_dk hn
theorem end_dk0 {cs cs' : List Int} {k k' : Int} {T : Store} {d : D} {o : Fl} (h : o = .ret d (dk cs' k' T)) (hn : noRef d = true) : exitR false (dk cs k T) o = .ok d (dk cs' k' T) := by
  rw [h]; exact fin_dk0 hn
/-- .. over any store, which it leaves but for new objects -/
theorem end_any {S X : Store} {d : D} {o : Fl} (h : o = .ret d (S ++ X)) (hn : noRef d = true) : exitR false S o = .ok d S := by
  rw [h]
  show fin false S d (S ++ X) = _
  unfold fin
  rw [if_neg Bool.false_ne_true, if_pos (agree_app S X)]
  unfold fzD
  rw [if_pos hn]
  show R.ok d _ = _
  rw [List.take_left' rfl]
theorem end_any0 {S : Store} {d : D} {o : Fl} (h : o = .ret d S) (hn : noRef d = true) : exitR false S o = .ok d S := end_any (X := []) (by rw [List.append_nil]; exact h) hn
theorem mem_at {α : Type} {xs : List α} {i : Int} (h0 : 0 ≤ i) (h : i < xs.length) : ∃ x, x ∈ xs ∧ atI xs i = some x := by
  have hl : i.toNat < xs.length := by omega
  exact ⟨xs[i.toNat], List.getElem_mem hl, at_of h0 (List.getElem?_eq_getElem hl)⟩
/-- pick -/
theorem pick_ok {cs : List Int} {k : Int} {T : Store} {xs : List D} (hx : xs ≠ []) (hl : xs.length < 1073741824) (hr : ∀ x ∈ xs, noRef x = true) (hk0 : 0 ≤ k) (hk : k ≤ 1000000000000) :
    ∃ x cs', x ∈ xs ∧ s_pick [.ref 1, .lst xs] (dk cs k T) = .ok x (dk cs' (k + 1) T) := by
  have h1 : (1 : Int) ≤ (xs.length : Nat) := by
    have := List.length_pos_iff.mpr hx
    omega
  obtain ⟨i, cs', e, i0, i1, _⟩ := draw_ok (cs := cs) (k := k) (m := (xs.length : Nat)) (T := T) h1 (by omega) hk0 hk
  obtain ⟨x, hm, ha⟩ := mem_at i0 i1
  refine ⟨x, cs', hm, ?_⟩
  unfold s_pick
  rw [run_ok rfl]
  refine end_dk0 (exs_ret (ex_ret ?_)) (hr x hm)
  simp only [ir_pick, List.map_cons, List.map_nil, List.replicate, List.cons_append, List.nil_append, Nat.reduceSub, ev, evs, evl, asg, asgs, itm, cnd, look, opt_some, bnd_ok, nx_ok, fl_ok, Option.map, q_add, q_sub, q_lt, q_le, q_gt, q_ge, q_eqi, q_nei, q_int, q_abs, q_lenL, q_lenT, q_lenS, q_tupT, q_tupL, q_tr, List.set_cons_zero, List.set_cons_succ, Tgs.len, List.getElem?_cons_zero, e, q_ixL ha]
/-- a rate from 1 to 10 ** 6 -/
theorem rate_ok {cs : List Int} {k : Int} {T : Store} (hk0 : 0 ≤ k) (hk : k ≤ 100000000000) :
    ∃ r cs', s_rate [.ref 1] (dk cs k T) = .ok (.int r) (dk cs' (k + 3) T) ∧ 1 ≤ r ∧ r ≤ 1000000 := by
  obtain ⟨a, c1, e1, a0, a1, _⟩ := draw_ok (cs := cs) (k := k) (m := 9) (T := T) (by omega) (by omega) hk0 (by omega)
  obtain ⟨b, c2, e2, b0, b1, _⟩ := draw_ok (cs := c1) (k := k + 1) (m := 999) (T := T) (by omega) (by omega) (by omega) (by omega)
  obtain ⟨x, c3, hx, e3⟩ := pick_ok (cs := c2) (k := k + 1 + 1) (T := T) (xs := [.int 1, .int 1, .int 2, .int 3, .int (1 + a), .int (1 + b), .int 1000000]) (by simp) (by simp) (by simp [noRef]) (by omega) (by omega)
  have hv : ∃ r, x = .int r ∧ 1 ≤ r ∧ r ≤ 1000000 := by
    simp only [List.mem_cons, List.not_mem_nil, or_false] at hx
    rcases hx with rfl | rfl | rfl | rfl | rfl | rfl | rfl <;> exact ⟨_, rfl, by omega, by omega⟩
  obtain ⟨r, rfl, h1, h2⟩ := hv
  refine ⟨r, c3, ?_, h1, h2⟩
  unfold s_rate
  rw [run_ok rfl]
  refine end_dk0 (exs_ret (ex_ret ?_)) rfl
  have p6 : (10 : Int) ^ (6 : Int).toNat = 1000000 := rfl
  simp only [ir_rate, List.map_cons, List.map_nil, List.replicate, List.cons_append, List.nil_append, Nat.reduceSub, ev, evs, evl, asg, asgs, itm, cnd, look, opt_some, bnd_ok, nx_ok, fl_ok, Option.map, q_add, q_sub, q_lt, q_le, q_gt, q_ge, q_eqi, q_nei, q_int, q_abs, q_lenL, q_lenT, q_lenS, q_tupT, q_tupL, q_tr, List.set_cons_zero, List.set_cons_succ, Tgs.len, List.getElem?_cons_zero, List.getElem?_cons_succ, mkL, e1, e2, q_pow (show (0 : Int) ≤ 6 ∧ (6 : Int) ≤ 1000000 ∧ (10 : Int).natAbs < 2 ^ 64 by decide), p6, if_neg Bool.false_ne_true]
  rw [show k + 1 + 1 + 1 = k + 3 by omega] at e3
  exact e3
/-! ### pairs -/
def isPair (n : Int) (d : D) : Prop := ∃ i j : Int, d = .tup [.int i, .int j] ∧ 0 ≤ i ∧ i < n ∧ 0 ≤ j ∧ j < n ∧ i ≠ j
theorem isPair_noRef {n : Int} {d : D} (h : isPair n d) : noRef d = true := by
  obtain ⟨i, j, rfl, _⟩ := h
  rfl
theorem rgI_mem {a b : Int} {d : D} (h : d ∈ rgI a b) : ∃ i, d = .int i ∧ a ≤ i ∧ i < b := by
  unfold rgI at h
  obtain ⟨i, hi, rfl⟩ := List.mem_map.mp h
  rw [List.mem_range] at hi
  exact ⟨_, rfl, by omega, by omega⟩
theorem rgI_len {a b : Int} : (rgI a b).length = (b - a).toNat := by unfold rgI; simp
theorem q_rg1 {b : Int} (h : 0 ≤ b) (h2 : b ≤ 16777216) : rngD [.int b] = some (rgI 0 b) := by
  show (if smI b ∧ b ≤ 16777216 then _ else _) = _
  exact if_pos ⟨⟨by omega, by omega⟩, h2⟩
theorem q_rg2 {a b : Int} (h0 : 0 ≤ a) (h : 0 ≤ b) (h2 : b ≤ 16777216) (h3 : a ≤ 16777216) : rngD [.int a, .int b] = some (rgI a b) := by
  show (if smI a ∧ smI b ∧ b - a ≤ 16777216 then _ else _) = _
  exact if_pos ⟨⟨by omega, by omega⟩, ⟨by omega, by omega⟩, by omega⟩
theorem noRefs_all : ∀ {xs : List D}, (∀ x ∈ xs, noRef x = true) → noRefs xs = true
  | [], _ => rfl
  | x :: xs, h => by
    show (noRef x && noRefs xs) = true
    rw [h x List.mem_cons_self, noRefs_all fun y hy => h y (List.mem_cons_of_mem _ hy)]
    rfl
theorem app_at {S : Store} {o : Ob} : (S ++ [o])[S.length]? = some o := by simp
theorem app_set {S : Store} {o o' : Ob} : (S ++ [o]).set S.length o' = S ++ [o'] := by simp
theorem fin_last {S : Store} {xs : List D} (h : noRefs xs = true) : fin false S (.ref S.length) (S ++ [.lst xs]) = .ok (.lst xs) S := by
  unfold fin
  rw [if_neg Bool.false_ne_true, if_pos (agree_app S _)]
  have e : fzD (S ++ [.lst xs]) S.length (.ref S.length) = some (.lst xs) := by
    unfold fzD
    rw [if_neg (by simp [noRef])]
    show (if S.length < S.length then some (D.ref S.length) else obFz S.length _ (S ++ [Ob.lst xs])[S.length]?) = _
    rw [if_neg (by omega), app_at]
    show (fzsR S.length _ xs).map D.lst = _
    rw [fz_all xs h]
    rfl
  rw [e]
  show R.ok _ _ = _
  rw [List.take_left' rfl]
theorem q_ext {S : Store} {n : Nat} {xs ys : List D} (h : S[n]? = some (.lst xs)) (hl : xs.length + ys.length ≤ 16777216) : metD S .extend (.ref n) [.lst ys] = .ok .non (S.set n (.lst (xs ++ ys))) := by
  show (match S[n]?, some ys with
    | some (.lst xs), some ys => if xs.length + ys.length ≤ 16777216 then R.ok D.non (S.set n (.lst (xs ++ ys))) else .bad
    | _, _ => .bad) = _
  rw [h]
  exact if_pos hl
theorem pairs_ok {n : Int} {S : Store} (h0 : 0 ≤ n) (h1 : n ≤ 1000) : ∃ xs, s_pairs [.int n] S = .ok (.lst xs) S ∧ (∀ x ∈ xs, isPair n x) ∧ xs.length ≤ 1000000 := by
  refine ⟨_, N.pairs_eq h0 h1, fun x hx => ?_, ?_⟩
  · obtain ⟨p, hp, rfl⟩ := List.mem_map.mp hx
    obtain ⟨i, hi, hp⟩ := List.mem_flatMap.mp hp
    obtain ⟨j, hj, rfl⟩ := List.mem_map.mp hp
    have hi := N.mem_rg.mp hi
    have hj := N.mem_rg.mp hj
    exact ⟨i, j, rfl, by omega, by omega, by omega, by omega, by omega⟩
  · have := N.prs_le (n := n) (l := N.rg 0 n) (fun j hj => (N.mem_rg.mp hj).1) h1
    rw [N.rg_len] at this
    rw [List.length_map]
    unfold N.prs
    omega
theorem q_in2 {S : Store} {a b c : Int} : cmpD S .inn (.int a) (.tup [.int b, .int c]) = some ((b == a) || (c == a)) := by
  show (if okPy (.int a) = true ∧ okPy (.list [.int b, .int c]) = true then some (([PyData.int b, .int c]).any fun z => PyData.eqv z (.int a)) else none) = _
  rw [if_pos ⟨rfl, rfl⟩]
  simp [PyData.eqv]
theorem q_neL {S : Store} {xs : List D} (h : noRefs xs = true) (hp : ∃ ps, pysR (fun _ => none) xs = some ps ∧ okPy (.list ps) = true ∧ ∀ r, pysR r xs = some ps) : cmpD S .ne (.lst xs) (.lst []) = some (!xs.isEmpty) := by
  obtain ⟨ps, h1, h2, h3⟩ := hp
  have e1 : pyD S (.lst xs) = some (.list ps) := by
    show (pysR _ xs).map PyData.list = _
    rw [h3]; rfl
  have e2 : pyD S (.lst []) = some (.list []) := rfl
  have e0 : eqD0 S (.lst xs) (.lst []) = some (PyData.eqv (.list ps) (.list [])) := by
    unfold eqD0
    rw [e1, e2]
    exact if_pos ⟨h2, rfl⟩
  show neD _ _ _ = _
  unfold neD
  rw [e0]
  show some (!PyData.eqv (.list ps) (.list [])) = _
  cases xs with
  | nil =>
    have : ps = [] := by simpa [pysR] using h1.symm
    subst this; rfl
  | cons x xs =>
    cases ps with
    | nil =>
      unfold pysR at h1
      split at h1 <;> cases h1
    | cons p ps => rfl
theorem pairs_py {n : Int} : ∀ {xs : List D}, (∀ x ∈ xs, isPair n x) → ∃ ps, (∀ r, pysR r xs = some ps) ∧ PyData.canLayAll0 ps = true ∧ PyData.depthAll ps ≤ 1
  | [], _ => ⟨[], fun _ => rfl, rfl, Nat.zero_le _⟩
  | x :: xs, h => by
    obtain ⟨ps, h1, h2, h3⟩ := pairs_py (xs := xs) fun y hy => h y (List.mem_cons_of_mem _ hy)
    obtain ⟨i, j, rfl, _⟩ := h x List.mem_cons_self
    refine ⟨.tuple [.int i, .int j] :: ps, fun r => ?_, ?_, ?_⟩
    · unfold pysR
      rw [h1]
      rfl
    · show (PyData.canLay0 (.tuple [.int i, .int j]) && PyData.canLayAll0 ps) = true
      rw [h2]; rfl
    · show max (PyData.depth (.tuple [.int i, .int j])) (PyData.depthAll ps) ≤ 1
      have : PyData.depth (.tuple [.int i, .int j]) = 1 := rfl
      omega
theorem ne_pairs {S : Store} {n : Int} {xs : List D} (h : ∀ x ∈ xs, isPair n x) : cmpD S .ne (.lst xs) (.lst []) = some (!xs.isEmpty) := by
  obtain ⟨ps, h1, h2, h3⟩ := pairs_py h
  refine q_neL (noRefs_all fun x hx => isPair_noRef (h x hx)) ⟨ps, h1 _, ?_, h1⟩
  show (PyData.canLayAll0 ps && decide (PyData.depthAll ps + 1 ≤ 64)) = true
  rw [h2, decide_eq_true (by omega)]; rfl
theorem at0 {α : Type} {a : α} {l : List α} : atI (a :: l) 0 = some a := at_of (by omega) rfl
theorem at1 {α : Type} {a b : α} {l : List α} : atI (a :: b :: l) 1 = some b := at_of (by omega) rfl
theorem some_ties_ok {cs : List Int} {k n : Int} {T : Store} (h0 : 1 ≤ n) (h1 : n ≤ 1000) (hk0 : 0 ≤ k) (hk : k ≤ 100000000000) :
    ∃ xs cs' k', s_some_ties [.ref 1, .int n] (dk cs k T) = .ok (.lst xs) (dk cs' k' T) ∧ (∀ x ∈ xs, isPair n x) ∧ xs.length ≤ 1000000 ∧ k ≤ k' ∧ k' ≤ k + 1000001 := by
  obtain ⟨xs, e1, hx, hl⟩ := pairs_ok (n := n) (S := dk cs k T) (by omega) h1
  obtain ⟨w, c1, e2, w0, w1, _⟩ := draw_ok (cs := cs) (k := k) (m := 5) (T := T) (by omega) (by omega) hk0 (by omega)
  have fin : ∀ {o : Fl} {ys : List D} {cs' : List Int} {k' : Int}, o = .ret (.lst ys) (dk cs' k' T) → (∀ y ∈ ys, isPair n y) → ys.length ≤ 1000000 → k ≤ k' → k' ≤ k + 1000001 →
      ∃ xs cs' k', exitR false (dk cs k T) o = .ok (.lst xs) (dk cs' k' T) ∧ (∀ x ∈ xs, isPair n x) ∧ xs.length ≤ 1000000 ∧ k ≤ k' ∧ k' ≤ k + 1000001 := by
    intro o ys cs' k' ho hy hl h2 h3
    exact ⟨ys, cs', k', end_dk0 ho (noRefs_all fun y hm => isPair_noRef (hy y hm)), hy, hl, h2, h3⟩
  unfold s_some_ties
  rw [run_ok rfl]
  simp only [ir_some_ties, b_some_ties, List.map_cons, List.map_nil, List.replicate, List.cons_append, List.nil_append, Nat.reduceSub]
  rw [exs_next (ex_asg (d := .tup [.lst xs, .int w]) (S1 := dk c1 (k + 1) T) (r1 := [some (.ref 1), some (.int n), some (.lst xs), some (.int w), none]) (S2 := dk c1 (k + 1) T) ?_ ?_)]
  · refine if_no (P := fun o => ∃ xs cs' k', exitR false (dk cs k T) o = .ok (.lst xs) (dk cs' k' T) ∧ (∀ x ∈ xs, isPair n x) ∧ xs.length ≤ 1000000 ∧ k ≤ k' ∧ k' ≤ k + 1000001) (v := w == 0) (S1 := dk c1 (k + 1) T) ?_ (fun _ => ?_) fun _ => ?_
    · simp only [ev, evs, evl, asg, asgs, itm, cnd, look, opt_some, bnd_ok, nx_ok, fl_ok, Option.map, q_add, q_sub, q_lt, q_le, q_gt, q_ge, q_eqi, q_nei, q_int, q_abs, q_lenL, q_lenT, q_lenS, q_tupT, q_tupL, q_tr, List.set_cons_zero, List.set_cons_succ, Tgs.len]
    · rw [exs_ret (ex_ret (d := .lst xs) (S1 := dk c1 (k + 1) T) ?_)]
      · exact fin rfl hx hl (by omega) (by omega)
      · simp only [ev, evs, evl, asg, asgs, itm, cnd, look, opt_some, bnd_ok, nx_ok, fl_ok, Option.map, q_add, q_sub, q_lt, q_le, q_gt, q_ge, q_eqi, q_nei, q_int, q_abs, q_lenL, q_lenT, q_lenS, q_tupT, q_tupL, q_tr, List.set_cons_zero, List.set_cons_succ, Tgs.len]
    refine if_no (P := fun o => ∃ xs cs' k', exitR false (dk cs k T) o = .ok (.lst xs) (dk cs' k' T) ∧ (∀ x ∈ xs, isPair n x) ∧ xs.length ≤ 1000000 ∧ k ≤ k' ∧ k' ≤ k + 1000001) (v := w == 1) (S1 := dk c1 (k + 1) T) ?_ (fun _ => ?_) fun _ => ?_
    · simp only [ev, evs, evl, asg, asgs, itm, cnd, look, opt_some, bnd_ok, nx_ok, fl_ok, Option.map, q_add, q_sub, q_lt, q_le, q_gt, q_ge, q_eqi, q_nei, q_int, q_abs, q_lenL, q_lenT, q_lenS, q_tupT, q_tupL, q_tr, List.set_cons_zero, List.set_cons_succ, Tgs.len]
    · rw [exs_ret (ex_ret (d := .lst ((xs.filter fun d => match d with
          | .tup [.int i, .int j] => (1 == j - i) || (n - 1 == j - i)
          | _ => false).map id)) (S1 := dk c1 (k + 1) T) ?_)]
      · refine fin rfl (fun y hy => ?_) ?_ (by omega) (by omega)
        · rw [List.map_id] at hy
          exact hx y (List.mem_filter.mp hy).1
        · rw [List.map_id]
          exact Nat.le_trans (List.length_filter_le _ _) hl
      · refine (ev_cmp (xs := xs) (g := none) (S1 := dk c1 (k + 1) T) ?_ (by omega) (cmp_filter (g := none) _ id trivial fun x hm => ⟨[some (.ref 1), some (.int n), some (.lst xs), some (.int w), some x], ?_, ?_, fun _ => ?_⟩)).trans mk_val
        · simp only [ev, evs, evl, asg, asgs, itm, cnd, look, opt_some, bnd_ok, nx_ok, fl_ok, Option.map, q_add, q_sub, q_lt, q_le, q_gt, q_ge, q_eqi, q_nei, q_int, q_abs, q_lenL, q_lenT, q_lenS, q_tupT, q_tupL, q_tr, List.set_cons_zero, List.set_cons_succ, Tgs.len]; rfl
        · simp only [ev, evs, evl, asg, asgs, itm, cnd, look, opt_some, bnd_ok, nx_ok, fl_ok, Option.map, q_add, q_sub, q_lt, q_le, q_gt, q_ge, q_eqi, q_nei, q_int, q_abs, q_lenL, q_lenT, q_lenS, q_tupT, q_tupL, q_tr, List.set_cons_zero, List.set_cons_succ, Tgs.len, wipeE]
        · obtain ⟨i, j, rfl, _⟩ := hx x hm
          simp only [ev, evs, evl, asg, asgs, itm, cnd, look, opt_some, bnd_ok, nx_ok, fl_ok, Option.map, q_add, q_sub, q_lt, q_le, q_gt, q_ge, q_eqi, q_nei, q_int, q_abs, q_lenL, q_lenT, q_lenS, q_tupT, q_tupL, q_tr, List.set_cons_zero, List.set_cons_succ, Tgs.len, q_ixT at0, q_ixT at1, q_in2]
        · simp only [ev, evs, evl, asg, asgs, itm, cnd, look, opt_some, bnd_ok, nx_ok, fl_ok, Option.map, q_add, q_sub, q_lt, q_le, q_gt, q_ge, q_eqi, q_nei, q_int, q_abs, q_lenL, q_lenT, q_lenS, q_tupT, q_tupL, q_tr, List.set_cons_zero, List.set_cons_succ, Tgs.len]; rfl
    refine if_no (P := fun o => ∃ xs cs' k', exitR false (dk cs k T) o = .ok (.lst xs) (dk cs' k' T) ∧ (∀ x ∈ xs, isPair n x) ∧ xs.length ≤ 1000000 ∧ k ≤ k' ∧ k' ≤ k + 1000001) (v := w == 2) (S1 := dk c1 (k + 1) T) ?_ (fun _ => ?_) fun _ => ?_
    · simp only [ev, evs, evl, asg, asgs, itm, cnd, look, opt_some, bnd_ok, nx_ok, fl_ok, Option.map, q_add, q_sub, q_lt, q_le, q_gt, q_ge, q_eqi, q_nei, q_int, q_abs, q_lenL, q_lenT, q_lenS, q_tupT, q_tupL, q_tr, List.set_cons_zero, List.set_cons_succ, Tgs.len]
    · rw [exs_ret (ex_ret (d := .lst ((xs.filter fun d => match d with
          | .tup [.int i, .int j] => i == 0
          | _ => false).map id)) (S1 := dk c1 (k + 1) T) ?_)]
      · refine fin rfl (fun y hy => ?_) ?_ (by omega) (by omega)
        · rw [List.map_id] at hy
          exact hx y (List.mem_filter.mp hy).1
        · rw [List.map_id]
          exact Nat.le_trans (List.length_filter_le _ _) hl
      · refine (ev_cmp (xs := xs) (g := none) (S1 := dk c1 (k + 1) T) ?_ (by omega) (cmp_filter (g := none) _ id trivial fun x hm => ⟨[some (.ref 1), some (.int n), some (.lst xs), some (.int w), some x], ?_, ?_, fun _ => ?_⟩)).trans mk_val
        · simp only [ev, evs, evl, asg, asgs, itm, cnd, look, opt_some, bnd_ok, nx_ok, fl_ok, Option.map, q_add, q_sub, q_lt, q_le, q_gt, q_ge, q_eqi, q_nei, q_int, q_abs, q_lenL, q_lenT, q_lenS, q_tupT, q_tupL, q_tr, List.set_cons_zero, List.set_cons_succ, Tgs.len]; rfl
        · simp only [ev, evs, evl, asg, asgs, itm, cnd, look, opt_some, bnd_ok, nx_ok, fl_ok, Option.map, q_add, q_sub, q_lt, q_le, q_gt, q_ge, q_eqi, q_nei, q_int, q_abs, q_lenL, q_lenT, q_lenS, q_tupT, q_tupL, q_tr, List.set_cons_zero, List.set_cons_succ, Tgs.len, wipeE]
        · obtain ⟨i, j, rfl, _⟩ := hx x hm
          simp only [ev, evs, evl, asg, asgs, itm, cnd, look, opt_some, bnd_ok, nx_ok, fl_ok, Option.map, q_add, q_sub, q_lt, q_le, q_gt, q_ge, q_eqi, q_nei, q_int, q_abs, q_lenL, q_lenT, q_lenS, q_tupT, q_tupL, q_tr, List.set_cons_zero, List.set_cons_succ, Tgs.len, q_ixT at0, q_ixT at1]
        · simp only [ev, evs, evl, asg, asgs, itm, cnd, look, opt_some, bnd_ok, nx_ok, fl_ok, Option.map, q_add, q_sub, q_lt, q_le, q_gt, q_ge, q_eqi, q_nei, q_int, q_abs, q_lenL, q_lenT, q_lenS, q_tupT, q_tupL, q_tr, List.set_cons_zero, List.set_cons_succ, Tgs.len]; rfl
    · rename_i n0 n1 n2
      have hw : 1 ≤ w := by
        have : ¬ w = 0 := by simpa using n0
        omega
      obtain ⟨ys, S', e, hy, hyl, cs', k', rfl, g1, g2⟩ := cmp_inv (at_ := fun x r S => asg [s_pairs, s_draw] (Tg.nm 4) x r S) (cd := fun r S => cnd [s_pairs, s_draw] (Es.cons (E.cmp Cop.gt (E.call 1 (Es.cons (E.var 0) (Es.cons (E.var 3) Es.nil))) (E.int (0))) Es.nil) r S) (el := fun r S => ev [s_pairs, s_draw] (E.var 4) r S) (g := none)
        (r := wipeE [some (.ref 1), some (.int n), some (.lst xs), some (.int w), none] [((PySem.Str.ofString "_law_pair"), 4)]) (xs := xs) (S := dk c1 (k + 1) T) (n := 0)
        (I := fun m S => ∃ cs' k', S = dk cs' k' T ∧ k + 1 ≤ k' ∧ k' ≤ k + 1 + m) (V := isPair n) ⟨c1, k + 1, rfl, by omega, by omega⟩ (fun _ _ _ => trivial) (by
          rintro x hm m _ hlt ⟨cs', k', rfl, g1, g2⟩
          obtain ⟨v, c2, e3, v0, v1, _⟩ := draw_ok (cs := cs') (k := k') (m := w) (T := T) hw (by omega) (by omega) (by omega)
          refine ⟨[some (.ref 1), some (.int n), some (.lst xs), some (.int w), some x], dk cs' k' T, decide (0 < v), dk c2 (k' + 1) T, ?_, ?_, ?_⟩
          · simp only [ev, evs, evl, asg, asgs, itm, cnd, look, opt_some, bnd_ok, nx_ok, fl_ok, Option.map, q_add, q_sub, q_lt, q_le, q_gt, q_ge, q_eqi, q_nei, q_int, q_abs, q_lenL, q_lenT, q_lenS, q_tupT, q_tupL, q_tr, List.set_cons_zero, List.set_cons_succ, Tgs.len, wipeE]
          · simp only [ev, evs, evl, asg, asgs, itm, cnd, look, opt_some, bnd_ok, nx_ok, fl_ok, Option.map, q_add, q_sub, q_lt, q_le, q_gt, q_ge, q_eqi, q_nei, q_int, q_abs, q_lenL, q_lenT, q_lenS, q_tupT, q_tupL, q_tr, List.set_cons_zero, List.set_cons_succ, Tgs.len, List.getElem?_cons_succ, List.getElem?_cons_zero, e3]
          · by_cases hv : 0 < v
            · exact .inl ⟨decide_eq_true hv, x, dk c2 (k' + 1) T, by simp only [ev, evs, evl, asg, asgs, itm, cnd, look, opt_some, bnd_ok, nx_ok, fl_ok, Option.map, q_add, q_sub, q_lt, q_le, q_gt, q_ge, q_eqi, q_nei, q_int, q_abs, q_lenL, q_lenT, q_lenS, q_tupT, q_tupL, q_tr, List.set_cons_zero, List.set_cons_succ, Tgs.len], hx x hm, c2, k' + 1, rfl, by omega, by omega⟩
            · exact .inr ⟨decide_eq_false hv, c2, k' + 1, rfl, by omega, by omega⟩)
      refine fin (exs_ret (ex_ret ((ev_cmp (xs := xs) (g := none) (S1 := dk c1 (k + 1) T) ?_ (by omega) e).trans mk_val))) hy (by omega) (by omega) (by omega)
      simp only [ev, evs, evl, asg, asgs, itm, cnd, look, opt_some, bnd_ok, nx_ok, fl_ok, Option.map, q_add, q_sub, q_lt, q_le, q_gt, q_ge, q_eqi, q_nei, q_int, q_abs, q_lenL, q_lenT, q_lenS, q_tupT, q_tupL, q_tr, List.set_cons_zero, List.set_cons_succ, Tgs.len]; rfl
  · simp only [ev, evs, evl, asg, asgs, itm, cnd, look, opt_some, bnd_ok, nx_ok, fl_ok, Option.map, q_add, q_sub, q_lt, q_le, q_gt, q_ge, q_eqi, q_nei, q_int, q_abs, q_lenL, q_lenT, q_lenS, q_tupT, q_tupL, q_tr, List.set_cons_zero, List.set_cons_succ, Tgs.len, List.getElem?_cons_zero, List.getElem?_cons_succ, e1, e2]
  · simp only [ev, evs, evl, asg, asgs, itm, cnd, look, opt_some, bnd_ok, nx_ok, fl_ok, Option.map, q_add, q_sub, q_lt, q_le, q_gt, q_ge, q_eqi, q_nei, q_int, q_abs, q_lenL, q_lenT, q_lenS, q_tupT, q_tupL, q_tr, List.set_cons_zero, List.set_cons_succ, Tgs.len, List.length_cons, List.length_nil]
    rfl
end RR

set_option Elab.async false
set_option linter.all false
set_option maxRecDepth 100000
set_option maxHeartbeats 1000000
/-! rows in the store; webs -/
namespace RR
open PySem L2
def MT (rows : List (List Int)) : Store := rows.map fun row => .lst (row.map .int)
def refs (t n : Nat) : List D := (List.range n).map fun i => .ref (t + 2 + i)
structure Sq (n : Nat) (rows : List (List Int)) : Prop where
  len : rows.length = n
  row : ∀ row ∈ rows, row.length = n ∧ ∀ x ∈ row, 0 ≤ x ∧ x ≤ 1000000
  dg : ∀ (i : Nat) (row : List Int), rows[i]? = some row → row.getD i 0 = 0
theorem app_right {A B : Store} {i : Nat} {x : Ob} : (A ++ B).set (A.length + i) x = A ++ B.set i x := by
  rw [List.set_append, if_neg (by omega), Nat.add_sub_cancel_left]
section
variable {cs : List Int} {k : Int} {T : Store} {rows : List (List Int)} {n : Nat}
theorem mt_get (i : Nat) : (dk cs k (T ++ MT rows))[T.length + 2 + i]? = (rows[i]?).map fun row => Ob.lst (row.map .int) := by
  unfold dk
  rw [show T.length + 2 + i = (T.length + i) + 1 + 1 by omega, List.getElem?_cons_succ, List.getElem?_cons_succ, List.getElem?_append_right (by omega), Nat.add_sub_cancel_left]
  unfold MT
  rw [List.getElem?_map]
theorem mt_set {i : Nat} {j v : Int} {row : List Int} (h : rows[i]? = some row) (h0 : 0 ≤ j) (h1 : j < row.length) :
    subD (dk cs k (T ++ MT rows)) (.ref (T.length + 2 + i)) (.int j) (.int v) = some (dk cs k (T ++ MT (rows.set i (row.set j.toNat v)))) := by
  show (match (dk cs k (T ++ MT rows))[T.length + 2 + i]? with
    | some (.lst xs) => (ixN xs.length j).map fun q => (dk cs k (T ++ MT rows)).set (T.length + 2 + i) (.lst (xs.set q (.int v)))
    | none => none) = _
  rw [mt_get, h]
  show (ixN (row.map D.int).length j).map _ = _
  have e : ixN (row.map D.int).length j = some j.toNat := by
    unfold ixN
    rw [List.length_map, if_pos h0, if_pos h1]
  rw [e]
  show some ((dk cs k (T ++ MT rows)).set (T.length + 2 + i) (.lst ((row.map .int).set j.toNat (.int v)))) = _
  congr 1
  unfold dk
  rw [show T.length + 2 + i = (T.length + i) + 1 + 1 by omega, List.set_cons_succ, List.set_cons_succ, app_right]
  congr 3
  unfold MT
  rw [List.map_set, List.map_set]
theorem mt_at {i : Nat} {row : List Int} (h : rows[i]? = some row) : (dk cs k (T ++ MT rows))[T.length + 2 + i]? = some (.lst (row.map .int)) := by rw [mt_get, h]; rfl
theorem refs_at {t : Nat} {i : Int} (h0 : 0 ≤ i) (h1 : i < n) : atI (refs t n) i = some (.ref (t + 2 + i.toNat)) := by
  refine at_of h0 ?_
  unfold refs
  rw [List.getElem?_map, List.getElem?_range (by omega)]
  rfl
theorem Sq.get (h : Sq n rows) {i : Int} (h0 : 0 ≤ i) (h1 : i < n) : ∃ row, rows[i.toNat]? = some row ∧ row.length = n ∧ ∀ x ∈ row, 0 ≤ x ∧ x ≤ 1000000 := by
  have hl : i.toNat < rows.length := by rw [h.len]; omega
  exact ⟨rows[i.toNat], List.getElem?_eq_getElem hl, h.row _ (List.getElem_mem hl)⟩
theorem Sq.set (h : Sq n rows) {i j : Nat} {v : Int} {row : List Int} (hr : rows[i]? = some row) (h0 : 0 ≤ v) (h1 : v ≤ 1000000) (hd : i ≠ j) : Sq n (rows.set i (row.set j v)) := by
  refine ⟨by rw [List.length_set, h.len], fun r hr' => ?_, fun k r hk => ?_⟩
  case refine_2 =>
    by_cases hki : i = k
    · subst hki
      have hl : i < rows.length := (List.getElem?_eq_some_iff.mp hr).1
      rw [List.getElem?_set_self hl] at hk
      cases hk
      have := h.dg i row hr
      rw [List.getD_eq_getElem?_getD, List.getElem?_set_ne (fun e => hd e.symm), ← List.getD_eq_getElem?_getD]
      exact this
    · rw [List.getElem?_set_ne hki] at hk
      exact h.dg k r hk
  rcases List.mem_or_eq_of_mem_set hr' with q | q
  · exact h.row r q
  · subst q
    obtain ⟨a, b⟩ := h.row row (List.mem_of_getElem? hr)
    refine ⟨by rw [List.length_set, a], fun x hx => ?_⟩
    rcases List.mem_or_eq_of_mem_set hx with q | q
    · exact b x q
    · subst q; exact ⟨h0, h1⟩
/-- rows[i][j] -/
theorem mt_ix {i j : Int} {row : List Int} {x : Int} (h0 : 0 ≤ j) (hr : rows[i.toNat]? = some row) (hx : row[j.toNat]? = some x) : ixD (dk cs k (T ++ MT rows)) (.ref (T.length + 2 + i.toNat)) (.int j) = some (.int x) :=
  q_ixR (mt_at hr) (at_of h0 (by rw [List.getElem?_map, hx]; rfl))
end
theorem dk_push {cs : List Int} {k : Int} {T : Store} {o : Ob} : dk cs k T ++ [o] = dk cs k (T ++ [o]) := rfl
theorem rep_zero {S : Store} {n : Int} (h0 : 0 ≤ n) (h1 : n ≤ 1000) : repD S (.lst [.int 0]) (.int n) = some ((List.replicate n.toNat (0 : Int)).map .int) := by
  show (if -(2 ^ 63) ≤ n ∧ n < 2 ^ 63 ∧ [D.int 0].length * n.toNat ≤ 16777216 then some (List.replicate n.toNat [D.int 0]).flatten else none) = _
  rw [if_pos ⟨by omega, by omega, by simp; omega⟩]
  congr 1
  generalize n.toNat = m
  induction m with
  | zero => rfl
  | succ m ih => rw [List.replicate_succ, List.replicate_succ, List.flatten_cons, List.map_cons, ih]; rfl
theorem zeros_sq (n : Nat) : Sq n (List.replicate n (List.replicate n 0)) := by
  refine ⟨List.length_replicate, fun row h => ?_, fun i row h => ?_⟩
  case refine_2 =>
    have h := List.mem_of_getElem? h
    obtain ⟨_, rfl⟩ := List.mem_replicate.mp h
    rw [List.getD_eq_getElem?_getD, List.getElem?_replicate]
    split <;> rfl
  obtain ⟨_, rfl⟩ := List.mem_replicate.mp h
  refine ⟨List.length_replicate, fun x hx => ?_⟩
  obtain ⟨_, rfl⟩ := List.mem_replicate.mp hx
  omega
theorem even_rows_ok {cs : List Int} {k n : Int} {T : Store} {tied : List D} (h0 : 1 ≤ n) (h1 : n ≤ 1000) (ht : ∀ x ∈ tied, isPair n x) (hl : tied.length ≤ 1000000) (hk0 : 0 ≤ k) (hk : k ≤ 100000000000) :
    ∃ rows cs' k', s_even_rows [.ref 1, .int n, .lst tied] (dk cs k T) = .ok (.lst (refs T.length n.toNat)) (dk cs' k' (T ++ MT rows)) ∧ Sq n.toNat rows ∧ k ≤ k' ∧ k' ≤ k + 1001000 := by
  have hrg : rngD [.int n] = some (rgI 0 n) := q_rg1 (by omega) (by omega)
  have hrl : (rgI 0 n).length = n.toNat := by rw [rgI_len]; omega
  have e9 : List.replicate (9 - 3) (none : Option D) = [none, none, none, none, none, none] := rfl
  unfold s_even_rows
  rw [run_ok rfl]
  simp only [ir_even_rows, b_even_rows, List.map_cons, List.map_nil, e9, List.cons_append, List.nil_append, Nat.reduceSub]
  -- the weights
  obtain ⟨own, S1, ea, hown, hol, c1, rfl⟩ := cmp_all (at_ := fun x r S => asg [s_draw] (Tg.nm 8) x r S) (cd := fun r S => cnd [s_draw] Es.nil r S) (el := fun r S => ev [s_draw] (E.bin Bop.add (E.int (1)) (E.call 0 (Es.cons (E.var 0) (Es.cons (E.int (9)) Es.nil)))) r S) (g := none)
    (r := wipeE [some (.ref 1), some (.int n), some (.lst tied), none, none, none, none, none, none] [((PySem.Str.ofString "_law_place"), 8)]) (xs := rgI 0 n) (S := dk cs k T) (n := 0)
    (I := fun m S => ∃ c, S = dk c (k + m) T) (V := fun _ y => ∃ v : Int, y = .int v ∧ 1 ≤ v ∧ v ≤ 9) ⟨cs, by simp⟩ (fun _ _ _ => trivial) (by
      rintro i x hx _ ⟨c, rfl⟩
      have hi : i < (rgI 0 n).length := (List.getElem?_eq_some_iff.mp hx).1
      obtain ⟨v, c2, e3, v0, v1, _⟩ := draw_ok (cs := c) (k := k + (0 + i : Nat)) (m := 9) (T := T) (by omega) (by omega) (by omega) (by omega)
      refine ⟨[some (.ref 1), some (.int n), some (.lst tied), none, none, none, none, none, some x], dk c (k + (0 + i : Nat)) T, dk c (k + (0 + i : Nat)) T, .int (1 + v), dk c2 (k + (0 + i : Nat) + 1) T, ?_, ?_, ?_, ⟨_, rfl, by omega, by omega⟩, c2, ?_⟩
      · simp only [ev, evs, evl, asg, asgs, itm, cnd, look, opt_some, bnd_ok, nx_ok, fl_ok, Option.map, q_add, q_sub, q_lt, q_le, q_gt, q_ge, q_eqi, q_nei, q_int, q_abs, q_lenL, q_lenT, q_lenS, q_tupT, q_tupL, q_tr, List.set_cons_zero, List.set_cons_succ, Tgs.len, wipeE]
      · simp only [ev, evs, evl, asg, asgs, itm, cnd, look, opt_some, bnd_ok, nx_ok, fl_ok, Option.map, q_add, q_sub, q_lt, q_le, q_gt, q_ge, q_eqi, q_nei, q_int, q_abs, q_lenL, q_lenT, q_lenS, q_tupT, q_tupL, q_tr, List.set_cons_zero, List.set_cons_succ, Tgs.len]
      · simp only [ev, evs, evl, asg, asgs, itm, cnd, look, opt_some, bnd_ok, nx_ok, fl_ok, Option.map, q_add, q_sub, q_lt, q_le, q_gt, q_ge, q_eqi, q_nei, q_int, q_abs, q_lenL, q_lenT, q_lenS, q_tupT, q_tupL, q_tr, List.set_cons_zero, List.set_cons_succ, Tgs.len, List.getElem?_cons_zero, e3]
      · rw [show k + ((0 + i + 1 : Nat) : Int) = k + ((0 + i : Nat) : Int) + 1 by omega])
  rw [Nat.zero_add] at *
  rw [hrl] at hol
  -- the rows of 0
  obtain ⟨rs, S2, eb, hrs, hrsl, rfl⟩ := cmp_all (at_ := fun x r S => asg [s_draw] (Tg.nm 8) x r S) (cd := fun r S => cnd [s_draw] Es.nil r S) (el := fun r S => ev [s_draw] (E.fr true (L.rep (E.fr false (L.dis (Es.cons (E.int (0)) Es.nil))) (E.var 1))) r S) (g := none)
    (r := wipeE [some (.ref 1), some (.int n), some (.lst tied), none, none, none, none, none, none] [((PySem.Str.ofString "_law_place"), 8)]) (xs := rgI 0 n) (S := dk c1 (k + (rgI 0 n).length) T) (n := 0)
    (I := fun m S => S = dk c1 (k + (rgI 0 n).length) (T ++ MT (List.replicate m (List.replicate n.toNat 0)))) (V := fun m y => y = .ref (T.length + 2 + m)) (by simp [MT]) (fun _ _ _ => trivial) (by
      rintro i x hx _ rfl
      refine ⟨[some (.ref 1), some (.int n), some (.lst tied), none, none, none, none, none, some x], dk c1 (k + (rgI 0 n).length) (T ++ MT (List.replicate (0 + i) (List.replicate n.toNat 0))), dk c1 (k + (rgI 0 n).length) (T ++ MT (List.replicate (0 + i) (List.replicate n.toNat 0))), .ref (T.length + 2 + (0 + i)), dk c1 (k + (rgI 0 n).length) (T ++ MT (List.replicate (0 + i + 1) (List.replicate n.toNat 0))), ?_, ?_, ?_, rfl, rfl⟩
      · simp only [ev, evs, evl, asg, asgs, itm, cnd, look, opt_some, bnd_ok, nx_ok, fl_ok, Option.map, q_add, q_sub, q_lt, q_le, q_gt, q_ge, q_eqi, q_nei, q_int, q_abs, q_lenL, q_lenT, q_lenS, q_tupT, q_tupL, q_tr, List.set_cons_zero, List.set_cons_succ, Tgs.len, wipeE]
      · simp only [ev, evs, evl, asg, asgs, itm, cnd, look, opt_some, bnd_ok, nx_ok, fl_ok, Option.map, q_add, q_sub, q_lt, q_le, q_gt, q_ge, q_eqi, q_nei, q_int, q_abs, q_lenL, q_lenT, q_lenS, q_tupT, q_tupL, q_tr, List.set_cons_zero, List.set_cons_succ, Tgs.len]
      · simp only [ev, evs, evl, asg, asgs, itm, cnd, look, opt_some, bnd_ok, nx_ok, fl_ok, Option.map, q_add, q_sub, q_lt, q_le, q_gt, q_ge, q_eqi, q_nei, q_int, q_abs, q_lenL, q_lenT, q_lenS, q_tupT, q_tupL, q_tr, List.set_cons_zero, List.set_cons_succ, Tgs.len, mk_val, rep_zero (show 0 ≤ n by omega) h1, mk_ref]
        rw [dk_push]
        congr 1
        · congr 1
          rw [dk_len]
          simp [MT]
          omega
        · congr 1
          rw [List.append_assoc, List.replicate_succ']
          simp [MT])
  rw [Nat.zero_add] at *
  rw [hrl] at hrsl
  have hrs' : rs = refs T.length n.toNat := by
    refine List.ext_getElem? fun i => ?_
    unfold refs
    rw [List.getElem?_map]
    by_cases hi : i < n.toNat
    · rw [List.getElem?_range hi]
      have hi2 : i < rs.length := by rw [hrsl]; exact hi
      have := hrs i rs[i] (List.getElem?_eq_getElem hi2)
      rw [List.getElem?_eq_getElem hi2, this]
      simp
    · rw [List.getElem?_eq_none (by rw [hrsl]; omega), List.getElem?_eq_none (by simp; omega)]
      rfl
  subst hrs'
  rw [hrl] at *
  rw [exs_next (ex_asg (d := .tup [.lst own, .lst (refs T.length n.toNat)]) (S1 := dk c1 (k + n.toNat) (T ++ MT (List.replicate n.toNat (List.replicate n.toNat 0)))) (r1 := [some (.ref 1), some (.int n), some (.lst tied), some (.lst own), some (.lst (refs T.length n.toNat)), none, none, none, none]) (S2 := dk c1 (k + n.toNat) (T ++ MT (List.replicate n.toNat (List.replicate n.toNat 0)))) ?_ ?_)]
  · refine for_goal (P := fun o => ∃ rows cs' k', exitR true (dk cs k T) o = .ok (.lst (refs T.length n.toNat)) (dk cs' k' (T ++ MT rows)) ∧ Sq n.toNat rows ∧ k ≤ k' ∧ k' ≤ k + 1001000)
      (fun m r S => ∃ a b c rows cs', r = [some (.ref 1), some (.int n), some (.lst tied), some (.lst own), some (.lst (refs T.length n.toNat)), a, b, c, none] ∧ S = dk cs' (k + n.toNat + m) (T ++ MT rows) ∧ Sq n.toNat rows)
      (xs := tied) (g := none) (S1 := dk c1 (k + n.toNat) (T ++ MT (List.replicate n.toNat (List.replicate n.toNat 0)))) ?_ ⟨none, none, none, _, c1, rfl, by simp, zeros_sq _⟩ (fun _ _ _ _ => trivial) ?_ ?_
    · simp only [ev, evs, evl, asg, asgs, itm, cnd, look, opt_some, bnd_ok, nx_ok, fl_ok, Option.map, q_add, q_sub, q_lt, q_le, q_gt, q_ge, q_eqi, q_nei, q_int, q_abs, q_lenL, q_lenT, q_lenS, q_tupT, q_tupL, q_tr, List.set_cons_zero, List.set_cons_succ, Tgs.len]; rfl
    · rintro m x hx _ _ ⟨a, b, c, rows, c2, rfl, rfl, hsq⟩
      have hm : m < tied.length := (List.getElem?_eq_some_iff.mp hx).1
      obtain ⟨i, j, rfl, i0, i1, j0, j1, hij⟩ := ht x (List.mem_of_getElem? hx)
      obtain ⟨v, c3, e3, v0, v1, _⟩ := draw_ok (cs := c2) (k := k + n.toNat + m) (m := 30) (T := T ++ MT rows) (by omega) (by omega) (by omega) (by omega)
      have hin : i < (n.toNat : Nat) := by omega
      have hjn : j < (n.toNat : Nat) := by omega
      obtain ⟨wi, owi, hwi⟩ := mem_at (xs := own) i0 (by omega)
      obtain ⟨wj, owj, hwj⟩ := mem_at (xs := own) j0 (by omega)
      obtain ⟨qi, hqi⟩ := List.mem_iff_getElem?.mp owi
      obtain ⟨qj, hqj⟩ := List.mem_iff_getElem?.mp owj
      obtain ⟨ai, rfl, ai0, ai1⟩ := hown qi wi hqi
      obtain ⟨aj, rfl, aj0, aj1⟩ := hown qj wj hqj
      have bj : 0 ≤ (1 + v) * aj ∧ (1 + v) * aj ≤ 270 := ⟨Int.mul_nonneg (by omega) (by omega), by
        calc (1 + v) * aj ≤ 30 * aj := Int.mul_le_mul_of_nonneg_right (by omega) (by omega)
          _ ≤ 270 := by omega⟩
      have bi : 0 ≤ (1 + v) * ai ∧ (1 + v) * ai ≤ 270 := ⟨Int.mul_nonneg (by omega) (by omega), by
        calc (1 + v) * ai ≤ 30 * ai := Int.mul_le_mul_of_nonneg_right (by omega) (by omega)
          _ ≤ 270 := by omega⟩
      obtain ⟨row, hr, hrl, _⟩ := hsq.get i0 hin
      have hsq1 := hsq.set (j := j.toNat) (v := (1 + v) * aj) hr bj.1 (by omega) (by omega)
      obtain ⟨row2, hr2, hrl2, _⟩ := hsq1.get j0 hjn
      have hsq2 := hsq1.set (j := i.toNat) (v := (1 + v) * ai) hr2 bi.1 (by omega) (by omega)
      have hm1 : ∀ q : Int, mulOk (1 + v) q := fun q => .inl (.inl (by omega))
      refine ⟨[some (.ref 1), some (.int n), some (.lst tied), some (.lst own), some (.lst (refs T.length n.toNat)), some (.int i), some (.int j), c, none], dk c2 (k + n.toNat + m) (T ++ MT rows), [some (.ref 1), some (.int n), some (.lst tied), some (.lst own), some (.lst (refs T.length n.toNat)), none, none, none, none], dk c3 (k + n.toNat + m + 1) (T ++ MT ((rows.set i.toNat (row.set j.toNat ((1 + v) * aj))).set j.toNat (row2.set i.toNat ((1 + v) * ai)))), ?_, .inl ?_, none, none, none, _, c3, rfl, ?_, hsq2⟩
      · simp only [ev, evs, evl, asg, asgs, itm, cnd, look, opt_some, bnd_ok, nx_ok, fl_ok, Option.map, q_add, q_sub, q_lt, q_le, q_gt, q_ge, q_eqi, q_nei, q_int, q_abs, q_lenL, q_lenT, q_lenS, q_tupT, q_tupL, q_tr, List.set_cons_zero, List.set_cons_succ, Tgs.len, List.length_cons, List.length_nil]
        rfl
      · rw [exs_next (ex_asg (d := .int (1 + v)) (S1 := dk c3 (k + n.toNat + m + 1) (T ++ MT rows)) (r1 := [some (.ref 1), some (.int n), some (.lst tied), some (.lst own), some (.lst (refs T.length n.toNat)), some (.int i), some (.int j), some (.int (1 + v)), none]) (S2 := dk c3 (k + n.toNat + m + 1) (T ++ MT rows)) ?_ ?_)]
        · rw [exs_next (ex_asg (d := .tup [.int ((1 + v) * aj), .int ((1 + v) * ai)]) (S1 := dk c3 (k + n.toNat + m + 1) (T ++ MT rows)) (r1 := [some (.ref 1), some (.int n), some (.lst tied), some (.lst own), some (.lst (refs T.length n.toNat)), some (.int i), some (.int j), some (.int (1 + v)), none]) (S2 := dk c3 (k + n.toNat + m + 1) (T ++ MT ((rows.set i.toNat (row.set j.toNat ((1 + v) * aj))).set j.toNat (row2.set i.toNat ((1 + v) * ai))))) ?_ ?_)]
          · rw [exs, ex]
            show exs _ _ _ _ = _
            rw [exs]; rfl
          · simp only [ev, evs, evl, asg, asgs, itm, cnd, look, opt_some, bnd_ok, nx_ok, fl_ok, Option.map, q_add, q_sub, q_lt, q_le, q_gt, q_ge, q_eqi, q_nei, q_int, q_abs, q_lenL, q_lenT, q_lenS, q_tupT, q_tupL, q_tr, List.set_cons_zero, List.set_cons_succ, Tgs.len, q_ixL hwi, q_ixL hwj, q_mul (hm1 ai), q_mul (hm1 aj)]
          · simp only [ev, evs, evl, asg, asgs, itm, cnd, look, opt_some, bnd_ok, nx_ok, fl_ok, Option.map, q_add, q_sub, q_lt, q_le, q_gt, q_ge, q_eqi, q_nei, q_int, q_abs, q_lenL, q_lenT, q_lenS, q_tupT, q_tupL, q_tr, List.set_cons_zero, List.set_cons_succ, Tgs.len, List.length_cons, List.length_nil, if_pos, q_ixL (refs_at i0 hin), q_ixL (refs_at j0 hjn), mt_set hr j0 (show j < (row.length : Nat) by omega), mt_set hr2 i0 (show i < (row2.length : Nat) by omega)]
        · simp only [ev, evs, evl, asg, asgs, itm, cnd, look, opt_some, bnd_ok, nx_ok, fl_ok, Option.map, q_add, q_sub, q_lt, q_le, q_gt, q_ge, q_eqi, q_nei, q_int, q_abs, q_lenL, q_lenT, q_lenS, q_tupT, q_tupL, q_tr, List.set_cons_zero, List.set_cons_succ, Tgs.len, List.getElem?_cons_zero, e3]
        · simp only [ev, evs, evl, asg, asgs, itm, cnd, look, opt_some, bnd_ok, nx_ok, fl_ok, Option.map, q_add, q_sub, q_lt, q_le, q_gt, q_ge, q_eqi, q_nei, q_int, q_abs, q_lenL, q_lenT, q_lenS, q_tupT, q_tupL, q_tr, List.set_cons_zero, List.set_cons_succ, Tgs.len]
      · rw [show k + (n.toNat : Int) + ((m + 1 : Nat) : Int) = k + n.toNat + m + 1 by omega]
    · rintro _ _ ⟨a, b, c, rows, c2, rfl, rfl, hsq⟩
      refine ⟨rows, c2, k + n.toNat + tied.length, ?_, hsq, ?_, ?_⟩
      · rw [exs_ret (ex_ret (d := .lst (refs T.length n.toNat)) (S1 := dk c2 (k + n.toNat + tied.length) (T ++ MT rows)) ?_)]
        · exact fin_keep
        · simp only [ev, evs, evl, asg, asgs, itm, cnd, look, opt_some, bnd_ok, nx_ok, fl_ok, Option.map, q_add, q_sub, q_lt, q_le, q_gt, q_ge, q_eqi, q_nei, q_int, q_abs, q_lenL, q_lenT, q_lenS, q_tupT, q_tupL, q_tr, List.set_cons_zero, List.set_cons_succ, Tgs.len]
      · omega
      · omega
  · refine ev_tup (evs_cons (S1 := dk c1 (k + n.toNat) T) ((ev_cmp (xs := rgI 0 n) (g := none) (S1 := dk cs k T) ?_ (by rw [rgI_len]; omega) ea).trans mk_val) (evs_one ((ev_cmp (xs := rgI 0 n) (g := none) (S1 := dk c1 (k + n.toNat) T) ?_ (by rw [rgI_len]; omega) eb).trans mk_val)))
    · simp only [ev, evs, evl, asg, asgs, itm, cnd, look, opt_some, bnd_ok, nx_ok, fl_ok, Option.map, q_add, q_sub, q_lt, q_le, q_gt, q_ge, q_eqi, q_nei, q_int, q_abs, q_lenL, q_lenT, q_lenS, q_tupT, q_tupL, q_tr, List.set_cons_zero, List.set_cons_succ, Tgs.len, hrg]
    · simp only [ev, evs, evl, asg, asgs, itm, cnd, look, opt_some, bnd_ok, nx_ok, fl_ok, Option.map, q_add, q_sub, q_lt, q_le, q_gt, q_ge, q_eqi, q_nei, q_int, q_abs, q_lenL, q_lenT, q_lenS, q_tupT, q_tupL, q_tr, List.set_cons_zero, List.set_cons_succ, Tgs.len, hrg]
  · simp only [ev, evs, evl, asg, asgs, itm, cnd, look, opt_some, bnd_ok, nx_ok, fl_ok, Option.map, q_add, q_sub, q_lt, q_le, q_gt, q_ge, q_eqi, q_nei, q_int, q_abs, q_lenL, q_lenT, q_lenS, q_tupT, q_tupL, q_tr, List.set_cons_zero, List.set_cons_succ, Tgs.len, List.length_cons, List.length_nil]
    rfl
end RR

set_option Elab.async false
set_option linter.all false
set_option maxRecDepth 100000
set_option maxHeartbeats 1000000
namespace RR
open PySem L2
def Sms.drop : Nat → Sms → Sms
  | 0, s => s
  | _ + 1, .nil => .nil
  | n + 1, .cons _ ss => ss.drop n
/-- a web -/
def WT (rows : List (List Int)) : D := .tup (rows.map fun row => .tup (row.map .int))
theorem noRefs_ints : ∀ ns : List Int, noRefs (ns.map .int) = true
  | [] => rfl
  | _ :: l => noRefs_ints l
theorem WT_noRef (rows : List (List Int)) : noRef (WT rows) = true := by
  refine noRefs_all fun x hx => ?_
  obtain ⟨row, _, rfl⟩ := List.mem_map.mp hx
  exact noRefs_ints row
theorem tuples_ok {cs : List Int} {k : Int} {T : Store} {rows : List (List Int)} {n : Nat} (h : rows.length = n) (hn : n ≤ 1000) :
    s_tuples [.lst (refs T.length n)] (dk cs k (T ++ MT rows)) = .ok (WT rows) (dk cs k (T ++ MT rows)) := by
  have hlen : (refs T.length n).length = n := by unfold refs; simp
  let f : D → D := fun d => match d with
    | .ref a => (match (dk cs k (T ++ MT rows))[a]? with
      | some (.lst xs) => .tup xs
      | none => .non)
    | _ => .non
  have hf : ∀ (i : Nat) (row : List Int), rows[i]? = some row → f (.ref (T.length + 2 + i)) = .tup (row.map .int) := fun i row hr => by
    show (match (dk cs k (T ++ MT rows))[T.length + 2 + i]? with
      | some (.lst xs) => D.tup xs
      | none => .non) = _
    rw [mt_at hr]
  have e : (refs T.length n).map f = rows.map fun row => .tup (row.map .int) := by
    refine List.ext_getElem? fun i => ?_
    unfold refs
    rw [List.getElem?_map, List.getElem?_map, List.getElem?_map]
    by_cases hi : i < n
    · rw [List.getElem?_range hi]
      have hi2 : i < rows.length := by omega
      rw [List.getElem?_eq_getElem hi2]
      show some (f (.ref (T.length + 2 + i))) = _
      rw [hf i _ (List.getElem?_eq_getElem hi2)]
      rfl
    · rw [List.getElem?_eq_none (by simp; omega), List.getElem?_eq_none (by omega)]
      rfl
  unfold s_tuples
  rw [run_ok rfl]
  refine end_dk0 (exs_ret (ex_ret ?_)) (WT_noRef rows)
  refine ev_blt (evs_one ((ev_cmp (xs := refs T.length n) (g := none) (S1 := dk cs k (T ++ MT rows)) ?_ (by omega) (cmp_map (g := none) f trivial fun x hx => ?_)).trans mk_val)) ?_
  · simp only [ir_tuples, List.map_cons, List.map_nil, List.replicate, List.cons_append, List.nil_append, Nat.reduceSub, ev, evs, evl, asg, asgs, itm, cnd, look, opt_some, bnd_ok, nx_ok, fl_ok, Option.map, q_add, q_sub, q_lt, q_le, q_gt, q_ge, q_eqi, q_nei, q_int, q_abs, q_lenL, q_lenT, q_lenS, q_tupT, q_tupL, q_tr, List.set_cons_zero, List.set_cons_succ, Tgs.len]
    rfl
  · unfold refs at hx
    obtain ⟨i, hi, rfl⟩ := List.mem_map.mp hx
    rw [List.mem_range] at hi
    have hi2 : i < rows.length := by omega
    have hr : rows[i]? = some rows[i] := List.getElem?_eq_getElem hi2
    refine ⟨[some (.lst (refs T.length n)), some (.ref (T.length + 2 + i))], ?_, ?_, ?_⟩
    · simp only [ir_tuples, List.map_cons, List.map_nil, List.replicate, List.cons_append, List.nil_append, Nat.reduceSub, ev, evs, evl, asg, asgs, itm, cnd, look, opt_some, bnd_ok, nx_ok, fl_ok, Option.map, q_add, q_sub, q_lt, q_le, q_gt, q_ge, q_eqi, q_nei, q_int, q_abs, q_lenL, q_lenT, q_lenS, q_tupT, q_tupL, q_tr, List.set_cons_zero, List.set_cons_succ, Tgs.len, wipeE]
    · simp only [ev, evs, evl, asg, asgs, itm, cnd, look, opt_some, bnd_ok, nx_ok, fl_ok, Option.map, q_add, q_sub, q_lt, q_le, q_gt, q_ge, q_eqi, q_nei, q_int, q_abs, q_lenL, q_lenT, q_lenS, q_tupT, q_tupL, q_tr, List.set_cons_zero, List.set_cons_succ, Tgs.len]
    · rw [hf i _ hr]
      simp only [ev, evs, evl, asg, asgs, itm, cnd, look, opt_some, bnd_ok, nx_ok, fl_ok, Option.map, q_add, q_sub, q_lt, q_le, q_gt, q_ge, q_eqi, q_nei, q_int, q_abs, q_lenL, q_lenT, q_lenS, q_tupT, q_tupL, q_tr, List.set_cons_zero, List.set_cons_succ, Tgs.len, q_tupR (mt_at hr)]
  · rw [e]; rfl
/-- what a web's maker leaves -/
def WebP (most : Int) (cs : List Int) (k : Int) (T : Store) (o : Fl) : Prop := ∃ rows cs' k', exitR false (dk cs k T) o = .ok (WT rows) (dk cs' k' T) ∧ 1 ≤ rows.length ∧ (rows.length : Int) ≤ most ∧ Sq rows.length rows ∧ k ≤ k' ∧ k' ≤ k + 20000000
theorem web_last {most : Int} {cs c1 : List Int} {k k1 : Int} {T : Store} {rows : List (List Int)} {n : Nat} {xs : List D} {w : Int} {a b c : Option D} (hn : 1 ≤ n) (hn2 : (n : Int) ≤ most) (hm : most ≤ 1000) (hsq : Sq n rows) (h1 : k ≤ k1) (h2 : k1 ≤ k + 20000000) :
    WebP most cs k T (exs [s_draw, s_even_rows, s_some_ties, s_pairs, s_pick, s_rate, s_tuples] (b_web.drop 5) [some (.ref 1), some (.int most), some (.lst (refs T.length n)), some (.lst xs), some (.int n), some (.int w), a, none, b, c] (dk c1 k1 (T ++ MT rows))) := by
  have hl := hsq.len
  refine ⟨rows, c1, k1, end_dk (X := MT rows) (exs_ret (ex_ret ?_)) (WT_noRef rows), by omega, by omega, by rw [hl]; exact hsq, h1, h2⟩
  simp only [ev, evs, evl, asg, asgs, itm, cnd, look, opt_some, bnd_ok, nx_ok, fl_ok, Option.map, q_add, q_sub, q_lt, q_le, q_gt, q_ge, q_eqi, q_nei, q_int, q_abs, q_lenL, q_lenT, q_lenS, q_tupT, q_tupL, q_tr, List.set_cons_zero, List.set_cons_succ, Tgs.len, List.getElem?_cons_succ, List.getElem?_cons_zero, tuples_ok hl (show n ≤ 1000 by omega)]
theorem web_three {most : Int} {cs c1 : List Int} {k k1 : Int} {T : Store} {rows : List (List Int)} {n : Nat} {xs : List D} {w : Int} {a b c : Option D} (hn : 1 ≤ n) (hn2 : (n : Int) ≤ most) (hm : most ≤ 1000) (hsq : Sq n rows) (hk : 0 ≤ k) (hk2 : k ≤ 10000000000) (h1 : k ≤ k1) (h2 : k1 ≤ k + 10000000) (hx : ∀ x ∈ xs, isPair n x) (hxl : xs.length ≤ 1000000) :
    WebP most cs k T (exs [s_draw, s_even_rows, s_some_ties, s_pairs, s_pick, s_rate, s_tuples] (b_web.drop 4) [some (.ref 1), some (.int most), some (.lst (refs T.length n)), some (.lst xs), some (.int n), some (.int w), a, none, b, c] (dk c1 k1 (T ++ MT rows))) := by
  refine if_no (P := WebP most cs k T) (v := w == 3) (S1 := dk c1 k1 (T ++ MT rows)) ?_ (fun _ => ?_) fun _ => web_last hn hn2 hm hsq h1 (by omega)
  · simp only [ev, evs, evl, asg, asgs, itm, cnd, look, opt_some, bnd_ok, nx_ok, fl_ok, Option.map, q_add, q_sub, q_lt, q_le, q_gt, q_ge, q_eqi, q_nei, q_int, q_abs, q_lenL, q_lenT, q_lenS, q_tupT, q_tupL, q_tr, List.set_cons_zero, List.set_cons_succ, Tgs.len]
  refine for_goal (P := fun o => WebP most cs k T (match o with
      | .next r1 S1 => exs [s_draw, s_even_rows, s_some_ties, s_pairs, s_pick, s_rate, s_tuples] (b_web.drop 5) r1 S1
      | o => o)) (fun m r S => ∃ b c rows c1, r = [some (.ref 1), some (.int most), some (.lst (refs T.length n)), some (.lst xs), some (.int n), some (.int w), a, none, b, c] ∧ S = dk c1 (k1 + 6 * m) (T ++ MT rows) ∧ Sq n rows)
    (xs := xs) (g := none) (S1 := dk c1 k1 (T ++ MT rows)) ?_ ⟨b, c, rows, c1, rfl, by simp, hsq⟩ (fun _ _ _ _ => trivial) ?_ ?_
  · simp only [ev, evs, evl, asg, asgs, itm, cnd, look, opt_some, bnd_ok, nx_ok, fl_ok, Option.map, q_add, q_sub, q_lt, q_le, q_gt, q_ge, q_eqi, q_nei, q_int, q_abs, q_lenL, q_lenT, q_lenS, q_tupT, q_tupL, q_tr, List.set_cons_zero, List.set_cons_succ, Tgs.len]; rfl
  · rintro m x hxm _ _ ⟨b, c, rows, c1, rfl, rfl, hsq⟩
    have hml : m < xs.length := (List.getElem?_eq_some_iff.mp hxm).1
    obtain ⟨i, j, rfl, i0, i1, j0, j1, hij⟩ := hx x (List.mem_of_getElem? hxm)
    obtain ⟨u, c2, e2, u0, u1⟩ := rate_ok (cs := c1) (k := k1 + 6 * m) (T := T ++ MT rows) (by omega) (by omega)
    obtain ⟨v, c3, e3, v0, v1⟩ := rate_ok (cs := c2) (k := k1 + 6 * m + 3) (T := T ++ MT rows) (by omega) (by omega)
    obtain ⟨row, hr, hrl, _⟩ := hsq.get i0 i1
    have hsq1 := hsq.set (j := j.toNat) (v := u) hr (by omega) u1 (by omega)
    obtain ⟨row2, hr2, hrl2, _⟩ := hsq1.get j0 j1
    have hsq2 := hsq1.set (j := i.toNat) (v := v) hr2 (by omega) v1 (by omega)
    refine ⟨[some (.ref 1), some (.int most), some (.lst (refs T.length n)), some (.lst xs), some (.int n), some (.int w), a, none, some (.int i), some (.int j)], dk c1 (k1 + 6 * m) (T ++ MT rows), [some (.ref 1), some (.int most), some (.lst (refs T.length n)), some (.lst xs), some (.int n), some (.int w), a, none, some (.int i), some (.int j)], dk c3 (k1 + 6 * m + 3 + 3) (T ++ MT ((rows.set i.toNat (row.set j.toNat u)).set j.toNat (row2.set i.toNat v))), ?_, .inl ?_, some (.int i), some (.int j), _, c3, rfl, ?_, hsq2⟩
    · simp only [ev, evs, evl, asg, asgs, itm, cnd, look, opt_some, bnd_ok, nx_ok, fl_ok, Option.map, q_add, q_sub, q_lt, q_le, q_gt, q_ge, q_eqi, q_nei, q_int, q_abs, q_lenL, q_lenT, q_lenS, q_tupT, q_tupL, q_tr, List.set_cons_zero, List.set_cons_succ, Tgs.len, List.length_cons, List.length_nil]
      rfl
    · rw [exs_next (ex_asg (d := .tup [.int u, .int v]) (S1 := dk c3 (k1 + 6 * m + 3 + 3) (T ++ MT rows)) (r1 := [some (.ref 1), some (.int most), some (.lst (refs T.length n)), some (.lst xs), some (.int n), some (.int w), a, none, some (.int i), some (.int j)]) (S2 := dk c3 (k1 + 6 * m + 3 + 3) (T ++ MT ((rows.set i.toNat (row.set j.toNat u)).set j.toNat (row2.set i.toNat v)))) ?_ ?_)]
      · rw [exs]
      · simp only [ev, evs, evl, asg, asgs, itm, cnd, look, opt_some, bnd_ok, nx_ok, fl_ok, Option.map, q_add, q_sub, q_lt, q_le, q_gt, q_ge, q_eqi, q_nei, q_int, q_abs, q_lenL, q_lenT, q_lenS, q_tupT, q_tupL, q_tr, List.set_cons_zero, List.set_cons_succ, Tgs.len, List.getElem?_cons_succ, List.getElem?_cons_zero, e2, e3]
      · simp only [ev, evs, evl, asg, asgs, itm, cnd, look, opt_some, bnd_ok, nx_ok, fl_ok, Option.map, q_add, q_sub, q_lt, q_le, q_gt, q_ge, q_eqi, q_nei, q_int, q_abs, q_lenL, q_lenT, q_lenS, q_tupT, q_tupL, q_tr, List.set_cons_zero, List.set_cons_succ, Tgs.len, List.length_cons, List.length_nil, if_pos, q_ixL (refs_at i0 i1), q_ixL (refs_at j0 j1), mt_set hr j0 (show j < (row.length : Nat) by omega), mt_set hr2 i0 (show i < (row2.length : Nat) by omega)]
    · rw [show k1 + 6 * ((m + 1 : Nat) : Int) = k1 + 6 * m + 3 + 3 by omega]
  · rintro _ _ ⟨b, c, rows, c1, rfl, rfl, hsq⟩
    rw [exs]
    exact web_last hn hn2 hm hsq (by omega) (by omega)
end RR

set_option Elab.async false
set_option linter.all false
set_option maxRecDepth 100000
set_option maxHeartbeats 1000000
namespace RR
open PySem L2
theorem ev_ite_t {G : List Fn} {c a b : E} {r : Env} {S S1 S2 : Store} {d : D} (h : ev G c r S = .ok (.bl true) S1) (h2 : ev G a r S1 = .ok d S2) : ev G (.ite c a b) r S = .ok d S2 := by
  rw [ev, h]; exact h2
theorem ev_ite_f {G : List Fn} {c a b : E} {r : Env} {S S1 S2 : Store} {d : D} (h : ev G c r S = .ok (.bl false) S1) (h2 : ev G b r S1 = .ok d S2) : ev G (.ite c a b) r S = .ok d S2 := by
  rw [ev, h]; exact h2
theorem q_mn {S : Store} {i j : Int} : bltD S .mn [.int i, .int j] = some (.int (if j < i then j else i)) := rfl
theorem web_two {most : Int} {cs c1 : List Int} {k k1 : Int} {T : Store} {rows : List (List Int)} {n : Nat} {xs : List D} {w : Int} {a b c : Option D} (hn : 1 ≤ n) (hn2 : (n : Int) ≤ most) (hm : most ≤ 1000) (hsq : Sq n rows) (hk : 0 ≤ k) (hk2 : k ≤ 10000000000) (h1 : k ≤ k1) (h2 : k1 ≤ k + 5000000) (hx : ∀ x ∈ xs, isPair n x) (hxl : xs.length ≤ 1000000) :
    WebP most cs k T (exs [s_draw, s_even_rows, s_some_ties, s_pairs, s_pick, s_rate, s_tuples] (b_web.drop 3) [some (.ref 1), some (.int most), some (.lst (refs T.length n)), some (.lst xs), some (.int n), some (.int w), a, none, b, c] (dk c1 k1 (T ++ MT rows))) := by
  refine if_no (P := WebP most cs k T) (v := decide (1 < w) && !xs.isEmpty) (S1 := dk c1 k1 (T ++ MT rows)) ?_ (fun hv => ?_) fun _ => web_three hn hn2 hm hsq hk hk2 h1 (by omega) hx hxl
  · simp only [ev, evs, evl, asg, asgs, itm, cnd, look, opt_some, bnd_ok, nx_ok, fl_ok, Option.map, q_add, q_sub, q_lt, q_le, q_gt, q_ge, q_eqi, q_nei, q_int, q_abs, q_lenL, q_lenT, q_lenS, q_tupT, q_tupL, q_tr, List.set_cons_zero, List.set_cons_succ, Tgs.len, mkL, if_neg Bool.false_ne_true, ne_pairs hx]
    cases decide (1 < w) <;> rfl
  have hne : xs ≠ [] := fun e => by rw [e] at hv; simp at hv
  obtain ⟨q, c2, e2, q0, q1, _⟩ := draw_ok (cs := c1) (k := k1) (m := 2) (T := T ++ MT rows) (by omega) (by omega) (by omega) (by omega)
  refine for_goal (P := fun o => WebP most cs k T (match o with
      | .next r1 S1 => exs [s_draw, s_even_rows, s_some_ties, s_pairs, s_pick, s_rate, s_tuples] (b_web.drop 4) r1 S1
      | o => o)) (fun m r S => ∃ a b c rows c1 k2, r = [some (.ref 1), some (.int most), some (.lst (refs T.length n)), some (.lst xs), some (.int n), some (.int w), a, none, b, c] ∧ S = dk c1 k2 (T ++ MT rows) ∧ Sq n rows ∧ k1 ≤ k2 ∧ k2 ≤ k1 + 1 + 5 * m)
    (xs := rgI 0 (1 + q)) (g := none) (S1 := dk c2 (k1 + 1) (T ++ MT rows)) ?_ ⟨a, b, c, rows, c2, k1 + 1, rfl, rfl, hsq, by omega, by omega⟩ (fun _ _ _ _ => trivial) ?_ ?_
  · simp only [ev, evs, evl, asg, asgs, itm, cnd, look, opt_some, bnd_ok, nx_ok, fl_ok, Option.map, q_add, q_sub, q_lt, q_le, q_gt, q_ge, q_eqi, q_nei, q_int, q_abs, q_lenL, q_lenT, q_lenS, q_tupT, q_tupL, q_tr, List.set_cons_zero, List.set_cons_succ, Tgs.len, List.getElem?_cons_succ, List.getElem?_cons_zero, e2, q_rg1 (show 0 ≤ 1 + q by omega) (show 1 + q ≤ 16777216 by omega)]
  · rintro m x hxm _ _ ⟨a, b, c, rows, c1, k2, rfl, rfl, hsq, g1, g2⟩
    have hml : m < (rgI 0 (1 + q)).length := (List.getElem?_eq_some_iff.mp hxm).1
    rw [rgI_len] at hml
    obtain ⟨y, c3, hy, e3⟩ := pick_ok (cs := c1) (k := k2) (T := T ++ MT rows) hne (by omega) (fun x hx' => isPair_noRef (hx x hx')) (by omega) (by omega)
    obtain ⟨i, j, rfl, i0, i1, j0, j1, hij⟩ := hx y hy
    obtain ⟨row, hr, hrl, hrv⟩ := hsq.get j0 j1
    obtain ⟨old, hold⟩ : ∃ old, row[i.toNat]? = some old := ⟨_, List.getElem?_eq_getElem (by omega)⟩
    have hov := hrv old (List.mem_of_getElem? hold)
    have key : ∃ v c4 k3, 0 ≤ v ∧ v ≤ 1000000 ∧ k2 ≤ k3 ∧ k3 ≤ k2 + 5 ∧ ev [s_draw, s_even_rows, s_some_ties, s_pairs, s_pick, s_rate, s_tuples] (E.ite (E.cmp Cop.lt (E.var 5) (E.int (4))) (E.blt Bl.mn (Es.cons (E.bin Bop.pow (E.int (10)) (E.int (6))) (Es.cons (E.bin Bop.add (E.ix (E.ix (E.var 2) (E.var 9)) (E.var 8)) (E.call 4 (Es.cons (E.var 0) (Es.cons (E.fr false (L.dis (Es.cons (E.int (1)) (Es.cons (E.call 5 (Es.cons (E.var 0) Es.nil)) Es.nil)))) Es.nil)))) Es.nil))) (E.int (0)))
        [some (.ref 1), some (.int most), some (.lst (refs T.length n)), some (.lst xs), some (.int n), some (.int w), some x, none, some (.int i), some (.int j)] (dk c3 (k2 + 1) (T ++ MT rows)) = .ok (.int v) (dk c4 k3 (T ++ MT rows)) := by
      by_cases hw : w < 4
      · obtain ⟨r1, c4, e4, r10, r11⟩ := rate_ok (cs := c3) (k := k2 + 1) (T := T ++ MT rows) (by omega) (by omega)
        obtain ⟨z, c5, hz, e5⟩ := pick_ok (cs := c4) (k := k2 + 1 + 3) (T := T ++ MT rows) (xs := [.int 1, .int r1]) (by simp) (by simp) (by simp [noRef]) (by omega) (by omega)
        obtain ⟨z, rfl, z0, z1⟩ : ∃ v : Int, z = .int v ∧ 1 ≤ v ∧ v ≤ 1000000 := by
          simp only [List.mem_cons, List.not_mem_nil, or_false] at hz
          rcases hz with rfl | rfl <;> exact ⟨_, rfl, by omega, by omega⟩
        refine ⟨if old + z < 1000000 then old + z else 1000000, c5, k2 + 1 + 3 + 1, by split <;> omega, by split <;> omega, by omega, by omega, ev_ite_t (S1 := dk c3 (k2 + 1) (T ++ MT rows)) ?_ ?_⟩
        · simp only [ev, evs, evl, asg, asgs, itm, cnd, look, opt_some, bnd_ok, nx_ok, fl_ok, Option.map, q_add, q_sub, q_lt, q_le, q_gt, q_ge, q_eqi, q_nei, q_int, q_abs, q_lenL, q_lenT, q_lenS, q_tupT, q_tupL, q_tr, List.set_cons_zero, List.set_cons_succ, Tgs.len, decide_eq_true hw]
        · have p6 : (10 : Int) ^ (6 : Int).toNat = 1000000 := rfl
          simp only [ev, evs, evl, asg, asgs, itm, cnd, look, opt_some, bnd_ok, nx_ok, fl_ok, Option.map, q_add, q_sub, q_lt, q_le, q_gt, q_ge, q_eqi, q_nei, q_int, q_abs, q_lenL, q_lenT, q_lenS, q_tupT, q_tupL, q_tr, List.set_cons_zero, List.set_cons_succ, Tgs.len, List.getElem?_cons_succ, List.getElem?_cons_zero, mkL, if_neg Bool.false_ne_true, q_pow (show (0 : Int) ≤ 6 ∧ (6 : Int) ≤ 1000000 ∧ (10 : Int).natAbs < 2 ^ 64 by decide), p6, q_ixL (refs_at j0 j1), mt_ix i0 hr hold, e4, e5, q_mn]
      · refine ⟨0, c3, k2 + 1, by omega, by omega, by omega, by omega, ev_ite_f (S1 := dk c3 (k2 + 1) (T ++ MT rows)) ?_ ?_⟩
        · simp only [ev, evs, evl, asg, asgs, itm, cnd, look, opt_some, bnd_ok, nx_ok, fl_ok, Option.map, q_add, q_sub, q_lt, q_le, q_gt, q_ge, q_eqi, q_nei, q_int, q_abs, q_lenL, q_lenT, q_lenS, q_tupT, q_tupL, q_tr, List.set_cons_zero, List.set_cons_succ, Tgs.len, decide_eq_false hw]
        · simp only [ev, evs, evl, asg, asgs, itm, cnd, look, opt_some, bnd_ok, nx_ok, fl_ok, Option.map, q_add, q_sub, q_lt, q_le, q_gt, q_ge, q_eqi, q_nei, q_int, q_abs, q_lenL, q_lenT, q_lenS, q_tupT, q_tupL, q_tr, List.set_cons_zero, List.set_cons_succ, Tgs.len]
    obtain ⟨v, c4, k3, v0, v1, g3, g4, e4⟩ := key
    have hsq1 := hsq.set (j := i.toNat) (v := v) hr v0 v1 (by omega)
    refine ⟨[some (.ref 1), some (.int most), some (.lst (refs T.length n)), some (.lst xs), some (.int n), some (.int w), some x, none, b, c], dk c1 k2 (T ++ MT rows), [some (.ref 1), some (.int most), some (.lst (refs T.length n)), some (.lst xs), some (.int n), some (.int w), none, none, some (.int i), some (.int j)], dk c4 k3 (T ++ MT (rows.set j.toNat (row.set i.toNat v))), ?_, .inl ?_, none, some (.int i), some (.int j), _, c4, k3, rfl, rfl, hsq1, by omega, by omega⟩
    · simp only [ev, evs, evl, asg, asgs, itm, cnd, look, opt_some, bnd_ok, nx_ok, fl_ok, Option.map, q_add, q_sub, q_lt, q_le, q_gt, q_ge, q_eqi, q_nei, q_int, q_abs, q_lenL, q_lenT, q_lenS, q_tupT, q_tupL, q_tr, List.set_cons_zero, List.set_cons_succ, Tgs.len]
    · rw [exs_next (ex_asg (d := .tup [.int i, .int j]) (S1 := dk c3 (k2 + 1) (T ++ MT rows)) (r1 := [some (.ref 1), some (.int most), some (.lst (refs T.length n)), some (.lst xs), some (.int n), some (.int w), some x, none, some (.int i), some (.int j)]) (S2 := dk c3 (k2 + 1) (T ++ MT rows)) ?_ ?_)]
      · rw [exs_next (ex_asg e4 (r1 := [some (.ref 1), some (.int most), some (.lst (refs T.length n)), some (.lst xs), some (.int n), some (.int w), some x, none, some (.int i), some (.int j)]) (S2 := dk c4 k3 (T ++ MT (rows.set j.toNat (row.set i.toNat v)))) ?_)]
        · rw [exs, ex]
          show exs _ _ _ _ = _
          rw [exs]; rfl
        · simp only [ev, evs, evl, asg, asgs, itm, cnd, look, opt_some, bnd_ok, nx_ok, fl_ok, Option.map, q_add, q_sub, q_lt, q_le, q_gt, q_ge, q_eqi, q_nei, q_int, q_abs, q_lenL, q_lenT, q_lenS, q_tupT, q_tupL, q_tr, List.set_cons_zero, List.set_cons_succ, Tgs.len, q_ixL (refs_at j0 j1), mt_set hr i0 (show i < (row.length : Nat) by omega)]
      · simp only [ev, evs, evl, asg, asgs, itm, cnd, look, opt_some, bnd_ok, nx_ok, fl_ok, Option.map, q_add, q_sub, q_lt, q_le, q_gt, q_ge, q_eqi, q_nei, q_int, q_abs, q_lenL, q_lenT, q_lenS, q_tupT, q_tupL, q_tr, List.set_cons_zero, List.set_cons_succ, Tgs.len, List.getElem?_cons_succ, List.getElem?_cons_zero, e3]
      · simp only [ev, evs, evl, asg, asgs, itm, cnd, look, opt_some, bnd_ok, nx_ok, fl_ok, Option.map, q_add, q_sub, q_lt, q_le, q_gt, q_ge, q_eqi, q_nei, q_int, q_abs, q_lenL, q_lenT, q_lenS, q_tupT, q_tupL, q_tr, List.set_cons_zero, List.set_cons_succ, Tgs.len, List.length_cons, List.length_nil]
        rfl
  · rintro _ _ ⟨a, b, c, rows, c1, k2, rfl, rfl, hsq, g1, g2⟩
    rw [rgI_len] at g2
    rw [exs]
    exact web_three hn hn2 hm hsq hk hk2 (by omega) (by omega) hx hxl
theorem itm_seq {G : List Fn} {e : E} {r : Env} {S S1 : Store} {x : D} {p : List D × Gd} (h : ev G e r S = .ok x S1) (h2 : seqI S1 x = some p) : itm G (.seq e) r S = .ok p S1 := by
  rw [itm, h, bnd_ok, h2]; rfl
theorem ev_var {G : List Fn} {i : Nat} {r : Env} {S : Store} {x : D} (h : look r i = some x) : ev G (.var i) r S = .ok x S := by
  rw [ev, h]; rfl
theorem web_tied {G : List Fn} {most w : Int} {c4 : List Int} {k4 : Int} {T : Store} {rows : List (List Int)} {n : Nat} {ps : List D} (hG : G[3]? = some s_pairs) (e5 : s_pairs [.int n] (dk c4 k4 (T ++ MT rows)) = .ok (.lst ps) (dk c4 k4 (T ++ MT rows))) (hsq : Sq n rows) (hps : ∀ x ∈ ps, isPair n x) (hpl : ps.length ≤ 1000000) :
    ∃ xs, ev G (E.fr false (L.cmp (E.var 7) (Tg.nm 7) (It.seq (E.call 3 (Es.cons (E.var 4) Es.nil))) (Es.cons (E.cmp Cop.gt (E.ix (E.ix (E.var 2) (E.ix (E.var 7) (E.int (0)))) (E.ix (E.var 7) (E.int (1)))) (E.int (0))) Es.nil) [((PySem.Str.ofString "_law_pair"), 7)]))
      [some (.ref 1), some (.int most), some (.lst (refs T.length n)), none, some (.int n), some (.int w), none, none, none, none] (dk c4 k4 (T ++ MT rows)) = .ok (.lst xs) (dk c4 k4 (T ++ MT rows)) ∧ (∀ x ∈ xs, isPair n x) ∧ xs.length ≤ 1000000 := by
  let p : D → Bool := fun d => match d with
    | .tup [.int i, .int j] => (match rows[i.toNat]? with
      | some row => (match row[j.toNat]? with
        | some x => decide (0 < x)
        | none => false)
      | none => false)
    | _ => false
  have hp : ∀ (i j : Int) (row : List Int) (y : Int), rows[i.toNat]? = some row → row[j.toNat]? = some y → p (.tup [.int i, .int j]) = decide (0 < y) := by
    intro i j row y hr hy
    show (match rows[i.toNat]? with
      | some row => (match row[j.toNat]? with
        | some x => decide (0 < x)
        | none => false)
      | none => false) = _
    rw [hr]
    show (match row[j.toNat]? with
      | some x => decide (0 < x)
      | none => false) = _
    rw [hy]
  clear_value p
  refine ⟨(ps.filter p).map id, (ev_cmp (xs := ps) (g := none) (S1 := dk c4 k4 (T ++ MT rows)) ?_ (by omega) (cmp_filter (g := none) p id trivial fun x hm => ⟨[some (.ref 1), some (.int most), some (.lst (refs T.length n)), none, some (.int n), some (.int w), none, some x, none, none], ?_, ?_, fun _ => ?_⟩)).trans mk_val, fun x hx => ?_, ?_⟩
  · exact itm_seq (ev_call hG (evs_one (ev_var rfl)) e5) rfl
  · simp only [ev, evs, evl, asg, asgs, itm, cnd, look, opt_some, bnd_ok, nx_ok, fl_ok, Option.map, q_add, q_sub, q_lt, q_le, q_gt, q_ge, q_eqi, q_nei, q_int, q_abs, q_lenL, q_lenT, q_lenS, q_tupT, q_tupL, q_tr, List.set_cons_zero, List.set_cons_succ, Tgs.len, wipeE]
  · obtain ⟨i, j, rfl, i0, i1, j0, j1, _⟩ := hps x hm
    obtain ⟨row, hr, hrl, _⟩ := hsq.get i0 i1
    obtain ⟨y, hy⟩ : ∃ y, row[j.toNat]? = some y := ⟨_, List.getElem?_eq_getElem (by omega)⟩
    simp only [ev, evs, evl, asg, asgs, itm, cnd, look, opt_some, bnd_ok, nx_ok, fl_ok, Option.map, q_add, q_sub, q_lt, q_le, q_gt, q_ge, q_eqi, q_nei, q_int, q_abs, q_lenL, q_lenT, q_lenS, q_tupT, q_tupL, q_tr, List.set_cons_zero, List.set_cons_succ, Tgs.len, q_ixT at0, q_ixT at1, q_ixL (refs_at i0 i1), mt_ix j0 hr hy, hp i j row y hr hy]
  · simp only [ev, evs, evl, asg, asgs, itm, cnd, look, opt_some, bnd_ok, nx_ok, fl_ok, Option.map, q_add, q_sub, q_lt, q_le, q_gt, q_ge, q_eqi, q_nei, q_int, q_abs, q_lenL, q_lenT, q_lenS, q_tupT, q_tupL, q_tr, List.set_cons_zero, List.set_cons_succ, Tgs.len]; rfl
  · rw [List.map_id] at hx
    exact hps x (List.mem_filter.mp hx).1
  · rw [List.map_id]
    exact Nat.le_trans (List.length_filter_le _ _) hpl
theorem web_end {most : Int} {cs : List Int} {k : Int} {T : Store} (goal : WebP most cs k T (exs [s_draw, s_even_rows, s_some_ties, s_pairs, s_pick, s_rate, s_tuples] b_web [some (.ref 1), some (.int most), none, none, none, none, none, none, none, none] (dk cs k T))) :
    ∃ rows cs' k', s_web [.ref 1, .int most] (dk cs k T) = .ok (WT rows) (dk cs' k' T) ∧ 1 ≤ rows.length ∧ (rows.length : Int) ≤ most ∧ Sq rows.length rows ∧ k ≤ k' ∧ k' ≤ k + 20000000 := by
  have e : s_web [.ref 1, .int most] (dk cs k T) = exitR false (dk cs k T) (exs [s_draw, s_even_rows, s_some_ties, s_pairs, s_pick, s_rate, s_tuples] b_web [some (.ref 1), some (.int most), none, none, none, none, none, none, none, none] (dk cs k T)) := by
    unfold s_web
    rw [run_ok rfl]
    rfl
  rw [e]
  exact goal
theorem web_ok {most : Int} {cs : List Int} {k : Int} {T : Store} (h1 : 1 ≤ most) (hm : most ≤ 1000) (hk : 0 ≤ k) (hk2 : k ≤ 10000000000) :
    ∃ rows cs' k', s_web [.ref 1, .int most] (dk cs k T) = .ok (WT rows) (dk cs' k' T) ∧ 1 ≤ rows.length ∧ (rows.length : Int) ≤ most ∧ Sq rows.length rows ∧ k ≤ k' ∧ k' ≤ k + 20000000 := by
  obtain ⟨v, c1, e1, v0, v1, _⟩ := draw_ok (cs := cs) (k := k) (m := most) (T := T) h1 (by omega) hk (by omega)
  obtain ⟨w, c2, e2, w0, w1, _⟩ := draw_ok (cs := c1) (k := k + 1) (m := 5) (T := T) (by omega) (by omega) (by omega) (by omega)
  obtain ⟨ts, c3, k3, e3, hts, htl, g1, g2⟩ := some_ties_ok (cs := c2) (k := k + 1 + 1) (n := 1 + v) (T := T) (by omega) (by omega) (by omega) (by omega)
  obtain ⟨rows, c4, k4, e4, hsq, g3, g4⟩ := even_rows_ok (cs := c3) (k := k3) (n := 1 + v) (T := T) (tied := ts) (by omega) (by omega) hts htl (by omega) (by omega)
  obtain ⟨ps, e5, hps, hpl⟩ := pairs_ok (n := 1 + v) (S := dk c4 k4 (T ++ MT rows)) (by omega) (by omega)
  obtain ⟨n, hn⟩ : ∃ n : Nat, (n : Int) = 1 + v := ⟨(1 + v).toNat, by omega⟩
  have hnn : (1 + v).toNat = n := by omega
  rw [hnn] at e4 hsq
  rw [← hn] at e3 e4 e5 hps
  have hv : v = (n : Int) - 1 := by omega
  obtain ⟨xs, e6, hxs, hxl⟩ := web_tied (G := [s_draw, s_even_rows, s_some_ties, s_pairs, s_pick, s_rate, s_tuples]) (most := most) (w := w) rfl e5 hsq hps hpl
  have goal : WebP most cs k T (exs [s_draw, s_even_rows, s_some_ties, s_pairs, s_pick, s_rate, s_tuples] b_web [some (.ref 1), some (.int most), none, none, none, none, none, none, none, none] (dk cs k T)) := by
    unfold b_web
    rw [exs_next (ex_asg (d := .tup [.int (1 + v), .int w]) (S1 := dk c2 (k + 1 + 1) T) (r1 := [some (.ref 1), some (.int most), none, none, some (.int (1 + v)), some (.int w), none, none, none, none]) (S2 := dk c2 (k + 1 + 1) T) ?_ ?_)]
    · rw [← hn]
      rw [exs_next (ex_asg (d := .lst (refs T.length n)) (S1 := dk c4 k4 (T ++ MT rows)) (r1 := [some (.ref 1), some (.int most), some (.lst (refs T.length n)), none, some (.int n), some (.int w), none, none, none, none]) (S2 := dk c4 k4 (T ++ MT rows)) ?_ ?_)]
      · rw [exs_next (ex_asg e6 (r1 := [some (.ref 1), some (.int most), some (.lst (refs T.length n)), some (.lst xs), some (.int n), some (.int w), none, none, none, none]) (S2 := dk c4 k4 (T ++ MT rows)) ?_)]
        · exact web_two (n := n) (by omega) (by omega) hm hsq hk hk2 (by omega) (by omega) hxs hxl
        · simp only [ev, evs, evl, asg, asgs, itm, cnd, look, opt_some, bnd_ok, nx_ok, fl_ok, Option.map, q_add, q_sub, q_lt, q_le, q_gt, q_ge, q_eqi, q_nei, q_int, q_abs, q_lenL, q_lenT, q_lenS, q_tupT, q_tupL, q_tr, List.set_cons_zero, List.set_cons_succ, Tgs.len]
      · exact ev_call (f := s_even_rows) rfl (evs_cons (ev_var rfl) (evs_cons (ev_var rfl) (evs_one (ev_call (f := s_some_ties) rfl (evs_cons (ev_var rfl) (evs_one (ev_var rfl))) e3)))) e4
      · simp only [ev, evs, evl, asg, asgs, itm, cnd, look, opt_some, bnd_ok, nx_ok, fl_ok, Option.map, q_add, q_sub, q_lt, q_le, q_gt, q_ge, q_eqi, q_nei, q_int, q_abs, q_lenL, q_lenT, q_lenS, q_tupT, q_tupL, q_tr, List.set_cons_zero, List.set_cons_succ, Tgs.len]
    · simp only [ev, evs, evl, asg, asgs, itm, cnd, look, opt_some, bnd_ok, nx_ok, fl_ok, Option.map, q_add, q_sub, q_lt, q_le, q_gt, q_ge, q_eqi, q_nei, q_int, q_abs, q_lenL, q_lenT, q_lenS, q_tupT, q_tupL, q_tr, List.set_cons_zero, List.set_cons_succ, Tgs.len, List.getElem?_cons_succ, List.getElem?_cons_zero, e1, e2]
    · simp only [ev, evs, evl, asg, asgs, itm, cnd, look, opt_some, bnd_ok, nx_ok, fl_ok, Option.map, q_add, q_sub, q_lt, q_le, q_gt, q_ge, q_eqi, q_nei, q_int, q_abs, q_lenL, q_lenT, q_lenS, q_tupT, q_tupL, q_tr, List.set_cons_zero, List.set_cons_succ, Tgs.len, List.length_cons, List.length_nil]
      rfl
  exact web_end goal
end RR

set_option Elab.async false
set_option linter.all false
set_option maxRecDepth 100000
set_option maxHeartbeats 1000000
namespace RR.N
open PySem L2
set_option hygiene false in
local macro_rules
  | `(tactic| sizeOf_list_dec) => `(tactic| first | with_reducible assumption | omega | (exact sm_of (by omega) (by omega)) | (simp only [List.length_map, List.length_append, List.length_cons, List.length_nil, rg_len]; omega))
set_option hygiene false in
local macro_rules
  | `(tactic| array_get_dec) => `(tactic| first
    | with_reducible first
      | exact q_add | exact q_sub | exact q_lt | exact q_le | exact q_gt | exact q_ge | exact q_eqi | exact q_nei | exact q_trb
      | exact q_eqp | exact q_ixp0 | exact q_ixp1
      | exact q_lenM | exact q_lenLM | exact q_lenT | exact q_lenL | exact q_tupT | exact q_tupL | exact q_sum | exact q_all | exact q_any | exact q_int | exact q_intb | exact q_mn2 | exact q_mx2 | exact q_abs
      | exact q_zipT | exact q_zipL | exact q_enmL | exact q_enmT | exact q_seqT | exact q_seqL
    | ((with_reducible apply q_mulA) <;> omega)
    | ((with_reducible apply q_mulB) <;> omega)
    | ((with_reducible apply q_pow) <;> decide)
    | ((with_reducible apply q_rg1) <;> sizeOf_list_dec) | ((with_reducible apply q_rg2) <;> sizeOf_list_dec)
    | ((with_reducible apply q_ixT) <;> sizeOf_list_dec) | ((with_reducible apply q_ixL) <;> sizeOf_list_dec))
set_option hygiene false in
local macro_rules
  | `(tactic| array_mem_dec) => `(tactic| first
    | with_reducible first
      | exact ev_int | exact ev_bl | exact ev_non | exact ev_str | exact ev_con | exact evs_nil
      | exact g0 | exact g1 | exact g2 | exact g3 | exact g4 | exact g5 | exact g6 | exact g7 | exact g8 | exact g9
    | ((with_reducible apply ev_varQ); exact ev_var rfl)
    | ((with_reducible apply evs_cons) <;> array_mem_dec)
    | ((with_reducible apply ev_bin) <;> array_mem_dec)
    | ((with_reducible apply ev_ix) <;> array_mem_dec)
    | ((with_reducible apply ev_cmp) <;> array_mem_dec)
    | ((with_reducible apply ev_tup) <;> array_mem_dec)
    | ((with_reducible apply ev_tupQ); apply ev_tup <;> array_mem_dec)
    | ((with_reducible apply ev_blt) <;> array_mem_dec)
    | ((with_reducible apply ev_frv) <;> array_mem_dec)
    | ((with_reducible apply ev_frr) <;> array_mem_dec)
    | ((with_reducible apply evl_dis) <;> array_mem_dec)
    | ((with_reducible apply ev_call) <;> array_mem_dec)
    | ((with_reducible apply itm_seq) <;> array_mem_dec)
    | ((with_reducible apply itm_rng) <;> array_mem_dec)
    | ((with_reducible apply itm_enm) <;> array_mem_dec)
    | ((with_reducible apply itm_zp) <;> array_mem_dec)
    | ((with_reducible apply evl_cmp0) <;> array_mem_dec)
    | ((with_reducible apply evl_cmp) <;> array_mem_dec)
    | ((with_reducible apply cnd_one) <;> array_mem_dec)
    | with_reducible first | exact asg_nm | exact asg_2 | exact asg_3 | exact asg_n2 | exact asg_2n
    | ((with_reducible apply ev_an) <;> array_mem_dec)
    | ((with_reducible apply ev_or) <;> array_mem_dec)
    | ((with_reducible apply ev_nt) <;> array_mem_dec)
    | ((with_reducible apply ev_neg) <;> array_mem_dec)
    | ((with_reducible apply ev_iteI) <;> array_mem_dec)
    | ((with_reducible apply ev_ite) <;> array_mem_dec)
    | array_get_dec
    | (intro _ <;> array_mem_dec)
    | sizeOf_list_dec)
/-- rows as many as they have items -/
structure Sz (n : Nat) (rows : List (List Int)) : Prop where
  len : rows.length = n
  row : ∀ row ∈ rows, row.length = n
theorem Sz.at_ {n : Nat} {rows : List (List Int)} (h : Sz n rows) {i : Int} (h0 : 0 ≤ i) (h1 : i < n) : (pl rows i).length = n := h.row _ (pl_mem h0 (by rw [h.len]; exact h1))
theorem sz_of {n : Nat} {rows : List (List Int)} (h : RR.Sq n rows) : Sz n rows := ⟨h.len, fun row hr => (h.row row hr).1⟩
theorem sq_rate {n : Nat} {rows : List (List Int)} (h : RR.Sq n rows) {i j : Int} (i0 : 0 ≤ i) (i1 : i < n) (j0 : 0 ≤ j) (j1 : j < n) : 0 ≤ pl (pl rows i) j ∧ pl (pl rows i) j ≤ 1000000 := by
  have hm := pl_mem (xs := rows) i0 (by rw [h.len]; exact i1)
  exact (h.row _ hm).2 _ (pl_mem j0 (by rw [(h.row _ hm).1]; exact j1))
theorem sq_dg {n : Nat} {rows : List (List Int)} (h : RR.Sq n rows) {i : Int} (i0 : 0 ≤ i) (i1 : i < n) : pl (pl rows i) i = 0 := by
  have := h.dg i.toNat (pl rows i) (pl_some i0 (by rw [h.len]; exact i1))
  exact this
/-- all rates so many times -/
def timesW (c : Int) (rows : List (List Int)) : List (List Int) := rows.map fun row => row.map fun x => x * c
theorem timesW_sz {n : Nat} {c : Int} {rows : List (List Int)} (h : Sz n rows) : Sz n (timesW c rows) := by
  refine ⟨by unfold timesW; rw [List.length_map, h.len], fun row hr => ?_⟩
  obtain ⟨r0, h0, rfl⟩ := List.mem_map.mp hr
  rw [List.length_map]
  exact h.row r0 h0
theorem pl_map {α β : Type} [Inhabited α] [Inhabited β] {f : α → β} {xs : List α} {i : Int} (h0 : 0 ≤ i) (h1 : i < xs.length) : pl (xs.map f) i = f (pl xs i) :=
  pl_of (by rw [List.getElem?_map, pl_some h0 h1]; rfl)
theorem timesW_pl {n : Nat} {c i j : Int} {rows : List (List Int)} (h : Sz n rows) (i0 : 0 ≤ i) (i1 : i < n) (j0 : 0 ≤ j) (j1 : j < n) : pl (pl (timesW c rows) i) j = pl (pl rows i) j * c := by
  unfold timesW
  rw [pl_map i0 (by rw [h.len]; exact i1), pl_map j0 (by rw [h.at_ i0 i1]; exact j1)]
theorem deck_ok (ns : List Int) : ∃ cs, s_deck [.scr ns] [] = .ok (.ref 1) (RR.dk cs 0 []) := by
  have hl : (cutL ns none (some 63)).length ≤ 16777216 := by
    unfold cutL
    rw [List.length_take]
    have : HT.sIx ns.length ns.length (some 63) ≤ 63 := by
      unfold HT.sIx
      simp
      omega
    omega
  have hs : slcO [] (.scr ns) none (some 63) = some (.lst ((cutL ns none (some 63)).map .int)) := by
    show some (D.lst (cutL (ns.map D.int) none (some 63))) = _
    unfold cutL
    rw [List.length_map, ← List.map_drop, ← List.map_take]
  refine ⟨(cutL ns none (some 63)).map fun i => if i < 0 then -i else i, ?_⟩
  refine fn_eq rfl ?_
  show Ends true [] _ (exs [] b_deck [some (.scr ns), none] [])
  refine st_ret (d := .ref 1) (S1 := RR.dk ((cutL ns none (some 63)).map fun i => if i < 0 then -i else i) 0 []) ?_ fin_keep
  refine ev_frr (S1 := [.lst (((cutL ns none (some 63)).map fun i => if i < 0 then -i else i).map .int)]) (xs := [.ref 0, .int 0, .int 0]) (evl_dis (evs_cons ?_ (evs_cons ev_int (evs_cons ev_int evs_nil))))
  have := @ev_frr [] [some (.scr ns), none] [] [] (L.cmp (E.blt Bl.abs (Es.cons (E.var 1) Es.nil)) (Tg.nm 1) (It.seq (E.slc (E.var 0) E.non (E.int (63)))) Es.nil [((PySem.Str.ofString "_law_cell"), 1)]) (((cutL ns none (some 63)).map fun i => if i < 0 then -i else i).map .int) ?_
  · exact this
  rw [List.map_map]
  refine evl_cmp0 (xs := cutL ns none (some 63)) (f := .int) (itm_seq (ev_slc (ev_var rfl) bd_non (bd_int rfl ev_int) hs) q_seqL) hl (fun _ _ => asg_nm) (fun i _ => ?_)
  show ev _ _ _ _ = R.ok (D.int (if i < 0 then -i else i)) []
  array_mem_dec
/-- a pick out of what is told by f -/
theorem pick_ok {α : Type} {f : α → D} {cs : List Int} {k : Int} {T : Store} {xs : List α} (hx : xs ≠ []) (hl : xs.length < 1073741824) (hr : ∀ x ∈ xs, noRef (f x) = true) (hk0 : 0 ≤ k) (hk : k ≤ 1000000000000) :
    ∃ x cs', x ∈ xs ∧ s_pick [.ref 1, .lst (xs.map f)] (RR.dk cs k T) = .ok (f x) (RR.dk cs' (k + 1) T) := by
  obtain ⟨y, cs', hy, e⟩ := RR.pick_ok (cs := cs) (k := k) (T := T) (xs := xs.map f) (by simpa using hx) (by rw [List.length_map]; exact hl) (fun y hy => by obtain ⟨x, hx, rfl⟩ := List.mem_map.mp hy; exact hr x hx) hk0 hk
  obtain ⟨x, hx, rfl⟩ := List.mem_map.mp hy
  exact ⟨x, cs', hx, e⟩
/-- tuple([tuple([x * 10 ** e for x in row]) for row in web]) -/
theorem wide_ev {G : List Fn} {r : Env} {S : Store} {rows : List (List Int)} {n : Nat} {v i j : Nat} {e : Int} {x y : Str} (h : Sz n rows) (hn : n ≤ 6) (hb : ∀ row ∈ rows, ∀ x ∈ row, x.natAbs < 18446744073709551616)
    (hv : look (wipeE r [(y, i)]) v = look r v) (h1 : look r v = some (WT rows)) (he : 0 ≤ e ∧ e ≤ 1000000) (hvi : ∀ row : List Int, look ((wipeE r [(y, i)]).set i (some (TI row))) i = some (TI row)) (hvj : ∀ (row : List Int) (z : Int), look ((wipeE ((wipeE r [(y, i)]).set i (some (TI row))) [(x, j)]).set j (some (.int z))) j = some (.int z)) :
    ev G (E.blt Bl.tup (Es.cons (E.fr false (L.cmp (E.blt Bl.tup (Es.cons (E.fr false (L.cmp (E.bin Bop.mul (E.var j) (E.bin Bop.pow (E.int (10)) (E.int e))) (Tg.nm j) (It.seq (E.var i)) Es.nil [(x, j)])) Es.nil)) (Tg.nm i) (It.seq (E.var v)) Es.nil [(y, i)])) Es.nil)) r S = .ok (WT (timesW (10 ^ e.toNat) rows)) S := by
  have e0 : WT (timesW (10 ^ e.toNat) rows) = .tup (rows.map fun row => .tup (row.map fun x => .int (x * 10 ^ e.toNat))) := by
    show D.tup _ = _
    unfold timesW
    rw [List.map_map]
    congr 1
    refine List.map_congr_left fun row _ => ?_
    show D.tup ((row.map fun x => x * 10 ^ e.toNat).map .int) = _
    rw [List.map_map]; rfl
  rw [e0]
  refine ev_blt (evs_cons (ev_frv (evl_cmp0 (xs := rows) (itm_seq (ev_var h1) q_seqT) (by rw [h.len]; omega) (fun _ _ => asg_nm) (h := fun row => .tup (row.map fun x => .int (x * 10 ^ e.toNat))) fun row hrow => ?_)) evs_nil) q_tupL
  refine ev_blt (evs_cons (ev_frv (evl_cmp0 (xs := row) (itm_seq (ev_var (hvi row)) q_seqT) (by rw [h.row row hrow]; omega) (fun _ _ => asg_nm) (h := fun x => .int (x * 10 ^ e.toNat)) fun z hz => ?_)) evs_nil) q_tupL
  exact ev_bin (ev_var (hvj row z)) (ev_bin ev_int ev_int (q_pow ⟨he.1, he.2, by decide⟩)) (q_mulA (hb row hrow z hz))
/-! ### changes of the list that was made last -/
section
variable {G : List Fn} {ss : Sms} {r : Env} {S : Store} {P : Fl → Prop} {o i e : E} {xs : List D} {d : D} {k a b : Int}
theorem sub_last {T : Store} (h0 : 0 ≤ k) (h1 : k < xs.length) : subD (T ++ [.lst xs]) (.ref T.length) (.int k) d = some (T ++ [.lst (xs.set k.toNat d)]) := by
  show (match (T ++ [Ob.lst xs])[T.length]? with
    | some (.lst ys) => (ixN ys.length k).map fun j => (T ++ [Ob.lst xs]).set T.length (.lst (ys.set j d))
    | none => none) = _
  rw [app_at]
  show (ixN xs.length k).map _ = _
  unfold ixN
  rw [if_pos h0, if_pos h1]
  show some ((T ++ [Ob.lst xs]).set T.length (.lst (xs.set k.toNat d))) = _
  rw [app_set]
theorem asg_subL (h : ev G o r (S ++ [.lst xs]) = .ok (.ref S.length) (S ++ [.lst xs])) (h2 : ev G i r (S ++ [.lst xs]) = .ok (.int k) (S ++ [.lst xs])) (h0 : 0 ≤ k) (h1 : k < xs.length) :
    asg G (.sub o i) d r (S ++ [.lst xs]) = .ok r (S ++ [.lst (xs.set k.toNat d)]) := by
  rw [asg, h]
  show (ev G i r (S ++ [Ob.lst xs])).bnd _ = _
  rw [h2]
  show (match subD (S ++ [Ob.lst xs]) (.ref S.length) (.int k) d with
    | some S3 => R.ok r S3
    | none => .bad) = _
  rw [sub_last h0 h1]
theorem st_augL (h : ev G o r (S ++ [.lst xs]) = .ok (.ref S.length) (S ++ [.lst xs])) (h2 : ev G i r (S ++ [.lst xs]) = .ok (.int k) (S ++ [.lst xs])) (h3 : ev G e r (S ++ [.lst xs]) = .ok (.int b) (S ++ [.lst xs])) (h0 : 0 ≤ k) (h1 : xs[k.toNat]? = some (.int a))
    (hk : P (exs G ss r (S ++ [.lst (xs.set k.toNat (.int (a + b)))]))) : P (exs G (.cons (.aug o i e) ss) r (S ++ [.lst xs])) := by
  have hl : k < xs.length := by
    have := (List.getElem?_eq_some_iff.mp h1).1
    omega
  refine st_of (r1 := r) (S1 := S ++ [.lst (xs.set k.toNat (.int (a + b)))]) ?_ hk
  rw [ex, h]
  show (ev G i r (S ++ [Ob.lst xs])).fl r _ = _
  rw [h2]
  have ea : augD (S ++ [.lst xs]) (.ref S.length) (.int k) = some a := by
    show (if 0 ≤ k then (match ixD (S ++ [Ob.lst xs]) (.ref S.length) (.int k) with
      | some (.int a) => some a
      | _ => none) else none) = _
    have e1 : ixD (S ++ [.lst xs]) (.ref S.length) (.int k) = some (.int a) := by
      have e2 : itemsD (S ++ [.lst xs]) (.ref S.length) = some xs := by simp only [itemsD, app_at]
      simp only [ixD, e2]
      unfold atI ixN
      rw [if_pos h0, if_pos hl]
      exact h1
    rw [if_pos h0, e1]
  show (match augD (S ++ [Ob.lst xs]) (.ref S.length) (.int k) with
    | some a => (ev G e r (S ++ [Ob.lst xs])).fl r fun y S3 => (match y with
      | .int b => (match subD S3 (D.ref S.length) (D.int k) (D.int (a + b)) with
        | some S4 => .next r S4
        | none => .bad)
      | _ => .bad)
    | none => .bad) = _
  rw [ea]
  show (ev G e r (S ++ [Ob.lst xs])).fl r _ = _
  rw [h3]
  show (match subD (S ++ [Ob.lst xs]) (.ref S.length) (.int k) (.int (a + b)) with
        | some S4 => Fl.next r S4
        | none => .bad) = _
  rw [sub_last h0 hl]
end
end RR.N

set_option Elab.async false
set_option linter.all false
set_option maxRecDepth 100000
set_option maxHeartbeats 1000000
/-! values of one kind: equality, membership; slices; while; comprehensions that change the store -/
namespace RR.N
open PySem L2
structure Py {α : Type} [DecidableEq α] (k : Nat) (f : α → D) where
  py : α → PyData
  h : ∀ r x, pyR r (f x) = some (py x)
  lay : ∀ x, (py x).canLay0 = true
  dep : ∀ x, (py x).depth ≤ k
  eq : ∀ x y, PyData.eqv (py x) (py y) = decide (x = y)
section
variable {α : Type} [DecidableEq α] {k : Nat} {f : α → D} {S : Store} {x y : α} {xs ys : List α} {n : Nat}
theorem Py.ok (P : Py k f) (hk : k ≤ 62) (x : α) : okPy (P.py x) = true := by
  show ((P.py x).canLay0 && decide ((P.py x).depth ≤ 64)) = true
  have := P.dep x
  rw [P.lay x, decide_eq_true (by omega)]; rfl
theorem Py.hs (P : Py k f) (r : Nat → Option PyData) : ∀ xs : List α, pysR r (xs.map f) = some (xs.map P.py)
  | [] => rfl
  | x :: xs => by
    rw [List.map_cons, List.map_cons]
    unfold pysR
    rw [P.h r x, P.hs r xs]
theorem Py.lays (P : Py k f) : ∀ xs : List α, PyData.canLayAll0 (xs.map P.py) = true
  | [] => rfl
  | x :: xs => by
    show ((P.py x).canLay0 && PyData.canLayAll0 (xs.map P.py)) = true
    rw [P.lay x, P.lays xs]; rfl
theorem Py.deps (P : Py k f) : ∀ xs : List α, PyData.depthAll (xs.map P.py) ≤ k
  | [] => Nat.zero_le _
  | x :: xs => by
    show max (P.py x).depth (PyData.depthAll (xs.map P.py)) ≤ k
    have h1 := P.dep x
    have h2 := P.deps xs
    omega
theorem Py.eqs (P : Py k f) : ∀ xs ys : List α, PyData.eqvAll (xs.map P.py) (ys.map P.py) = decide (xs = ys)
  | [], [] => rfl
  | [], y :: ys => rfl
  | x :: xs, [] => rfl
  | x :: xs, y :: ys => by
    show (PyData.eqv (P.py x) (P.py y) && PyData.eqvAll (xs.map P.py) (ys.map P.py)) = _
    rw [P.eq, P.eqs xs ys]
    simp only [List.cons.injEq, Bool.decide_and]
def Py.tup (P : Py k f) : Py (k + 1) (fun xs : List α => D.tup (xs.map f)) where
  py xs := .tuple (xs.map P.py)
  h r xs := by
    show (pysR r (xs.map f)).map PyData.tuple = _
    rw [P.hs r xs]; rfl
  lay xs := P.lays xs
  dep xs := Nat.succ_le_succ (P.deps xs)
  eq xs ys := P.eqs xs ys
def Py.lst (P : Py k f) : Py (k + 1) (fun xs : List α => D.lst (xs.map f)) where
  py xs := .list (xs.map P.py)
  h r xs := by
    show (pysR r (xs.map f)).map PyData.list = _
    rw [P.hs r xs]; rfl
  lay xs := P.lays xs
  dep xs := Nat.succ_le_succ (P.deps xs)
  eq xs ys := P.eqs xs ys
def pyI : Py 0 D.int where
  py i := .int i
  h _ _ := rfl
  lay _ := rfl
  dep _ := Nat.le_refl _
  eq i j := eqv_ii i j
def pyP : Py 1 prD where
  py p := .tuple [.int p.1, .int p.2]
  h _ _ := rfl
  lay _ := rfl
  dep _ := Nat.le_refl _
  eq p q := by
    have e : PyData.eqv (.tuple [.int p.1, .int p.2]) (.tuple [.int q.1, .int q.2]) = (PyData.eqv (.int p.1) (.int q.1) && (PyData.eqv (.int p.2) (.int q.2) && true)) := rfl
    rw [e, eqv_ii, eqv_ii]
    obtain ⟨a, b⟩ := p
    obtain ⟨c, d⟩ := q
    simp only [Prod.mk.injEq, Bool.and_true, Bool.decide_and]
def pyT : Py 1 TI := pyI.tup
theorem Py.q_eq (P : Py k f) (hk : k ≤ 62) : cmpD S .eq (f x) (f y) = some (decide (x = y)) := by
  rw [N.q_eq (P.h _ x) (P.h _ y) (P.ok hk x) (P.ok hk y), P.eq]
theorem Py.q_ne (P : Py k f) (hk : k ≤ 62) : cmpD S .ne (f x) (f y) = some (!decide (x = y)) := by
  rw [N.q_ne (P.h _ x) (P.h _ y) (P.ok hk x) (P.ok hk y), P.eq]
theorem Py.any_mem (P : Py k f) : ∀ xs : List α, (xs.map P.py).any (fun z => PyData.eqv z (P.py x)) = decide (x ∈ xs)
  | [] => by simp
  | y :: ys => by
    rw [List.map_cons, List.any_cons, P.eq, P.any_mem ys]
    by_cases h : y = x
    · subst h; simp
    · have h2 : ¬ x = y := fun q => h q.symm
      simp [h, h2]
theorem Py.q_in (P : Py k f) (hk : k ≤ 62) {d : D} {inst : Decidable (x ∈ xs)} (hd : itemsD S d = some (xs.map f)) : inD S (f x) d = some (@decide (x ∈ xs) inst) := by
  have e1 : pyD S (f x) = some (P.py x) := P.h _ x
  have e2 : ((itemsD S d).bind fun ys => pysR (fun i => obPy (fun _ => none) S[i]?) ys) = some (xs.map P.py) := by
    rw [hd]
    exact P.hs _ xs
  have e3 : okPy (.list (xs.map P.py)) = true := by
    show (PyData.canLayAll0 (xs.map P.py) && decide (PyData.depthAll (xs.map P.py) + 1 ≤ 64)) = true
    have := P.deps xs
    rw [P.lays, decide_eq_true (by omega)]; rfl
  unfold inD
  rw [e1, e2]
  show (if okPy (P.py x) = true ∧ okPy (.list (xs.map P.py)) = true then some ((xs.map P.py).any fun z => PyData.eqv z (P.py x)) else none) = _
  rw [if_pos ⟨P.ok hk x, e3⟩, P.any_mem]
  exact congrArg some (by congr)
theorem Py.q_inL (P : Py k f) (hk : k ≤ 62) {inst : Decidable (x ∈ xs)} : cmpD S .inn (f x) (.lst (xs.map f)) = some (@decide (x ∈ xs) inst) := P.q_in hk rfl
theorem Py.q_inT (P : Py k f) (hk : k ≤ 62) {inst : Decidable (x ∈ xs)} : cmpD S .inn (f x) (.tup (xs.map f)) = some (@decide (x ∈ xs) inst) := P.q_in hk rfl
theorem Py.q_inR (P : Py k f) (hk : k ≤ 62) {inst : Decidable (x ∈ xs)} (hS : S[n]? = some (.lst (xs.map f))) : cmpD S .inn (f x) (.ref n) = some (@decide (x ∈ xs) inst) := P.q_in hk (by simp only [itemsD, hS])
theorem Py.q_ninL (P : Py k f) (hk : k ≤ 62) {inst : Decidable (x ∈ xs)} : cmpD S .nin (f x) (.lst (xs.map f)) = some (!(@decide (x ∈ xs) inst)) := by
  show (inD S (f x) (.lst (xs.map f))).map _ = _
  rw [P.q_in hk rfl]; rfl
theorem Py.q_ninT (P : Py k f) (hk : k ≤ 62) {inst : Decidable (x ∈ xs)} : cmpD S .nin (f x) (.tup (xs.map f)) = some (!(@decide (x ∈ xs) inst)) := by
  show (inD S (f x) (.tup (xs.map f))).map _ = _
  rw [P.q_in hk rfl]; rfl
theorem Py.q_ninR (P : Py k f) (hk : k ≤ 62) {inst : Decidable (x ∈ xs)} (hS : S[n]? = some (.lst (xs.map f))) : cmpD S .nin (f x) (.ref n) = some (!(@decide (x ∈ xs) inst)) := by
  show (inD S (f x) (.ref n)).map _ = _
  rw [P.q_in hk (xs := xs) (by simp only [itemsD, hS])]; rfl
theorem Py.q_neNil (P : Py k f) (hk : k ≤ 61) : cmpD S .ne (.lst (xs.map f)) (.lst []) = some (!decide (xs = [])) :=
  P.lst.q_ne (x := xs) (y := []) (by omega)
end
/-! ### slices -/
theorem cut_to {α : Type} {xs : List α} {i : Int} (h : 0 ≤ i) : cutL xs none (some i) = xs.take i.toNat := by
  unfold cutL HT.sIx
  rw [List.drop_zero, Nat.sub_zero]
  show List.take (if i < 0 then _ else _) xs = _
  rw [if_neg (by omega)]
  rcases Nat.le_total i.toNat xs.length with q | q
  · rw [Nat.min_eq_left q]
  · rw [Nat.min_eq_right q, List.take_of_length_le q, List.take_of_length_le (Nat.le_refl _)]
theorem cut_from {α : Type} {xs : List α} {i : Int} (h : 0 ≤ i) : cutL xs (some i) none = xs.drop i.toNat := by
  unfold cutL HT.sIx
  show List.take (xs.length - (if i < 0 then _ else _)) (xs.drop (if i < 0 then _ else _)) = _
  rw [if_neg (by omega)]
  rcases Nat.le_total i.toNat xs.length with q | q
  · rw [Nat.min_eq_left q, List.take_of_length_le (by rw [List.length_drop]; exact Nat.le_refl _)]
  · rw [Nat.min_eq_right q, List.drop_of_length_le q, List.drop_of_length_le (Nat.le_refl _), List.take_nil]
section
variable {G : List Fn} {r : Env} {S : Store} {a e : E} {xs ds : List D} {i : Int}
theorem ev_toL (h : ev G a r S = .ok (.lst xs) S) (hn : e.isNon = false) (h2 : ev G e r S = .ok (.int i) S) (h0 : 0 ≤ i) : ev G (.slc a .non e) r S = .ok (.lst (xs.take i.toNat)) S :=
  ev_slc h bd_non (bd_int hn h2) (by show some (D.lst (cutL xs none (some i))) = _; rw [cut_to h0])
theorem ev_fromL (h : ev G a r S = .ok (.lst xs) S) (hn : e.isNon = false) (h2 : ev G e r S = .ok (.int i) S) (h0 : 0 ≤ i) : ev G (.slc a e .non) r S = .ok (.lst (xs.drop i.toNat)) S :=
  ev_slc h (bd_int hn h2) bd_non (by show some (D.lst (cutL xs (some i) none)) = _; rw [cut_from h0])
theorem ev_toT (h : ev G a r S = .ok (.tup xs) S) (hn : e.isNon = false) (h2 : ev G e r S = .ok (.int i) S) (h0 : 0 ≤ i) : ev G (.slc a .non e) r S = .ok (.tup (xs.take i.toNat)) S :=
  ev_slc h bd_non (bd_int hn h2) (by show some (D.tup (cutL xs none (some i))) = _; rw [cut_to h0])
theorem ev_fromT (h : ev G a r S = .ok (.tup xs) S) (hn : e.isNon = false) (h2 : ev G e r S = .ok (.int i) S) (h0 : 0 ≤ i) : ev G (.slc a e .non) r S = .ok (.tup (xs.drop i.toNat)) S :=
  ev_slc h (bd_int hn h2) bd_non (by show some (D.tup (cutL xs (some i) none)) = _; rw [cut_from h0])
theorem q_rvt : rvtD false (.tup xs) = some (.tup xs.reverse) := rfl
end
/-! ### while -/
theorem whlN_one {cd : Env → Store → R Bool} {bd : Env → Store → Fl} : ∀ {n m : Nat} {r : Env} {S : Store} {o o' : Fl}, whlN cd bd n r S = some o → whlN cd bd m r S = some o' → o = o'
  | 0, _, _, _, _, _, h, _ => nomatch h
  | _ + 1, 0, _, _, _, _, _, h => nomatch h
  | n + 1, m + 1, r, S, o, o', h, h2 => by
    unfold whlN at h h2
    cases hc : cd r S with
    | ok b S1 =>
      rw [hc] at h h2
      cases b with
      | false => exact Option.some.inj (h.symm.trans h2)
      | true =>
        simp only [] at h h2
        cases hb : bd r S1 with
        | next r2 S2 => rw [hb] at h h2; exact whlN_one h h2
        | con r2 S2 => rw [hb] at h h2; exact whlN_one h h2
        | brk r2 S2 => rw [hb] at h h2; exact Option.some.inj (h.symm.trans h2)
        | ret d S2 => rw [hb] at h h2; exact Option.some.inj (h.symm.trans h2)
        | exc c fs r2 S2 => rw [hb] at h h2; exact Option.some.inj (h.symm.trans h2)
        | bad => rw [hb] at h h2; exact Option.some.inj (h.symm.trans h2)
    | exc c fs S1 => rw [hc] at h h2; exact Option.some.inj (h.symm.trans h2)
    | bad => rw [hc] at h h2; exact Option.some.inj (h.symm.trans h2)
theorem whlS_of {cd : Env → Store → R Bool} {bd : Env → Store → Fl} {n : Nat} {r : Env} {S : Store} {o : Fl} (h : whlN cd bd n r S = some o) : whlS cd bd r S = o := by
  have hx : ∃ n o, whlN cd bd n r S = some o := ⟨n, o, h⟩
  unfold whlS
  rw [dif_pos hx]
  exact (whlN_one h hx.choose_spec.choose_spec).symm
/-- a while loop: I says how many turns may be left -/
theorem st_whl {G : List Fn} {c : E} {b ss : Sms} {r : Env} {S : Store} {P : Fl → Prop} (I : Nat → Env → Store → Prop) (n : Nat) (h0 : I n r S)
    (ht : ∀ m r S, I m r S → ∃ v S1, ev G c r S = .ok (.bl v) S1 ∧ (v = true → Goes (fun r2 S2 => ∃ m', m' < m ∧ I m' r2 S2) (exs G b r S1)) ∧ (v = false → P (exs G ss r S1))) :
    P (exs G (.cons (.whl c b) ss) r S) := by
  have key : ∀ (m : Nat) (r : Env) (S : Store), I m r S → ∃ k r1 S1, whlN (fun r S => (ev G c r S).bnd fun x S1 => .opt (truthD S1 x) S1) (fun r S => exs G b r S) k r S = some (.next r1 S1) ∧ P (exs G ss r1 S1) := by
    intro m
    induction m using Nat.strongRecOn with
    | _ m ih =>
      intro r S hI
      obtain ⟨v, S1, e, h1, h2⟩ := ht m r S hI
      have ec : (ev G c r S).bnd (fun x S1 => R.opt (truthD S1 x) S1) = .ok v S1 := by rw [e]; rfl
      cases v with
      | false =>
        refine ⟨1, r, S1, ?_, h2 rfl⟩
        unfold whlN
        rw [ec]
      | true =>
        obtain ⟨r2, S2, hb, m', hm, hI2⟩ := h1 rfl
        obtain ⟨k, r3, S3, e3, p3⟩ := ih m' hm r2 S2 hI2
        refine ⟨k + 1, r3, S3, ?_, p3⟩
        unfold whlN
        rw [ec]
        show (match exs G b r S1 with
          | .next r2 S2 => whlN _ _ k r2 S2
          | .con r2 S2 => whlN _ _ k r2 S2
          | .brk r2 S2 => some (.next r2 S2)
          | o => some o) = _
        rcases hb with hb | hb <;> (rw [hb]; exact e3)
  obtain ⟨k, r1, S1, e, p⟩ := key n r S h0
  refine st_of (r1 := r1) (S1 := S1) ?_ p
  rw [ex]
  exact whlS_of e
/-! ### comprehensions that change the store -/
theorem evl_cmpJ {α : Type} {G : List Fn} {r : Env} {S S1 : Store} {e : E} {t : Tg} {it : It} {own : List (Str × Nat)} {xs : List α} {f : α → D} (I : List α → List D → Store → Prop)
    (hi : itm G it r S = .ok (xs.map f, none) S1) (hl : xs.length ≤ 16777216) (h0 : I [] [] S1)
    (ht : ∀ done x, x ∈ xs → (∃ rest, done ++ x :: rest = xs) → ∀ ds S, I done ds S → ∃ r1 d S2, asg G t (f x) (wipeE r own) S = .ok r1 S ∧ ev G e r1 S = .ok d S2 ∧ I (done ++ [x]) (ds ++ [d]) S2) :
    ∃ ds S2, evl G (.cmp e t it .nil own) r S = .ok ds S2 ∧ I xs ds S2 := by
  have key : ∀ (rest done : List α) (ds : List D) (S : Store), done ++ rest = xs → I done ds S → ∃ es S2, cmpS (fun x r S => asg G t x r S) (fun r S => cnd G .nil r S) (fun r S => ev G e r S) none (wipeE r own) (rest.map f) S = .ok es S2 ∧ I xs (ds ++ es) S2 := by
    intro rest
    induction rest with
    | nil =>
      intro done ds S hd hI
      rw [List.append_nil] at hd
      subst hd
      refine ⟨[], S, ?_, by rw [List.append_nil]; exact hI⟩
      show cmpS _ _ _ _ _ [] S = _
      unfold cmpS
      exact if_pos trivial
    | cons x rest ih =>
      intro done ds S hd hI
      obtain ⟨r1, d, S2, h1, h2, h3⟩ := ht done x (by rw [← hd]; simp) ⟨rest, hd⟩ ds S hI
      obtain ⟨es, S3, e3, i3⟩ := ih (done ++ [x]) (ds ++ [d]) S2 (by rw [← hd]; simp) h3
      refine ⟨d :: es, S3, ?_, by rw [List.append_assoc] at i3; exact i3⟩
      rw [List.map_cons]
      unfold cmpS
      rw [if_pos (show gdOk none S from trivial), h1]
      have hb : ∀ {α β : Type} (a : α) (S : Store) (k : α → Store → R β), (R.ok a S).bnd k = k a S := fun _ _ _ => rfl
      rw [hb, cnd_nil, hb, if_pos rfl, h2, hb, e3]; rfl
  obtain ⟨es, S2, e2, i2⟩ := key xs [] [] S1 rfl h0
  refine ⟨es, S2, ?_, i2⟩
  rw [evl, hi]
  show (if (xs.map f).length ≤ 16777216 then _ else _) = _
  rw [if_pos (by rw [List.length_map]; exact hl)]
  show (cmpS _ _ _ _ _ _ _).nx = _
  rw [e2]; rfl
/-! ### more (as in L_k52) -/
theorem st_appR {G : List Fn} {ss : Sms} {r : Env} {S : Store} {P : Fl → Prop} {a e : E} {n : Nat} {xs : List D} {d : D} (h : ev G a r S = .ok (.ref n) S) (h2 : ev G e r S = .ok d S) (hn : S[n]? = some (.lst xs)) (hl : xs.length < 16777216)
    (k : P (exs G ss r (S.set n (.lst (xs ++ [d]))))) : P (exs G (.cons (.exp (.met .append a (.cons e .nil))) ss) r S) :=
  st_exp (ev_met h (evs_cons h2 evs_nil) (m_app hn hl)) k
theorem end_exc {S : Store} {c : Str} {r : Env} : Ends false S (EqR (.exc c [] S)) (.exc c [] r S) := by
  show exitR false S _ = _
  refine Eq.trans (if_pos ⟨agree_refl S, rfl⟩) ?_
  rw [List.take_length]
theorem ifc {p q : Prop} [Decidable p] [Decidable q] {α : Type} {x y : α} (h : p ↔ q) : (if p then x else y) = if q then x else y := by simp only [h]
theorem set_mid {S X : Store} {o o' : Ob} : (S ++ o :: X).set S.length o' = S ++ o' :: X := by simp
theorem rep_one {S : Store} {k : Nat} (h : k ≤ 16777216) {α : Type} {xs : List α} {f : α → Int} (hx : xs.length = k) (hf : ∀ x ∈ xs, f x = 0) : repD S (.lst [.int 0]) (.int k) = some (xs.map fun x => .int (f x)) := by
  have hx2 : (xs.map fun x => D.int (f x)) = (List.replicate k [D.int 0]).flatten := by
    subst hx
    clear h
    induction xs with
    | nil => rfl
    | cons x xs ih =>
      rw [List.length_cons, List.replicate_succ, List.flatten_cons, List.map_cons, hf x List.mem_cons_self, ih fun y hy => hf y (List.mem_cons_of_mem _ hy)]; rfl
  have hc : -(2 ^ 63) ≤ (k : Int) ∧ (k : Int) < 2 ^ 63 ∧ [D.int 0].length * ((k : Int)).toNat ≤ 16777216 := by
    refine ⟨by omega, by omega, ?_⟩
    rw [List.length_singleton, Nat.one_mul, Int.toNat_natCast]
    exact h
  rw [hx2]
  unfold repD lsD
  simp only []
  rw [if_pos hc, Int.toNat_natCast]
theorem rg_succ (n : Nat) : rg 0 ((n + 1 : Nat) : Int) = rg 0 n ++ [(n : Int)] := by
  unfold rg
  have h1 : (((n + 1 : Nat) : Int) - 0).toNat = n + 1 := by omega
  have h2 : ((n : Int) - 0).toNat = n := by omega
  rw [h1, h2, List.range_succ, List.map_append]
  simp
theorem zip_at {xs : List Int} {dn rest : List (Int × Nat)} {x : Int × Nat} (h : dn ++ x :: rest = xs.zipIdx) : x.2 = dn.length ∧ x.1 = pl xs dn.length ∧ dn.length < xs.length := by
  have e := congrArg (fun l => l[dn.length]?) h
  simp only [List.getElem?_append_right (Nat.le_refl _), Nat.sub_self, List.getElem?_cons_zero, List.getElem?_zipIdx] at e
  have hl : dn.length < xs.length := by
    rcases Nat.lt_or_ge dn.length xs.length with q | q
    · exact q
    · rw [List.getElem?_eq_none q] at e; cases e
  rw [List.getElem?_eq_getElem hl] at e
  cases e
  refine ⟨by simp, ?_, hl⟩
  show _ = pl xs _
  rw [pl_nat (List.getElem?_eq_getElem hl)]
/-! ### try .. except -/
section
variable {G : List Fn} {ss b : Sms} {r r1 : Env} {S S1 : Store} {P : Fl → Prop} {c z : Str} {d : D} {fs : List (Str × D)}
theorem st_trsX (h : exs G b r S = .exc c fs r1 S1) (k : P (.ret (.str z) S1)) : P (exs G (.cons (.trs b c z) ss) r S) := by
  rw [exs, ex, h]
  show P (match (if c = c then Fl.ret (.str z) S1 else .bad) with | .next r1 S1 => exs G ss r1 S1 | o => o)
  rw [if_pos rfl]; exact k
theorem st_trsR (h : exs G b r S = .ret d S1) (k : P (.ret d S1)) : P (exs G (.cons (.trs b c z) ss) r S) := by
  rw [exs, ex, h]; exact k
theorem ex_retX {e : E} (h : ev G e r S = .exc c fs S1) : exs G (.cons (.ret e) ss) r S = .exc c fs r S1 := by
  rw [exs, ex, h]; rfl
theorem ex_retR {e : E} (h : ev G e r S = .ok d S1) : exs G (.cons (.ret e) ss) r S = .ret d S1 := by
  rw [exs, ex, h]; rfl
theorem ev_callX {i : Nat} {es : Es} {xs : List D} {f : Fn} (h : evs G es r S = .ok xs S1) (hf : G[i]? = some f) (h2 : f xs S1 = .exc c fs S) : ev G (.call i es) r S = .exc c fs S := by
  rw [ev, h]; show (match G[i]? with | some f => f xs S1 | none => .bad) = _; rw [hf]; exact h2
end
end RR.N

set_option Elab.async false
set_option linter.all false
set_option maxRecDepth 100000
set_option maxHeartbeats 1000000
namespace RR.N
open PySem L2
set_option hygiene false in
local macro_rules
  | `(tactic| sizeOf_list_dec) => `(tactic| first | with_reducible assumption | omega | (exact sm_of (by omega) (by omega)) | (simp only [List.length_map, List.length_append, List.length_cons, List.length_nil, rg_len]; omega))
set_option hygiene false in
local macro_rules
  | `(tactic| array_get_dec) => `(tactic| first
    | with_reducible first
      | exact q_add | exact q_sub | exact q_lt | exact q_le | exact q_gt | exact q_ge | exact q_eqi | exact q_nei | exact q_trb
      | exact q_eqp | exact q_ixp0 | exact q_ixp1
      | exact q_lenM | exact q_lenLM | exact q_lenT | exact q_lenL | exact q_tupT | exact q_tupL | exact q_sum | exact q_all | exact q_any | exact q_int | exact q_intb | exact q_mn2 | exact q_mx2 | exact q_abs
      | exact q_zipT | exact q_zipL | exact q_enmL | exact q_enmT | exact q_seqT | exact q_seqL
    | ((with_reducible apply q_mulA) <;> omega)
    | ((with_reducible apply q_mulB) <;> omega)
    | ((with_reducible apply q_pow) <;> decide)
    | ((with_reducible apply q_rg1) <;> sizeOf_list_dec) | ((with_reducible apply q_rg2) <;> sizeOf_list_dec)
    | ((with_reducible apply q_ixT) <;> sizeOf_list_dec) | ((with_reducible apply q_ixL) <;> sizeOf_list_dec))
set_option hygiene false in
local macro_rules
  | `(tactic| array_mem_dec) => `(tactic| first
    | with_reducible first
      | exact ev_int | exact ev_bl | exact ev_non | exact ev_str | exact ev_con | exact evs_nil
      | exact g0 | exact g1 | exact g2 | exact g3 | exact g4 | exact g5 | exact g6 | exact g7 | exact g8 | exact g9
    | ((with_reducible apply ev_varQ); exact ev_var rfl)
    | ((with_reducible apply evs_cons) <;> array_mem_dec)
    | ((with_reducible apply ev_bin) <;> array_mem_dec)
    | ((with_reducible apply ev_ix) <;> array_mem_dec)
    | ((with_reducible apply ev_cmp) <;> array_mem_dec)
    | ((with_reducible apply ev_tup) <;> array_mem_dec)
    | ((with_reducible apply ev_tupQ); apply ev_tup <;> array_mem_dec)
    | ((with_reducible apply ev_blt) <;> array_mem_dec)
    | ((with_reducible apply ev_frv) <;> array_mem_dec)
    | ((with_reducible apply ev_frr) <;> array_mem_dec)
    | ((with_reducible apply evl_dis) <;> array_mem_dec)
    | ((with_reducible apply ev_call) <;> array_mem_dec)
    | ((with_reducible apply itm_seq) <;> array_mem_dec)
    | ((with_reducible apply itm_rng) <;> array_mem_dec)
    | ((with_reducible apply itm_enm) <;> array_mem_dec)
    | ((with_reducible apply itm_zp) <;> array_mem_dec)
    | ((with_reducible apply evl_cmp0) <;> array_mem_dec)
    | ((with_reducible apply evl_cmp) <;> array_mem_dec)
    | ((with_reducible apply cnd_one) <;> array_mem_dec)
    | with_reducible first | exact asg_nm | exact asg_2 | exact asg_3 | exact asg_n2 | exact asg_2n
    | ((with_reducible apply ev_an) <;> array_mem_dec)
    | ((with_reducible apply ev_or) <;> array_mem_dec)
    | ((with_reducible apply ev_nt) <;> array_mem_dec)
    | ((with_reducible apply ev_neg) <;> array_mem_dec)
    | ((with_reducible apply ev_iteI) <;> array_mem_dec)
    | ((with_reducible apply ev_ite) <;> array_mem_dec)
    | array_get_dec
    | (intro _ <;> array_mem_dec)
    | sizeOf_list_dec)
def EqF (q o : Fl) : Prop := o = q
/-! ### products round a way -/
def turned (w : List Int) : List Int := w.drop 1 ++ w.take 1
def prodR (a : List (List Int)) (w : List Int) : Int := (w.zip (turned w)).foldl (fun acc p => acc * pl (pl a p.1) p.2) 1
theorem ev_slcG {G : List Fn} {r : Env} {S S1 : Store} {a lo hi : E} {x d : D} {l h : Option Int} (e1 : ev G a r S = .ok x S1) (e2 : (ev G lo r S1).bnd (bndI lo.isNon) = .ok l S1) (e3 : (ev G hi r S1).bnd (bndI hi.isNon) = .ok h S1) (e4 : slcO S1 x l h = some d) : ev G (.slc a lo hi) r S = .ok d S1 := ev_slc e1 e2 e3 e4
theorem ev_to12 {G : List Fn} {r : Env} {S S1 : Store} {a : E} {xs : List D} {i : Int} (h : ev G a r S = .ok (.lst xs) S1) (h0 : 0 ≤ i) : ev G (.slc a .non (.int i)) r S = .ok (.lst (xs.take i.toNat)) S1 :=
  ev_slc h bd_non (bd_int rfl ev_int) (by show some (D.lst (cutL xs none (some i))) = _; rw [cut_to h0])
theorem foldl_bd {a : List (List Int)} {B : Nat} (hB : 1 ≤ B) : ∀ (l : List (Int × Int)) (acc : Int), (∀ p ∈ l, (pl (pl a p.1) p.2).natAbs ≤ B) → (l.foldl (fun acc p => acc * pl (pl a p.1) p.2) acc).natAbs ≤ acc.natAbs * B ^ l.length
  | [], acc, _ => by simp
  | p :: l, acc, h => by
    have ih := foldl_bd hB l (acc * pl (pl a p.1) p.2) fun q hq => h q (List.mem_cons_of_mem _ hq)
    rw [Int.natAbs_mul] at ih
    rw [List.foldl_cons, List.length_cons, Nat.pow_succ']
    refine Nat.le_trans ih ?_
    rw [← Nat.mul_assoc]
    exact Nat.mul_le_mul_right _ (Nat.mul_le_mul_left _ (h p List.mem_cons_self))
theorem turned_len {w : List Int} : (turned w).length = w.length := by
  unfold turned
  rw [List.length_append, List.length_drop, List.length_take]
  omega
theorem turned_mem {w : List Int} {x : Int} (h : x ∈ turned w) : x ∈ w := by
  unfold turned at h
  rcases List.mem_append.mp h with q | q
  · exact List.mem_of_mem_drop q
  · exact List.mem_of_mem_take q
theorem prod_eq {b : Sms} (hb : b = b_p_product) {a : List (List Int)} {n : Nat} {w : List Int} {B : Nat} {S : Store} (ha : Sz n a) (hn : n ≤ 6) (hB : 1 ≤ B) (hB2 : B < 10 ^ 70) (hbd : ∀ row ∈ a, ∀ x ∈ row, x.natAbs ≤ B) (hw : ∀ x ∈ w, 0 ≤ x ∧ x < n) (hl : w.length ≤ 6) :
    runF [] ⟨2, 5, false, b⟩ [WT a, TI w] S = .ok (.int (prodR a w)) S := by
  subst hb
  have la := ha.len
  have hz : ∀ p ∈ w.zip (turned w), (0 ≤ p.1 ∧ p.1 < n) ∧ (0 ≤ p.2 ∧ p.2 < n) := fun p hp => by
    obtain ⟨p1, p2⟩ := p
    have := List.of_mem_zip hp
    exact ⟨hw _ this.1, hw _ (turned_mem this.2)⟩
  have hzb : ∀ p ∈ w.zip (turned w), (pl (pl a p.1) p.2).natAbs ≤ B := fun p hp => by
    obtain ⟨h1, h2⟩ := hz p hp
    exact hbd _ (pl_mem h1.1 (by rw [la]; exact h1.2)) _ (pl_mem h2.1 (by rw [ha.at_ h1.1 h1.2]; exact h2.2))
  have hzl : (w.zip (turned w)).length ≤ 6 := by rw [List.length_zip]; omega
  have hpow : ∀ l : List (Int × Int), l.length ≤ 6 → (∀ p ∈ l, (pl (pl a p.1) p.2).natAbs ≤ B) → (l.foldl (fun acc p => acc * pl (pl a p.1) p.2) 1).natAbs.log2 < 1920 := fun l h1 h2 => log_lt (by
    have e1 := foldl_bd hB l 1 h2
    have e2 : B ^ l.length ≤ B ^ 6 := Nat.pow_le_pow_right hB h1
    have e3 : B ^ 6 < (10 ^ 70) ^ 6 := Nat.pow_lt_pow_left hB2 (by decide)
    have e4 : ((10 : Nat) ^ 70) ^ 6 < 2 ^ 1920 := by decide +kernel
    have e5 : (1 : Int).natAbs = 1 := rfl
    rw [e5, Nat.one_mul] at e1
    omega)
  refine fn_eq rfl ?_
  show Ends false S _ (exs [] b_p_product [some (WT a), some (TI w), none, none, none] S)
  refine st_asg (d := .int 1) ev_int asg_nm ?_
  have hit : itm [] (It.zp (E.var 1) (E.bin Bop.add (E.slc (E.var 1) (E.int (1)) E.non) (E.slc (E.var 1) E.non (E.int (1))))) [some (WT a), some (TI w), some (.int 1), none, none] S = .ok ((w.zip (turned w)).map (fun p => D.tup [.int p.1, .int p.2]), none) S := by
    refine itm_zp (ev_var rfl) (ev_bin (ev_fromT (ev_var rfl) rfl ev_int (by decide)) (ev_toT (ev_var rfl) rfl ev_int (by decide)) (q_addT ?_)) ?_
    · rw [List.length_drop, List.length_take, List.length_map]; omega
    · rw [← List.map_drop, ← List.map_take, ← List.map_append]
      exact q_zipT
  refine st_fold (xs := w.zip (turned w)) (f := fun p => D.tup [.int p.1, .int p.2]) (S1 := S) (fun done => [some (WT a), some (TI w), some (.int (done.foldl (fun acc p => acc * pl (pl a p.1) p.2) 1)), none, none]) (fun _ => S) hit ⟨rfl, rfl⟩ ?_ ?_
  · rintro done p hp ⟨rest, hd⟩
    obtain ⟨h1, h2⟩ := hz p hp
    have hdm : ∀ q ∈ done, q ∈ w.zip (turned w) := fun q hq => by rw [← hd]; exact List.mem_append_left _ hq
    have hdl : done.length ≤ 6 := by
      have := congrArg List.length hd
      rw [List.length_append] at this
      omega
    have b1 := hpow done hdl fun q hq => hzb q (hdm q hq)
    have b2 : (pl (pl a p.1) p.2).natAbs.log2 < 1920 := log_lt (by
      have := hzb p hp
      have e4 : ((10 : Nat) ^ 70) < 2 ^ 1920 := by decide +kernel
      omega)
    refine ⟨_, asg_2, ?_⟩
    have l1 := ha.at_ h1.1 h1.2
    refine st_asg (d := .int (done.foldl (fun acc p => acc * pl (pl a p.1) p.2) 1 * pl (pl a p.1) p.2)) (S1 := S) (ev_bin (ev_var rfl) (by array_mem_dec) (q_mul (.inr (by omega)))) asg_nm ?_
    refine st_fgt (st_nil (goes ⟨?_, rfl⟩))
    rw [List.foldl_append]; rfl
  · exact st_ret (ev_var rfl) (end_same rfl)
theorem prod_bd {a : List (List Int)} {n : Nat} {w : List Int} {B : Nat} (ha : Sz n a) (hB : 1 ≤ B) (hB2 : B < 10 ^ 70) (hbd : ∀ row ∈ a, ∀ x ∈ row, x.natAbs ≤ B) (hw : ∀ x ∈ w, 0 ≤ x ∧ x < n) (hl : w.length ≤ 6) : (prodR a w).natAbs.log2 < 1920 := log_lt (by
  have la := ha.len
  have hzl : (w.zip (turned w)).length ≤ 6 := by rw [List.length_zip]; omega
  have e1 := foldl_bd hB (w.zip (turned w)) 1 fun p hp => by
    obtain ⟨p1, p2⟩ := p
    have := List.of_mem_zip hp
    have h1 := hw _ this.1
    have h2 := hw _ (turned_mem this.2)
    exact hbd _ (pl_mem h1.1 (by rw [la]; exact h1.2)) _ (pl_mem h2.1 (by rw [ha.at_ h1.1 h1.2]; exact h2.2))
  have e2 : B ^ (w.zip (turned w)).length ≤ B ^ 6 := Nat.pow_le_pow_right hB hzl
  have e3 : B ^ 6 < (10 ^ 70) ^ 6 := Nat.pow_lt_pow_left hB2 (by decide)
  have e4 : ((10 : Nat) ^ 70) ^ 6 < 2 ^ 1920 := by decide +kernel
  have e5 : (1 : Int).natAbs = 1 := rfl
  rw [e5, Nat.one_mul] at e1
  unfold prodR
  omega)
theorem products_eq {a : List (List Int)} {n : Nat} {w : List Int} {B : Nat} {S : Store} (ha : Sz n a) (hn : n ≤ 6) (hB : 1 ≤ B) (hB2 : B < 10 ^ 70) (hbd : ∀ row ∈ a, ∀ x ∈ row, x.natAbs ≤ B) (hw : ∀ x ∈ w, 0 ≤ x ∧ x < n) (hl : w.length ≤ 6) :
    s_p_products [WT a, TI w] S = .ok (.tup [.int (prodR a w), .int (prodR a w.reverse)]) S := by
  refine fn_eq rfl ?_
  show Ends false S _ (exs [s_p_product] b_p_products [some (WT a), some (TI w)] S)
  have h1 := prod_eq (S := S) rfl ha hn hB hB2 hbd hw hl
  have h2 := prod_eq (S := S) (w := w.reverse) rfl ha hn hB hB2 hbd (fun x hx => hw x (List.mem_reverse.mp hx)) (by rw [List.length_reverse]; exact hl)
  have e2 : D.tup (w.map .int).reverse = TI w.reverse := by rw [← List.map_reverse]
  refine st_ret (ev_tup (evs_cons (ev_call (evs_cons (ev_var rfl) (evs_cons (ev_var rfl) evs_nil)) rfl h1) (evs_cons (ev_call (evs_cons (ev_var rfl) (evs_cons (ev_rvt (ev_var rfl) (q_rvt.trans (congrArg some e2))) evs_nil)) rfl h2) evs_nil))) (end_same rfl)
/-! ### in another order -/
theorem agree_dk {cs cs' : List Int} {k k' : Int} {T X : Store} {n : Nat} (hn : 0 < n) : agree n (RR.dk cs k T) (RR.dk cs' k' (T ++ X)) := RR.agree_dk hn
theorem end_dkL {cs cs' : List Int} {k k' : Int} {T : Store} {xs : List D} (h : noRefs xs = true) : exitR false (RR.dk cs k T) (.ret (.ref (T.length + 2)) (RR.dk cs' k' (T ++ [.lst xs]))) = .ok (.lst xs) (RR.dk cs' k' T) := by
  show fin false (RR.dk cs k T) (.ref (T.length + 2)) (RR.dk cs' k' (T ++ [.lst xs])) = _
  unfold fin
  rw [if_neg Bool.false_ne_true, if_pos (agree_dk (by rw [RR.dk_len]; omega)), RR.dk_len]
  have ea : (RR.dk cs' k' (T ++ [.lst xs]))[T.length + 2]? = some (.lst xs) := by
    show (T ++ [Ob.lst xs])[T.length]? = _
    exact app_at
  have e : fzD (RR.dk cs' k' (T ++ [.lst xs])) (T.length + 2) (.ref (T.length + 2)) = some (.lst xs) := by
    unfold fzD
    rw [if_neg (by simp [noRef])]
    show (if T.length + 2 < T.length + 2 then some (D.ref (T.length + 2)) else obFz (T.length + 2) _ (RR.dk cs' k' (T ++ [.lst xs]))[T.length + 2]?) = _
    rw [if_neg (by omega), ea]
    show (fzsR (T.length + 2) _ xs).map D.lst = _
    rw [RR.fz_all xs h]
    rfl
  rw [e]
  show R.ok _ _ = _
  congr 1
  show (RR.dk cs' k' (T ++ [.lst xs])).take (T.length + 2) = RR.dk cs' k' T
  unfold RR.dk
  simp
theorem dk_app {cs : List Int} {k : Int} {T : Store} {o : Ob} : RR.dk cs k T ++ [o] = RR.dk cs k (T ++ [o]) := rfl
theorem dk_set {cs : List Int} {k : Int} {T : Store} {o o' : Ob} : (RR.dk cs k (T ++ [o])).set (T.length + 2) o' = RR.dk cs k (T ++ [o']) := by
  show Ob.lst (cs.map .int) :: .lst [.ref 0, .int 0, .int k] :: (T ++ [o]).set T.length o' = _
  rw [app_set]; rfl
theorem dk_at {cs : List Int} {k : Int} {T : Store} {o : Ob} : (RR.dk cs k (T ++ [o]))[T.length + 2]? = some o := by
  show (T ++ [o])[T.length]? = _
  exact app_at
theorem mixed_ok {α : Type} [DecidableEq α] [Inhabited α] {f : α → D} {q : Nat} (P : Py q f) (hq : q ≤ 60) {cs : List Int} {k : Int} {T : Store} {xs : List α} (hl : xs.length ≤ 1000000) (hr : ∀ x, noRef (f x) = true) (hk0 : 0 ≤ k) (hk : k ≤ 100000000000) :
    ∃ (ys : List α) (cs' : List Int), s_mixed [.ref 1, .lst (xs.map f)] (RR.dk cs k T) = .ok (.lst (ys.map f)) (RR.dk cs' (k + xs.length) T) ∧ ys.Perm xs := by
  refine fn_go (Q := fun o => ∃ (ys : List α) (cs' : List Int), o = .ok (.lst (ys.map f)) (RR.dk cs' (k + xs.length) T) ∧ ys.Perm xs) rfl ?_
  show Ends false (RR.dk cs k T) _ (exs [s_draw] b_mixed [some (.ref 1), some (.lst (xs.map f)), none, none, none] (RR.dk cs k T))
  refine st_asg (d := .tup [.ref (T.length + 2), .lst (xs.map f)]) (S1 := RR.dk cs k (T ++ [.lst []])) ?_ asg_2 ?_
  · exact ev_tup (evs_cons (ev_frr (evl_dis evs_nil)) (evs_cons (ev_frv (evl_ofl (ev_var rfl) rfl)) evs_nil))
  refine st_whl (fun m r S => ∃ done rest c, r = [some (.ref 1), some (.lst (xs.map f)), some (.ref (T.length + 2)), some (.lst (rest.map f)), none] ∧ S = RR.dk c (k + done.length) (T ++ [.lst (done.map f)]) ∧ (done ++ rest).Perm xs ∧ m = rest.length) xs.length ⟨[], xs, cs, rfl, by simp, List.Perm.refl _, rfl⟩ ?_
  rintro m _ _ ⟨done, rest, c, rfl, rfl, hp, rfl⟩
  have hpl := hp.length_eq
  rw [List.length_append] at hpl
  refine ⟨!decide (rest = []), RR.dk c (k + done.length) (T ++ [.lst (done.map f)]), ev_cmp (ev_var rfl) (ev_frv (evl_dis evs_nil)) (P.q_neNil (by omega)), fun hv => ?_, fun hv => ?_⟩
  · have hne : rest ≠ [] := by simpa using hv
    have hlen : 0 < rest.length := List.length_pos_iff.mpr hne
    obtain ⟨i, c', e1, i0, i1, _⟩ := RR.draw_ok (cs := c) (k := k + done.length) (T := T ++ [.lst (done.map f)]) (m := rest.length) (by omega) (by omega) (by omega) (by omega)
    refine st_asg (d := .int i) (ev_call (evs_cons (ev_var rfl) (evs_cons (ev_blt (evs_cons (ev_var rfl) evs_nil) q_lenLM) evs_nil)) rfl e1) asg_nm ?_
    refine st_appR (n := T.length + 2) (xs := done.map f) (d := f (pl rest i)) (ev_var rfl) (ev_ix (ev_var rfl) (ev_var rfl) (q_ixL i0 i1)) dk_at (by rw [List.length_map]; omega) ?_
    rw [dk_set]
    have e3 : ∀ {r : Env} {S : Store}, look r 3 = some (.lst (rest.map f)) → look r 4 = some (.int i) → ev [s_draw] (E.bin Bop.add (E.slc (E.var 3) E.non (E.var 4)) (E.slc (E.var 3) (E.bin Bop.add (E.var 4) (E.int (1))) E.non)) r S = .ok (.lst ((rest.eraseIdx i.toNat).map f)) S := fun h3 h4 => by
      refine ev_bin (ev_toL (ev_var h3) rfl (ev_var h4) i0) (ev_fromL (ev_var h3) rfl (ev_bin (ev_var h4) ev_int q_add) (by omega)) ?_
      rw [q_addL (by rw [List.length_take, List.length_drop, List.length_map]; omega), ← List.map_take, ← List.map_drop, ← List.map_append, List.eraseIdx_eq_take_drop_succ, show (i + 1).toNat = i.toNat + 1 by omega]
    refine st_asg (e3 rfl rfl) asg_nm (st_fgt (st_nil (goes ⟨rest.length - 1, by omega, done ++ [pl rest i], rest.eraseIdx i.toNat, c', rfl, ?_, ?_, ?_⟩)))
    · rw [List.map_append, List.length_append, List.length_singleton, Int.natCast_add, ← Int.add_assoc]; rfl
    · refine List.Perm.trans ?_ hp
      rw [List.append_assoc]
      refine List.Perm.append_left _ ?_
      have hi : i.toNat < rest.length := by omega
      have := pl_some (xs := rest) i0 i1
      rw [List.getElem?_eq_getElem hi] at this
      rw [← Option.some.inj this]
      rw [List.eraseIdx_eq_take_drop_succ]
      refine List.Perm.trans (List.perm_middle (l₁ := rest.take i.toNat) (l₂ := rest.drop (i.toNat + 1)) (a := rest[i.toNat])).symm ?_
      rw [← List.drop_eq_getElem_cons hi, List.take_append_drop]
    · rw [List.length_eraseIdx, if_pos (by omega)]
  · have hnil : rest = [] := by simpa using hv
    subst hnil
    rw [List.append_nil] at hp
    have hdl : done.length = xs.length := hp.length_eq
    refine st_ret (ev_var rfl) ?_
    rw [hdl]
    exact ⟨done, c, end_dkL (noRefs_map hr _), hp⟩
end RR.N

set_option Elab.async false
set_option linter.all false
set_option maxRecDepth 100000
set_option maxHeartbeats 1000000
/-! values of all kinds; what bends them -/
namespace RR.N
open PySem L2
set_option hygiene false in
local macro_rules
  | `(tactic| sizeOf_list_dec) => `(tactic| first | with_reducible assumption | omega | (exact sm_of (by omega) (by omega)) | (simp only [List.length_map, List.length_append, List.length_cons, List.length_nil, rg_len]; omega))
set_option hygiene false in
local macro_rules
  | `(tactic| array_get_dec) => `(tactic| first
    | with_reducible first
      | exact q_add | exact q_sub | exact q_lt | exact q_le | exact q_gt | exact q_ge | exact q_eqi | exact q_nei | exact q_trb
      | exact q_eqp | exact q_ixp0 | exact q_ixp1
      | exact q_lenM | exact q_lenLM | exact q_lenT | exact q_lenL | exact q_tupT | exact q_tupL | exact q_sum | exact q_all | exact q_any | exact q_int | exact q_intb | exact q_mn2 | exact q_mx2 | exact q_abs
      | exact q_zipT | exact q_zipL | exact q_enmL | exact q_enmT | exact q_seqT | exact q_seqL
    | ((with_reducible apply q_mulA) <;> omega)
    | ((with_reducible apply q_mulB) <;> omega)
    | ((with_reducible apply q_pow) <;> decide)
    | ((with_reducible apply q_rg1) <;> sizeOf_list_dec) | ((with_reducible apply q_rg2) <;> sizeOf_list_dec)
    | ((with_reducible apply q_ixT) <;> sizeOf_list_dec) | ((with_reducible apply q_ixL) <;> sizeOf_list_dec))
set_option hygiene false in
local macro_rules
  | `(tactic| array_mem_dec) => `(tactic| first
    | with_reducible first
      | exact ev_int | exact ev_bl | exact ev_non | exact ev_str | exact ev_con | exact evs_nil
      | exact g0 | exact g1 | exact g2 | exact g3 | exact g4 | exact g5 | exact g6 | exact g7 | exact g8 | exact g9
    | ((with_reducible apply ev_varQ); exact ev_var rfl)
    | ((with_reducible apply evs_cons) <;> array_mem_dec)
    | ((with_reducible apply ev_bin) <;> array_mem_dec)
    | ((with_reducible apply ev_ix) <;> array_mem_dec)
    | ((with_reducible apply ev_cmp) <;> array_mem_dec)
    | ((with_reducible apply ev_tup) <;> array_mem_dec)
    | ((with_reducible apply ev_tupQ); apply ev_tup <;> array_mem_dec)
    | ((with_reducible apply ev_blt) <;> array_mem_dec)
    | ((with_reducible apply ev_frv) <;> array_mem_dec)
    | ((with_reducible apply ev_frr) <;> array_mem_dec)
    | ((with_reducible apply evl_dis) <;> array_mem_dec)
    | ((with_reducible apply ev_call) <;> array_mem_dec)
    | ((with_reducible apply itm_seq) <;> array_mem_dec)
    | ((with_reducible apply itm_rng) <;> array_mem_dec)
    | ((with_reducible apply itm_enm) <;> array_mem_dec)
    | ((with_reducible apply itm_zp) <;> array_mem_dec)
    | ((with_reducible apply evl_cmp0) <;> array_mem_dec)
    | ((with_reducible apply evl_cmp) <;> array_mem_dec)
    | ((with_reducible apply cnd_one) <;> array_mem_dec)
    | with_reducible first | exact asg_nm | exact asg_2 | exact asg_3 | exact asg_n2 | exact asg_2n
    | ((with_reducible apply ev_an) <;> array_mem_dec)
    | ((with_reducible apply ev_or) <;> array_mem_dec)
    | ((with_reducible apply ev_nt) <;> array_mem_dec)
    | ((with_reducible apply ev_neg) <;> array_mem_dec)
    | ((with_reducible apply ev_iteI) <;> array_mem_dec)
    | ((with_reducible apply ev_ite) <;> array_mem_dec)
    | array_get_dec
    | (intro _ <;> array_mem_dec)
    | sizeOf_list_dec)
/-- a text that can be told -/
def Sh (x : Str) : Prop := (x.cps.toList.all fun c => decide (c < 16 ^ 8)) = true ∧ sok (PyData.str x).shown = true ∧ x.length ≤ 100
/-- values without refs: so long, so deep -/
inductive Uv (n : Nat) : Nat → D → Prop
  | non {k : Nat} : Uv n k .non
  | bl {k : Nat} {b : Bool} : Uv n k (.bl b)
  | int {k : Nat} {i : Int} : i.natAbs < 10 ^ 70 → Uv n k (.int i)
  | str {k : Nat} {x : Str} : Sh x → Uv n k (.str x)
  | dct {k : Nat} : Uv n (k + 1) (.dct [] [])
  | tup {k : Nat} {xs : List D} : xs.length ≤ n → (∀ x ∈ xs, Uv n k x) → Uv n (k + 1) (.tup xs)
  | lst {k : Nat} {xs : List D} : xs.length ≤ n → (∀ x ∈ xs, Uv n k x) → Uv n (k + 1) (.lst xs)
theorem Uv.mono {n n' : Nat} (hn : n ≤ n') : ∀ {k : Nat} {d : D}, Uv n k d → ∀ {k' : Nat}, k ≤ k' → Uv n' k' d := by
  intro k d h
  induction h with
  | non => intros; exact .non
  | bl => intros; exact .bl
  | int h => intros; exact .int h
  | str h => intros; exact .str h
  | dct =>
    intro k' hk
    obtain ⟨j, rfl⟩ : ∃ j, k' = j + 1 := ⟨k' - 1, by omega⟩
    exact .dct
  | tup h _ ih =>
    intro k' hk
    obtain ⟨j, rfl⟩ : ∃ j, k' = j + 1 := ⟨k' - 1, by omega⟩
    exact .tup (by omega) fun x hx => ih x hx (by omega)
  | lst h _ ih =>
    intro k' hk
    obtain ⟨j, rfl⟩ : ∃ j, k' = j + 1 := ⟨k' - 1, by omega⟩
    exact .lst (by omega) fun x hx => ih x hx (by omega)
theorem noRefs_of : ∀ {xs : List D}, (∀ x ∈ xs, noRef x = true) → noRefs xs = true
  | [], _ => rfl
  | x :: xs, h => by rw [noRefs, h x List.mem_cons_self, noRefs_of fun y hy => h y (List.mem_cons_of_mem _ hy)]; rfl
theorem Uv.noRef {n k : Nat} {d : D} (h : Uv n k d) : RR.noRef d = true := by
  induction h with
  | non => rfl
  | bl => rfl
  | int => rfl
  | str => rfl
  | dct => rfl
  | tup _ _ ih => exact noRefs_of ih
  | lst _ _ ih => exact noRefs_of ih
def wu (n : Nat) : Nat → Nat
  | 0 => 1921
  | k + 1 => 1921 + n * (wu n k + 2)
theorem wu_ge (n k : Nat) : 1921 ≤ wu n k := by
  cases k with
  | zero => exact Nat.le_refl _
  | succ k => exact Nat.le_add_right _ _
theorem Uv.ft {n k : Nat} {d : D} (h : Uv n k d) : Ft (wu n k) k d := by
  induction h with
  | non => exact Ft.non.mono (Nat.le_trans (by decide) (wu_ge _ _)) (by omega)
  | bl => exact Ft.bl.mono (Nat.le_trans (by decide) (wu_ge _ _)) (by omega)
  | int h => exact (Ft.int (log_lt (Nat.lt_trans h (by decide +kernel)))).mono (wu_ge _ _) (by omega)
  | @str k x h =>
    refine (Ft.str h.1 h.2.1).mono ?_ (by omega)
    have := wu_ge n k
    have := h.2.2
    omega
  | dct => exact Ft.dct.mono (Nat.le_trans (by decide) (wu_ge _ _)) (by omega)
  | tup h _ ih => exact (Ft.tup ih h).mono (by show _ ≤ 1921 + n * (wu n _ + 2); omega) (by omega)
  | lst h _ ih => exact (Ft.lst ih h).mono (by show _ ≤ 1921 + n * (wu n _ + 2); omega) (by omega)
theorem sh_web : Sh (Str.ofString "web") := ⟨by decide +kernel, by decide +kernel, by decide +kernel⟩
theorem sh_0 : Sh (Str.ofString "0") := ⟨by decide +kernel, by decide +kernel, by decide +kernel⟩
theorem sh_e : Sh (Str.ofString "") := ⟨by decide +kernel, by decide +kernel, by decide +kernel⟩
def isT : D → Bool
  | .tup _ => true
  | _ => false
theorem isi_tup {S : Store} {d : D} : isiD S d .tup = isT d := by cases d <;> rfl
theorem isT_of {d : D} (h : isT d = true) : ∃ xs, d = .tup xs := by
  cases d <;> first | exact ⟨_, rfl⟩ | cases h
/-- a pick out of any values -/
theorem pick_any {cs : List Int} {k : Int} {T : Store} {xs : List D} (hx : xs ≠ []) (hl : xs.length < 1073741824) (hr : ∀ x ∈ xs, noRef x = true) (hk0 : 0 ≤ k) (hk : k ≤ 1000000000000) :
    ∃ x cs', x ∈ xs ∧ s_pick [.ref 1, .lst xs] (RR.dk cs k T) = .ok x (RR.dk cs' (k + 1) T) := by
  obtain ⟨y, cs', hy, e⟩ := RR.pick_ok (cs := cs) (k := k) (T := T) hx hl hr hk0 hk
  exact ⟨y, cs', hy, e⟩
def odds : List D := [.non, .bl true, .bl false, .int (-1), .int 0, .int 1, .int (10 ^ (6 : Int).toNat + 1), .int (10 ^ (30 : Int).toNat), .str (Str.ofString "0"), .str (Str.ofString ""), .tup [], .lst [], .tup [.int 0], .dct [] []]
theorem odds_uv {n : Nat} (hn : 1 ≤ n) : ∀ d ∈ odds, Uv n 1 d := by
  intro d hd
  unfold odds at hd
  simp only [List.mem_cons, List.not_mem_nil, or_false] at hd
  rcases hd with rfl | rfl | rfl | rfl | rfl | rfl | rfl | rfl | rfl | rfl | rfl | rfl | rfl | rfl
  · exact .non
  · exact .bl
  · exact .bl
  · exact .int (by decide)
  · exact .int (by decide)
  · exact .int (by decide)
  · exact .int (by decide)
  · exact .int (by decide)
  · exact .str sh_0
  · exact .str sh_e
  · exact .tup (by simp) (fun _ h => nomatch h)
  · exact .lst (by simp) (fun _ h => nomatch h)
  · exact .tup (by simp; omega) (fun x h => by rw [List.mem_singleton.mp h]; exact .int (by decide))
  · exact .dct
theorem cut_end {xs : List D} {k : Nat} (hk : 0 < k) : cutL xs (some (-(k : Int))) none = xs.drop (xs.length - k) := by
  unfold cutL HT.sIx
  show List.take (xs.length - (if -(k : Int) < 0 then _ else _)) (xs.drop (if -(k : Int) < 0 then _ else _)) = _
  rw [if_pos (by omega)]
  have e : (-(k : Int) + (xs.length : Int)).toNat = xs.length - k := by omega
  rw [e, List.take_of_length_le (by rw [List.length_drop]; exact Nat.le_refl _)]
theorem ix_any {S : Store} {xs : List D} {i : Int} (h0 : 0 ≤ i) (h1 : i < xs.length) : ∃ x, x ∈ xs ∧ xs[i.toNat]? = some x ∧ ixD S (.tup xs) (.int i) = some x := by
  have hl : i.toNat < xs.length := by omega
  refine ⟨xs[i.toNat], List.getElem_mem hl, List.getElem?_eq_getElem hl, ?_⟩
  show atI xs i = _
  unfold atI ixN
  rw [if_pos h0, if_pos h1]
  exact List.getElem?_eq_getElem hl
section
variable {G : List Fn} {r : Env} {S S1 S2 : Store} {a b e : E} {q : Bool} {ss body : Sms} {P : Fl → Prop}
theorem ev_orF (h : ev G a r S = .ok (.bl false) S1) (h2 : ev G b r S1 = .ok (.bl q) S2) : ev G (.or a b) r S = .ok (.bl q) S2 := by
  rw [ev, h]; exact h2
theorem ev_orT (h : ev G a r S = .ok (.bl true) S1) : ev G (.or a b) r S = .ok (.bl true) S1 := by
  rw [ev, h]; rfl
/-- .. and leaves the def -/
def Stop (P : Fl → Prop) (o : Fl) : Prop := P o ∧ (match o with | .next _ _ => False | _ => True)
theorem st_ifS {v : Bool} (h : ev G e r S = .ok (.bl v) S1) (h1 : v = true → Stop P (exs G body r S1)) (h2 : v = false → P (exs G ss r S1)) : P (exs G (.cons (.iff e body .nil) ss) r S) :=
  st_ifr h (fun hv => ⟨_, rfl, (h1 hv).1, (h1 hv).2⟩) h2
end
/-! ### two-for comprehensions; loops that may leave -/
section
variable {α β : Type} {G : List Fn} {r : Env} {S : Store} {e : E} {t1 t2 : Tg} {it1 it2 : It} {own1 : List Nat} {own : List (Str × Nat)} {xs : List α} {f : α → D} {r1 : α → Env} {ys : α → List β} {g : β → D} {r2 : α → β → Env} {h : α → β → D}
theorem cmpT_map {a1 : D → Env → Store → R Env} {i2 : Env → Store → R (List D × Gd)} {a2 : D → Env → Store → R Env} {cd : Env → Store → R Bool} {el : Env → Store → R D} : ∀ {xs : List α}, (∀ x ∈ xs, a1 (f x) r S = .ok (r1 x) S) → (∀ x ∈ xs, i2 (r1 x) S = .ok ((ys x).map g, none) S) →
    (∀ x ∈ xs, ∀ y ∈ ys x, a2 (g y) (wipeN (r1 x) own1) S = .ok (r2 x y) S) → (∀ x ∈ xs, ∀ y ∈ ys x, cd (r2 x y) S = .ok true S) → (∀ x ∈ xs, ∀ y ∈ ys x, el (r2 x y) S = .ok (h x y) S) →
    cmpT a1 i2 a2 cd el own1 none r (xs.map f) S = .ok (xs.flatMap fun x => (ys x).map (h x)) S
  | [], _, _, _, _, _ => by
    show cmpT _ _ _ _ _ _ _ _ [] S = _
    unfold cmpT
    exact if_pos trivial
  | x :: xs, h1, h2, h3, h4, h5 => by
    have hb : ∀ {α β : Type} (a : α) (S : Store) (k : α → Store → R β), (R.ok a S).bnd k = k a S := fun _ _ _ => rfl
    have ih := cmpT_map (xs := xs) (a1 := a1) (i2 := i2) (a2 := a2) (cd := cd) (el := el) (fun y hy => h1 y (List.mem_cons_of_mem _ hy)) (fun y hy => h2 y (List.mem_cons_of_mem _ hy)) (fun y hy => h3 y (List.mem_cons_of_mem _ hy)) (fun y hy => h4 y (List.mem_cons_of_mem _ hy)) (fun y hy => h5 y (List.mem_cons_of_mem _ hy))
    have m := List.mem_cons_self (a := x) (l := xs)
    have c := cmpS_map (g := none) (S := S) (r := wipeN (r1 x) own1) (p := fun _ => true) (xs := ys x) (f := g) (r1 := r2 x) (h := h x) trivial (at_ := a2) (cd := cd) (el := el) (h3 x m) (h4 x m) fun y hy _ => h5 x m y hy
    have e : (ys x).filter (fun _ => true) = ys x := List.filter_eq_self.mpr fun _ _ => rfl
    rw [e] at c
    rw [List.map_cons]
    unfold cmpT
    rw [if_pos (show gdOk none S from trivial), h1 x m, hb, h2 x m, hb, c, hb, ih]
    rfl
theorem evl_cm20 (hi : itm G it1 r S = .ok (xs.map f, none) S) (ha : ∀ x ∈ xs, asg G t1 (f x) (wipeE r own) S = .ok (r1 x) S) (h2 : ∀ x ∈ xs, itm G it2 (r1 x) S = .ok ((ys x).map g, none) S)
    (h3 : ∀ x ∈ xs, ∀ y ∈ ys x, asg G t2 (g y) (wipeN (r1 x) own1) S = .ok (r2 x y) S) (h5 : ∀ x ∈ xs, ∀ y ∈ ys x, ev G e (r2 x y) S = .ok (h x y) S) (hl : (xs.flatMap fun x => (ys x).map (h x)).length ≤ 16777216) :
    evl G (.cm2 e t1 it1 own1 t2 it2 .nil own) r S = .ok (xs.flatMap fun x => (ys x).map (h x)) S := by
  rw [evl, hi]
  have c := cmpT_map (own1 := own1) (S := S) (r := wipeE r own) (f := f) (g := g) (r1 := r1) (r2 := r2) (ys := ys) (h := h) (a1 := fun x r S => asg G t1 x r S) (i2 := fun r S => itm G it2 r S) (a2 := fun x r S => asg G t2 x r S) (cd := fun r S => cnd G .nil r S) (el := fun r S => ev G e r S) ha h2 h3 (fun _ _ _ _ => cnd_nil) h5
  show ((cmpT _ _ _ _ _ _ _ _ _ _).nx).bnd _ = _
  rw [c]
  exact if_pos hl
end
/-- a loop that leaves the def at the first item that is bad -/
theorem st_forX {α : Type} {G : List Fn} {t : Tg} {it : It} {b ss : Sms} {r : Env} {S S1 : Store} {P : Fl → Prop} {f : α → D} {xs : List α} (bad : α → Bool) (I : Env → Store → Prop) (h : itm G it r S = .ok (xs.map f, none) S1) (h0 : I r S1)
    (ht : ∀ x ∈ xs, ∀ r S, I r S → ∃ r1 S1, asg G t (f x) r S = .ok r1 S1 ∧ (bad x = false → Goes I (exs G b r1 S1)) ∧ (bad x = true → ∃ d S2, exs G b r1 S1 = .ret d S2 ∧ P (.ret d S2)))
    (hk : (∀ x ∈ xs, bad x = false) → ∀ r S, I r S → P (exs G ss r S)) : P (exs G (.cons (.for_ t it b) ss) r S) := by
  have key : ∀ (rest : List α) (r : Env) (S : Store), (∀ x ∈ rest, x ∈ xs) → I r S → (∃ d S2, forS (fun x r S => asg G t x r S) (fun r S => exs G b r S) none (rest.map f) r S = .ret d S2 ∧ P (.ret d S2)) ∨
      ((∀ x ∈ rest, bad x = false) ∧ ∃ r' S', forS (fun x r S => asg G t x r S) (fun r S => exs G b r S) none (rest.map f) r S = .next r' S' ∧ I r' S') := by
    intro rest
    induction rest with
    | nil =>
      intro r S _ hI
      refine .inr ⟨(fun _ h => nomatch h), r, S, ?_, hI⟩
      show forS _ _ _ [] _ _ = _
      unfold forS
      exact if_pos trivial
    | cons x rest ih =>
      intro r S hm hI
      obtain ⟨r1, S1, e1, k1, k2⟩ := ht x (hm x List.mem_cons_self) r S hI
      have step : ∀ o : Fl, (match exs G b r1 S1 with
          | .next r2 S2 => forS (fun x r S => asg G t x r S) (fun r S => exs G b r S) none (rest.map f) r2 S2
          | .con r2 S2 => forS (fun x r S => asg G t x r S) (fun r S => exs G b r S) none (rest.map f) r2 S2
          | .brk r2 S2 => .next r2 S2
          | o => o) = o → forS (fun x r S => asg G t x r S) (fun r S => exs G b r S) none ((x :: rest).map f) r S = o := fun o ho => by
        rw [List.map_cons]
        unfold forS
        rw [if_pos (show gdOk none S from trivial), e1]
        exact ho
      cases hb : bad x with
      | true =>
        obtain ⟨d, S2, e2, p⟩ := k2 hb
        exact .inl ⟨d, S2, step _ (by rw [e2]), p⟩
      | false =>
        obtain ⟨r2, S2, e2, i2⟩ := k1 hb
        rcases ih r2 S2 (fun y hy => hm y (List.mem_cons_of_mem _ hy)) i2 with ⟨d, S3, e3, p⟩ | ⟨q1, r3, S3, e3, i3⟩
        · exact .inl ⟨d, S3, step _ (by rcases e2 with e2 | e2 <;> (rw [e2]; exact e3)), p⟩
        · exact .inr ⟨fun y hy => (List.mem_cons.mp hy).elim (fun e => by rw [e]; exact hb) (q1 y), r3, S3, step _ (by rcases e2 with e2 | e2 <;> (rw [e2]; exact e3)), i3⟩
  rcases key xs r S1 (fun _ h => h) h0 with ⟨d, S2, e, p⟩ | ⟨q, r', S', e, i⟩
  · rw [exs, ex, h]
    show P (match forS _ _ _ _ _ _ with | .next r1 S1 => exs G ss r1 S1 | o => o)
    rw [e]; exact p
  · refine st_of (r1 := r') (S1 := S') ?_ (hk q r' S' i)
    rw [ex, h]
    exact e
theorem q_neNilD {S : Store} {xs : List D} : cmpD S .ne (.lst xs) (.lst []) = some (!xs.isEmpty) := by
  cases xs with
  | nil => exact pyI.q_neNil (S := S) (xs := []) (by omega)
  | cons x xs => exact q_neE
def bentWays (v p : D) : List D := p :: (match v with
  | .tup xs => [.lst xs, .tup (xs ++ xs.drop (xs.length - 1)), .tup (xs.drop 1), .tup xs.reverse]
  | _ => [])
theorem bentWays_uv {n k : Nat} {v p : D} (hv : Uv n k v) (hp : Uv (n + 1) (k + 1) p) : ∀ w ∈ bentWays v p, Uv (n + 1) (k + 1) w := by
  intro w hw
  rcases List.mem_cons.mp hw with rfl | hw
  · exact hp
  · cases hv with
    | @tup k xs h1 h2 =>
      have h3 : ∀ x ∈ xs, Uv (n + 1) k x := fun x hx => (h2 x hx).mono (by omega) (by omega)
      have up : ∀ {ys : List D}, ys.length ≤ n + 1 → (∀ y ∈ ys, y ∈ xs) → Uv (n + 1) (k + 1 + 1) (.tup ys) := fun hl hm => (Uv.tup hl fun y hy => h3 y (hm y hy)).mono (Nat.le_refl _) (by omega)
      simp only [List.mem_cons, List.not_mem_nil, or_false] at hw
      rcases hw with rfl | rfl | rfl | rfl
      · exact (Uv.lst (by omega) h3).mono (Nat.le_refl _) (by omega)
      · refine up (by rw [List.length_append, List.length_drop]; omega) fun y hy => (List.mem_append.mp hy).elim id fun z => List.mem_of_mem_drop z
      · exact up (by rw [List.length_drop]; omega) fun y hy => List.mem_of_mem_drop hy
      · exact up (by rw [List.length_reverse]; omega) fun y hy => List.mem_reverse.mp hy
    | _ => exact nomatch hw
/-- a value with a part otherwise -/
theorem bent_ok {T : Store} : ∀ (m : Nat) {n k : Nat} {v : D} {cs : List Int} {j : Int} {deep : Int}, Uv n k v → 1 ≤ n → n ≤ 1000 → 0 ≤ deep → deep < m → 0 ≤ j → j + 4 * m ≤ 100000000000 →
    ∃ d c' j', n_bent m [.ref 1, v, .int deep] (RR.dk cs j T) = .ok d (RR.dk c' j' T) ∧ Uv (n + 1) (k + 1) d ∧ j ≤ j' ∧ j' ≤ j + 4 * m
  | 0, _, _, _, _, _, _, _, _, _, h0, h1, _, _ => by omega
  | m + 1, n, k, v, cs, j, deep, hv, n0, n1, h0, h1, j0, j1 => by
    refine fn_go (Q := fun o => ∃ d c' j', o = .ok d (RR.dk c' j' T) ∧ Uv (n + 1) (k + 1) d ∧ j ≤ j' ∧ j' ≤ j + 4 * ((m + 1 : Nat) : Int)) rfl ?_
    show Ends false (RR.dk cs j T) _ (exs [s_draw, s_pick, n_bent m] b_bent [some (.ref 1), some v, some (.int deep), none, none, none] (RR.dk cs j T))
    have eodd : ∀ {r : Env} {S : Store}, ev [s_draw, s_pick, n_bent m] (E.fr false (L.dis (Es.cons E.non (Es.cons (E.bl true) (Es.cons (E.bl false) (Es.cons (E.neg (E.int (1))) (Es.cons (E.int (0)) (Es.cons (E.int (1)) (Es.cons (E.bin Bop.add (E.bin Bop.pow (E.int (10)) (E.int (6))) (E.int (1))) (Es.cons (E.bin Bop.pow (E.int (10)) (E.int (30))) (Es.cons (E.str (PySem.Str.ofString "0")) (Es.cons (E.str (PySem.Str.ofString "")) (Es.cons (E.tup Es.nil) (Es.cons (E.fr false (L.dis Es.nil)) (Es.cons (E.tup (Es.cons (E.int (0)) Es.nil)) (Es.cons (E.dct [] Es.nil) Es.nil)))))))))))))))) r S = .ok (.lst odds) S := fun {r S} => by
      refine ev_frv (evl_dis (evs_cons ev_non (evs_cons ev_bl (evs_cons ev_bl (evs_cons (ev_neg ev_int) (evs_cons ev_int (evs_cons ev_int (evs_cons (ev_bin (ev_bin ev_int ev_int (q_pow ⟨by decide, by decide, by decide⟩)) ev_int q_add) (evs_cons (ev_bin ev_int ev_int (q_pow ⟨by decide, by decide, by decide⟩)) (evs_cons ev_str (evs_cons ev_str (evs_cons (ev_tup evs_nil) (evs_cons (ev_frv (evl_dis evs_nil)) (evs_cons (ev_tup (evs_cons ev_int evs_nil)) (evs_cons ?_ evs_nil)))))))))))))))
      rw [ev, evs_nil]
      show (if ([] : List Str).length = ([] : List D).length ∧ ([] : List Str).length ≤ 1 then R.ok (D.dct [] []) S else .bad) = _
      exact if_pos ⟨rfl, by decide⟩
    refine st_asg eodd asg_nm ?_
    have here : ∀ {c : List Int} {j2 : Int}, j ≤ j2 → j2 ≤ j + 1 → Stop (Ends false (RR.dk cs j T) (fun o => ∃ d c' j', o = .ok d (RR.dk c' j' T) ∧ Uv (n + 1) (k + 1) d ∧ j ≤ j' ∧ j' ≤ j + 4 * ((m + 1 : Nat) : Int))) (exs [s_draw, s_pick, n_bent m] (Sms.cons (Sm.asg (Tg.nm 5) (E.fr false (L.dis (Es.cons (E.call 1 (Es.cons (E.var 0) (Es.cons (E.var 3) Es.nil))) Es.nil)))) (Sms.cons (Sm.iff (E.isi (E.var 1) Ty.tup) (Sms.cons (Sm.asg (Tg.nm 5) (E.bin Bop.add (E.var 5) (E.fr false (L.dis (Es.cons (E.fr false (L.ofl (E.var 1))) (Es.cons (E.bin Bop.add (E.var 1) (E.slc (E.var 1) (E.neg (E.int (1))) E.non)) (Es.cons (E.slc (E.var 1) (E.int (1)) E.non) (Es.cons (E.rvt false (E.var 1)) Es.nil)))))))) Sms.nil) Sms.nil) (Sms.cons (Sm.ret (E.call 1 (Es.cons (E.var 0) (Es.cons (E.var 5) Es.nil)))) Sms.nil))) [some (.ref 1), some v, some (.int deep), some (.lst odds), none, none] (RR.dk c j2 T)) := by
      intro c j2 g1 g2
      obtain ⟨p, c1, hp, e1⟩ := pick_any (cs := c) (k := j2) (T := T) (xs := odds) (by simp [odds]) (by decide) (fun d hd => (odds_uv (n := 1) (by omega) d hd).noRef) (by omega) (by omega)
      have hpu : Uv (n + 1) (k + 1) p := (odds_uv (n := 1) (by omega) p hp).mono (by omega) (by omega)
      have hw := bentWays_uv hv hpu
      have hwl : (bentWays v p).length ≤ 5 := by
        unfold bentWays
        cases v <;> first | (show (1 : Nat) ≤ 5; decide) | (show (5 : Nat) ≤ 5; decide)
      obtain ⟨d, c2, hd, e2⟩ := pick_any (cs := c1) (k := j2 + 1) (T := T) (xs := bentWays v p) (by simp [bentWays]) (by omega) (fun w h => (hw w h).noRef) (by omega) (by omega)
      refine st_asg (d := .lst [p]) (ev_frv (evl_dis (evs_cons (ev_call (evs_cons (ev_var rfl) (evs_cons (ev_var rfl) evs_nil)) rfl e1) evs_nil))) asg_nm ?_
      refine st_ift (v := isT v) (S1 := RR.dk c1 (j2 + 1) T) (r2 := [some (.ref 1), some v, some (.int deep), some (.lst odds), none, some (.lst (bentWays v p))]) (S2 := RR.dk c1 (j2 + 1) T) ?_ (fun ht => ?_) (fun ht => ?_) ?_
      · rw [← isi_tup (S := RR.dk c1 (j2 + 1) T)]
        exact ev_isi (ev_var rfl)
      · obtain ⟨xs, rfl⟩ := isT_of ht
        have hxl : xs.length ≤ n := by cases hv; assumption
        show EqF _ (exs _ _ _ _)
        refine st_asg (S1 := RR.dk c1 (j2 + 1) T) (ev_bin (ev_var rfl) (ev_frv (evl_dis (evs_cons (ev_frv (evl_ofl (ev_var rfl) rfl)) (evs_cons (ev_bin (ev_var rfl) (ev_slc (ev_var rfl) (bd_int rfl (ev_neg ev_int)) bd_non rfl) (q_addT ?_)) (evs_cons (ev_fromT (ev_var rfl) rfl ev_int (by decide)) (evs_cons (ev_rvt (ev_var rfl) q_rvt) evs_nil)))))) (q_addL (by simp))) asg_nm (st_nil ?_)
        · rw [show (-1 : Int) = -((1 : Nat) : Int) from rfl, cut_end (by omega), List.length_drop]; omega
        · show Fl.next _ _ = _
          rw [show (-1 : Int) = -((1 : Nat) : Int) from rfl, cut_end (by omega)]
          rfl
      · refine ⟨?_, rfl⟩
        have : bentWays v p = [p] := by
          unfold bentWays
          cases v <;> first | rfl | cases ht
        rw [this]; rfl
      · exact st_ret (ev_call (evs_cons (ev_var rfl) (evs_cons (ev_var rfl) evs_nil)) rfl e2) ⟨⟨d, c2, j2 + 1 + 1, RR.fin_dk0 (hw d hd).noRef, hw d hd, by omega, by omega⟩, trivial⟩
    -- whether it is bent here
    by_cases hdeep : deep = 0
    · refine st_ifS (v := true) (S1 := RR.dk cs j T) (ev_orT ?_) (fun _ => here (by omega) (by omega)) (fun h => nomatch h)
      have := ev_cmp (G := [s_draw, s_pick, n_bent m]) (r := [some (.ref 1), some v, some (.int deep), some (.lst odds), none, none]) (S := RR.dk cs j T) (ev_var (i := 2) rfl) (ev_int (i := 0)) q_eqi
      rw [decide_eq_true hdeep] at this
      exact this
    have e0 : ev [s_draw, s_pick, n_bent m] (E.cmp Cop.eq (E.var 2) (E.int (0))) [some (.ref 1), some v, some (.int deep), some (.lst odds), none, none] (RR.dk cs j T) = .ok (.bl false) (RR.dk cs j T) := by
      have := ev_cmp (G := [s_draw, s_pick, n_bent m]) (r := [some (.ref 1), some v, some (.int deep), some (.lst odds), none, none]) (S := RR.dk cs j T) (ev_var (i := 2) rfl) (ev_int (i := 0)) q_eqi
      rw [decide_eq_false hdeep] at this
      exact this
    have et : ev [s_draw, s_pick, n_bent m] (E.nt (E.isi (E.var 1) Ty.tup)) [some (.ref 1), some v, some (.int deep), some (.lst odds), none, none] (RR.dk cs j T) = .ok (.bl (!isT v)) (RR.dk cs j T) := by
      rw [← isi_tup (S := RR.dk cs j T)]
      exact ev_nt (ev_isi (ev_var rfl)) q_trb
    cases ht : isT v with
    | false =>
      rw [ht] at et
      exact st_ifS (v := true) (S1 := RR.dk cs j T) (ev_orF e0 (ev_orT et)) (fun _ => here (by omega) (by omega)) (fun h => nomatch h)
    | true =>
      rw [ht] at et
      obtain ⟨xs, rfl⟩ := isT_of ht
      by_cases hx : xs = []
      · subst hx
        exact st_ifS (v := true) (S1 := RR.dk cs j T) (ev_orF e0 (ev_orF et (ev_orT (ev_cmp (ev_var rfl) (ev_tup evs_nil) q_eqE)))) (fun _ => here (by omega) (by omega)) (fun h => nomatch h)
      have hxe : xs.isEmpty = false := by cases xs with
        | nil => exact absurd rfl hx
        | cons _ _ => rfl
      have hxl : xs.length ≤ n := by cases hv; assumption
      have hx0 : 0 < xs.length := List.length_pos_iff.mpr hx
      obtain ⟨t, c1, e1, t0, t1, _⟩ := RR.draw_ok (cs := cs) (k := j) (T := T) (m := 4) (by omega) (by omega) (by omega) (by omega)
      have ex0 : ev [s_draw, s_pick, n_bent m] (E.cmp Cop.eq (E.var 1) (E.tup Es.nil)) [some (.ref 1), some (.tup xs), some (.int deep), some (.lst odds), none, none] (RR.dk cs j T) = .ok (.bl false) (RR.dk cs j T) := by
        have := ev_cmp (G := [s_draw, s_pick, n_bent m]) (r := [some (.ref 1), some (.tup xs), some (.int deep), some (.lst odds), none, none]) (S := RR.dk cs j T) (ev_var (i := 1) rfl) (ev_tup evs_nil) q_eqE
        rw [hxe] at this
        exact this
      refine st_ifS (v := decide (t = 0)) (S1 := RR.dk c1 (j + 1) T) (ev_orF e0 (ev_orF et (ev_orF ex0 (ev_cmp (ev_call (evs_cons (ev_var rfl) (evs_cons ev_int evs_nil)) rfl e1) ev_int q_eqi)))) (fun _ => here (by omega) (by omega)) (fun _ => ?_)
      obtain ⟨at_, c2, e2, a0, a1, _⟩ := RR.draw_ok (cs := c1) (k := j + 1) (T := T) (m := xs.length) (by omega) (by omega) (by omega) (by omega)
      obtain ⟨x, hxm, hxi, hix⟩ := ix_any (S := RR.dk c2 (j + 1 + 1) T) a0 a1
      cases hv with
      | @tup k xs _ hall =>
        obtain ⟨d, c3, j3, e3, u3, b1, b2⟩ := bent_ok m (cs := c2) (j := j + 1 + 1) (deep := deep - 1) (hall x hxm) n0 n1 (by omega) (by omega) (by omega) (by omega)
        refine st_asg (ev_call (evs_cons (ev_var rfl) (evs_cons (ev_blt (evs_cons (ev_var rfl) evs_nil) q_lenT) evs_nil)) rfl e2) asg_nm ?_
        have hup : ∀ y ∈ xs, Uv (n + 1) (k + 1) y := fun y hy => (hall y hy).mono (by omega) (by omega)
        have hres : Uv (n + 1) (k + 1 + 1) (.tup (xs.take at_.toNat ++ [d] ++ xs.drop (at_ + 1).toNat)) := by
          refine .tup ?_ fun y hy => ?_
          · rw [List.length_append, List.length_append, List.length_take, List.length_drop, List.length_singleton]; omega
          · rcases List.mem_append.mp hy with hy | hy
            · rcases List.mem_append.mp hy with hy | hy
              · exact hup y (List.mem_of_mem_take hy)
              · rw [List.mem_singleton.mp hy]; exact u3
            · exact hup y (List.mem_of_mem_drop hy)
        refine st_ret (ev_bin (ev_bin (ev_toT (ev_var rfl) rfl (ev_var rfl) a0) (ev_tup (evs_cons (ev_call (evs_cons (ev_var rfl) (evs_cons (ev_ix (ev_var rfl) (ev_var rfl) hix) (evs_cons (ev_bin (ev_var rfl) ev_int q_sub) evs_nil))) rfl e3) evs_nil)) (q_addT ?_)) (ev_fromT (ev_var rfl) rfl (ev_bin (ev_var rfl) ev_int q_add) (by omega)) (q_addT ?_)) ⟨_, c3, j3, RR.fin_dk0 hres.noRef, hres, by omega, by omega⟩
        · rw [List.length_take, List.length_singleton]; omega
        · rw [List.length_append, List.length_take, List.length_singleton, List.length_drop]; omega
      | _ => cases ht
end RR.N

set_option Elab.async false
set_option linter.all false
set_option maxRecDepth 100000
set_option maxHeartbeats 1000000
/-! values of all kinds, with a width for each level -/
namespace RR.N
open PySem L2
set_option hygiene false in
local macro_rules
  | `(tactic| sizeOf_list_dec) => `(tactic| first | with_reducible assumption | omega | (exact sm_of (by omega) (by omega)) | (simp only [List.length_map, List.length_append, List.length_cons, List.length_nil, rg_len]; omega))
set_option hygiene false in
local macro_rules
  | `(tactic| array_get_dec) => `(tactic| first
    | with_reducible first
      | exact q_add | exact q_sub | exact q_lt | exact q_le | exact q_gt | exact q_ge | exact q_eqi | exact q_nei | exact q_trb
      | exact q_eqp | exact q_ixp0 | exact q_ixp1
      | exact q_lenM | exact q_lenLM | exact q_lenT | exact q_lenL | exact q_tupT | exact q_tupL | exact q_sum | exact q_all | exact q_any | exact q_int | exact q_intb | exact q_mn2 | exact q_mx2 | exact q_abs
      | exact q_zipT | exact q_zipL | exact q_enmL | exact q_enmT | exact q_seqT | exact q_seqL
    | ((with_reducible apply q_mulA) <;> omega)
    | ((with_reducible apply q_mulB) <;> omega)
    | ((with_reducible apply q_pow) <;> decide)
    | ((with_reducible apply q_rg1) <;> sizeOf_list_dec) | ((with_reducible apply q_rg2) <;> sizeOf_list_dec)
    | ((with_reducible apply q_ixT) <;> sizeOf_list_dec) | ((with_reducible apply q_ixL) <;> sizeOf_list_dec))
set_option hygiene false in
local macro_rules
  | `(tactic| array_mem_dec) => `(tactic| first
    | with_reducible first
      | exact ev_int | exact ev_bl | exact ev_non | exact ev_str | exact ev_con | exact evs_nil
      | exact g0 | exact g1 | exact g2 | exact g3 | exact g4 | exact g5 | exact g6 | exact g7 | exact g8 | exact g9
    | ((with_reducible apply ev_varQ); exact ev_var rfl)
    | ((with_reducible apply evs_cons) <;> array_mem_dec)
    | ((with_reducible apply ev_bin) <;> array_mem_dec)
    | ((with_reducible apply ev_ix) <;> array_mem_dec)
    | ((with_reducible apply ev_cmp) <;> array_mem_dec)
    | ((with_reducible apply ev_tup) <;> array_mem_dec)
    | ((with_reducible apply ev_tupQ); apply ev_tup <;> array_mem_dec)
    | ((with_reducible apply ev_blt) <;> array_mem_dec)
    | ((with_reducible apply ev_frv) <;> array_mem_dec)
    | ((with_reducible apply ev_frr) <;> array_mem_dec)
    | ((with_reducible apply evl_dis) <;> array_mem_dec)
    | ((with_reducible apply ev_call) <;> array_mem_dec)
    | ((with_reducible apply itm_seq) <;> array_mem_dec)
    | ((with_reducible apply itm_rng) <;> array_mem_dec)
    | ((with_reducible apply itm_enm) <;> array_mem_dec)
    | ((with_reducible apply itm_zp) <;> array_mem_dec)
    | ((with_reducible apply evl_cmp0) <;> array_mem_dec)
    | ((with_reducible apply evl_cmp) <;> array_mem_dec)
    | ((with_reducible apply cnd_one) <;> array_mem_dec)
    | with_reducible first | exact asg_nm | exact asg_2 | exact asg_3 | exact asg_n2 | exact asg_2n
    | ((with_reducible apply ev_an) <;> array_mem_dec)
    | ((with_reducible apply ev_or) <;> array_mem_dec)
    | ((with_reducible apply ev_nt) <;> array_mem_dec)
    | ((with_reducible apply ev_neg) <;> array_mem_dec)
    | ((with_reducible apply ev_iteI) <;> array_mem_dec)
    | ((with_reducible apply ev_ite) <;> array_mem_dec)
    | array_get_dec
    | (intro _ <;> array_mem_dec)
    | sizeOf_list_dec)
inductive Uw : List Nat → D → Prop
  | non {ns : List Nat} : Uw ns .non
  | bl {ns : List Nat} {b : Bool} : Uw ns (.bl b)
  | int {ns : List Nat} {i : Int} : i.natAbs < 10 ^ 70 → Uw ns (.int i)
  | str {ns : List Nat} {x : Str} : Sh x → Uw ns (.str x)
  | dct {n : Nat} {ns : List Nat} : Uw (n :: ns) (.dct [] [])
  | tup {n : Nat} {ns : List Nat} {xs : List D} : xs.length ≤ n → (∀ x ∈ xs, Uw ns x) → Uw (n :: ns) (.tup xs)
  | lst {n : Nat} {ns : List Nat} {xs : List D} : xs.length ≤ n → (∀ x ∈ xs, Uw ns x) → Uw (n :: ns) (.lst xs)
def leW : List Nat → List Nat → Bool
  | [], _ => true
  | _ :: _, [] => false
  | n :: ns, m :: ms => decide (n ≤ m) && leW ns ms
theorem Uw.mono {ns : List Nat} {d : D} (h : Uw ns d) : ∀ {ms : List Nat}, leW ns ms = true → Uw ms d := by
  induction h with
  | non => intros; exact .non
  | bl => intros; exact .bl
  | int h => intros; exact .int h
  | str h => intros; exact .str h
  | dct =>
    intro ms hl
    cases ms with
    | nil => cases hl
    | cons m ms => exact .dct
  | tup h _ ih =>
    intro ms hl
    cases ms with
    | nil => cases hl
    | cons m ms =>
      obtain ⟨h1, h2⟩ := Bool.and_eq_true_iff.mp hl
      exact .tup (Nat.le_trans h (of_decide_eq_true h1)) fun x hx => ih x hx h2
  | lst h _ ih =>
    intro ms hl
    cases ms with
    | nil => cases hl
    | cons m ms =>
      obtain ⟨h1, h2⟩ := Bool.and_eq_true_iff.mp hl
      exact .lst (Nat.le_trans h (of_decide_eq_true h1)) fun x hx => ih x hx h2
theorem Uw.noRef {ns : List Nat} {d : D} (h : Uw ns d) : RR.noRef d = true := by
  induction h with
  | non => rfl
  | bl => rfl
  | int => rfl
  | str => rfl
  | dct => rfl
  | tup _ _ ih => exact noRefs_of ih
  | lst _ _ ih => exact noRefs_of ih
def ww : List Nat → Nat
  | [] => 1921
  | n :: ns => 1921 + n * (ww ns + 2)
theorem ww_ge : ∀ ns : List Nat, 1921 ≤ ww ns
  | [] => Nat.le_refl _
  | n :: ns => Nat.le_add_right _ _
theorem Uw.ft {ns : List Nat} {d : D} (h : Uw ns d) : Ft (ww ns) ns.length d := by
  induction h with
  | non => exact Ft.non.mono (Nat.le_trans (by decide) (ww_ge _)) (by omega)
  | bl => exact Ft.bl.mono (Nat.le_trans (by decide) (ww_ge _)) (by omega)
  | int h => exact (Ft.int (log_lt (Nat.lt_trans h (by decide +kernel)))).mono (ww_ge _) (by omega)
  | @str ns x h =>
    refine (Ft.str h.1 h.2.1).mono ?_ (by omega)
    have := ww_ge ns
    have := h.2.2
    omega
  | dct => exact Ft.dct.mono (Nat.le_trans (by decide) (ww_ge _)) (by simp)
  | @tup n ns xs h _ ih => exact (Ft.tup ih h).mono (by show _ ≤ 1921 + n * (ww ns + 2); omega) (by simp)
  | @lst n ns xs h _ ih => exact (Ft.lst ih h).mono (by show _ ≤ 1921 + n * (ww ns + 2); omega) (by simp)
def upW : List Nat → List Nat
  | [] => [1]
  | n :: ns => (n + 1) :: upW ns
theorem leW_up : ∀ ns : List Nat, leW ns (upW ns) = true
  | [] => rfl
  | n :: ns => Bool.and_eq_true_iff.mpr ⟨decide_eq_true (Nat.le_succ _), leW_up ns⟩
theorem leW_one : ∀ ns : List Nat, leW [1] (upW ns) = true
  | [] => rfl
  | n :: ns => Bool.and_eq_true_iff.mpr ⟨decide_eq_true (Nat.le_add_left _ _), rfl⟩
theorem uw_of : ∀ {k : Nat} {d : D}, Uv 1 k d → Uw (List.replicate k 1) d := by
  intro k d h
  induction h with
  | non => exact .non
  | bl => exact .bl
  | int h => exact .int h
  | str h => exact .str h
  | dct => exact .dct
  | tup h _ ih => exact .tup h ih
  | lst h _ ih => exact .lst h ih
theorem odds_uw (d : D) (h : d ∈ odds) : Uw [1] d := uw_of (odds_uv (n := 1) (by omega) d h)
theorem bentWays_uw {ns : List Nat} {v p : D} (hv : Uw ns v) (hp : Uw (upW ns) p) : ∀ w ∈ bentWays v p, Uw (upW ns) w := by
  intro w hw
  rcases List.mem_cons.mp hw with rfl | hw
  · exact hp
  · cases hv with
    | @tup n ns xs h1 h2 =>
      have h3 : ∀ x ∈ xs, Uw (upW ns) x := fun x hx => (h2 x hx).mono (leW_up ns)
      have up : ∀ {ys : List D}, ys.length ≤ n + 1 → (∀ y ∈ ys, y ∈ xs) → Uw (upW (n :: ns)) (.tup ys) := fun hl hm => Uw.tup hl fun y hy => h3 y (hm y hy)
      simp only [List.mem_cons, List.not_mem_nil, or_false] at hw
      rcases hw with rfl | rfl | rfl | rfl
      · exact Uw.lst (by omega) h3
      · refine up (by rw [List.length_append, List.length_drop]; omega) fun y hy => (List.mem_append.mp hy).elim id fun z => List.mem_of_mem_drop z
      · exact up (by rw [List.length_drop]; omega) fun y hy => List.mem_of_mem_drop hy
      · exact up (by rw [List.length_reverse]; omega) fun y hy => List.mem_reverse.mp hy
    | _ => exact nomatch hw
/-- a value with a part otherwise -/
theorem bent2_ok {T : Store} : ∀ (m : Nat) {ns : List Nat} {v : D} {cs : List Int} {j : Int} {deep : Int}, Uw ns v → (∀ n ∈ ns, n ≤ 1000) → 0 ≤ deep → deep < m → 0 ≤ j → j + 4 * m ≤ 100000000000 →
    ∃ d c' j', n_bent m [.ref 1, v, .int deep] (RR.dk cs j T) = .ok d (RR.dk c' j' T) ∧ Uw (upW ns) d ∧ j ≤ j' ∧ j' ≤ j + 4 * m
  | 0, _, _, _, _, _, _, _, h0, h1, _, _ => by omega
  | m + 1, ns, v, cs, j, deep, hv, n1, h0, h1, j0, j1 => by
    refine fn_go (Q := fun o => ∃ d c' j', o = .ok d (RR.dk c' j' T) ∧ Uw (upW ns) d ∧ j ≤ j' ∧ j' ≤ j + 4 * ((m + 1 : Nat) : Int)) rfl ?_
    show Ends false (RR.dk cs j T) _ (exs [s_draw, s_pick, n_bent m] b_bent [some (.ref 1), some v, some (.int deep), none, none, none] (RR.dk cs j T))
    have eodd : ∀ {r : Env} {S : Store}, ev [s_draw, s_pick, n_bent m] (E.fr false (L.dis (Es.cons E.non (Es.cons (E.bl true) (Es.cons (E.bl false) (Es.cons (E.neg (E.int (1))) (Es.cons (E.int (0)) (Es.cons (E.int (1)) (Es.cons (E.bin Bop.add (E.bin Bop.pow (E.int (10)) (E.int (6))) (E.int (1))) (Es.cons (E.bin Bop.pow (E.int (10)) (E.int (30))) (Es.cons (E.str (PySem.Str.ofString "0")) (Es.cons (E.str (PySem.Str.ofString "")) (Es.cons (E.tup Es.nil) (Es.cons (E.fr false (L.dis Es.nil)) (Es.cons (E.tup (Es.cons (E.int (0)) Es.nil)) (Es.cons (E.dct [] Es.nil) Es.nil)))))))))))))))) r S = .ok (.lst odds) S := fun {r S} => by
      refine ev_frv (evl_dis (evs_cons ev_non (evs_cons ev_bl (evs_cons ev_bl (evs_cons (ev_neg ev_int) (evs_cons ev_int (evs_cons ev_int (evs_cons (ev_bin (ev_bin ev_int ev_int (q_pow ⟨by decide, by decide, by decide⟩)) ev_int q_add) (evs_cons (ev_bin ev_int ev_int (q_pow ⟨by decide, by decide, by decide⟩)) (evs_cons ev_str (evs_cons ev_str (evs_cons (ev_tup evs_nil) (evs_cons (ev_frv (evl_dis evs_nil)) (evs_cons (ev_tup (evs_cons ev_int evs_nil)) (evs_cons ?_ evs_nil)))))))))))))))
      rw [ev, evs_nil]
      show (if ([] : List Str).length = ([] : List D).length ∧ ([] : List Str).length ≤ 1 then R.ok (D.dct [] []) S else .bad) = _
      exact if_pos ⟨rfl, by decide⟩
    refine st_asg eodd asg_nm ?_
    have here : ∀ {c : List Int} {j2 : Int}, j ≤ j2 → j2 ≤ j + 1 → Stop (Ends false (RR.dk cs j T) (fun o => ∃ d c' j', o = .ok d (RR.dk c' j' T) ∧ Uw (upW ns) d ∧ j ≤ j' ∧ j' ≤ j + 4 * ((m + 1 : Nat) : Int))) (exs [s_draw, s_pick, n_bent m] (Sms.cons (Sm.asg (Tg.nm 5) (E.fr false (L.dis (Es.cons (E.call 1 (Es.cons (E.var 0) (Es.cons (E.var 3) Es.nil))) Es.nil)))) (Sms.cons (Sm.iff (E.isi (E.var 1) Ty.tup) (Sms.cons (Sm.asg (Tg.nm 5) (E.bin Bop.add (E.var 5) (E.fr false (L.dis (Es.cons (E.fr false (L.ofl (E.var 1))) (Es.cons (E.bin Bop.add (E.var 1) (E.slc (E.var 1) (E.neg (E.int (1))) E.non)) (Es.cons (E.slc (E.var 1) (E.int (1)) E.non) (Es.cons (E.rvt false (E.var 1)) Es.nil)))))))) Sms.nil) Sms.nil) (Sms.cons (Sm.ret (E.call 1 (Es.cons (E.var 0) (Es.cons (E.var 5) Es.nil)))) Sms.nil))) [some (.ref 1), some v, some (.int deep), some (.lst odds), none, none] (RR.dk c j2 T)) := by
      intro c j2 g1 g2
      obtain ⟨p, c1, hp, e1⟩ := pick_any (cs := c) (k := j2) (T := T) (xs := odds) (by simp [odds]) (by decide) (fun d hd => (odds_uw d hd).noRef) (by omega) (by omega)
      have hpu : Uw (upW ns) p := (odds_uw p hp).mono (leW_one ns)
      have hw := bentWays_uw hv hpu
      have hwl : (bentWays v p).length ≤ 5 := by
        unfold bentWays
        cases v <;> first | (show (1 : Nat) ≤ 5; decide) | (show (5 : Nat) ≤ 5; decide)
      obtain ⟨d, c2, hd, e2⟩ := pick_any (cs := c1) (k := j2 + 1) (T := T) (xs := bentWays v p) (by simp [bentWays]) (by omega) (fun w h => (hw w h).noRef) (by omega) (by omega)
      refine st_asg (d := .lst [p]) (ev_frv (evl_dis (evs_cons (ev_call (evs_cons (ev_var rfl) (evs_cons (ev_var rfl) evs_nil)) rfl e1) evs_nil))) asg_nm ?_
      refine st_ift (v := isT v) (S1 := RR.dk c1 (j2 + 1) T) (r2 := [some (.ref 1), some v, some (.int deep), some (.lst odds), none, some (.lst (bentWays v p))]) (S2 := RR.dk c1 (j2 + 1) T) ?_ (fun ht => ?_) (fun ht => ?_) ?_
      · rw [← isi_tup (S := RR.dk c1 (j2 + 1) T)]
        exact ev_isi (ev_var rfl)
      · obtain ⟨xs, rfl⟩ := isT_of ht
        have hxl : xs.length ≤ 1000 := by
          cases hv with
          | tup h _ => exact Nat.le_trans h (n1 _ List.mem_cons_self)
        show EqF _ (exs _ _ _ _)
        refine st_asg (S1 := RR.dk c1 (j2 + 1) T) (ev_bin (ev_var rfl) (ev_frv (evl_dis (evs_cons (ev_frv (evl_ofl (ev_var rfl) rfl)) (evs_cons (ev_bin (ev_var rfl) (ev_slc (ev_var rfl) (bd_int rfl (ev_neg ev_int)) bd_non rfl) (q_addT ?_)) (evs_cons (ev_fromT (ev_var rfl) rfl ev_int (by decide)) (evs_cons (ev_rvt (ev_var rfl) q_rvt) evs_nil)))))) (q_addL (by simp))) asg_nm (st_nil ?_)
        · rw [show (-1 : Int) = -((1 : Nat) : Int) from rfl, cut_end (by omega), List.length_drop]; omega
        · show Fl.next _ _ = _
          rw [show (-1 : Int) = -((1 : Nat) : Int) from rfl, cut_end (by omega)]
          rfl
      · refine ⟨?_, rfl⟩
        have : bentWays v p = [p] := by
          unfold bentWays
          cases v <;> first | rfl | cases ht
        rw [this]; rfl
      · exact st_ret (ev_call (evs_cons (ev_var rfl) (evs_cons (ev_var rfl) evs_nil)) rfl e2) ⟨⟨d, c2, j2 + 1 + 1, RR.fin_dk0 (hw d hd).noRef, hw d hd, by omega, by omega⟩, trivial⟩
    -- whether it is bent here
    by_cases hdeep : deep = 0
    · refine st_ifS (v := true) (S1 := RR.dk cs j T) (ev_orT ?_) (fun _ => here (by omega) (by omega)) (fun h => nomatch h)
      have := ev_cmp (G := [s_draw, s_pick, n_bent m]) (r := [some (.ref 1), some v, some (.int deep), some (.lst odds), none, none]) (S := RR.dk cs j T) (ev_var (i := 2) rfl) (ev_int (i := 0)) q_eqi
      rw [decide_eq_true hdeep] at this
      exact this
    have e0 : ev [s_draw, s_pick, n_bent m] (E.cmp Cop.eq (E.var 2) (E.int (0))) [some (.ref 1), some v, some (.int deep), some (.lst odds), none, none] (RR.dk cs j T) = .ok (.bl false) (RR.dk cs j T) := by
      have := ev_cmp (G := [s_draw, s_pick, n_bent m]) (r := [some (.ref 1), some v, some (.int deep), some (.lst odds), none, none]) (S := RR.dk cs j T) (ev_var (i := 2) rfl) (ev_int (i := 0)) q_eqi
      rw [decide_eq_false hdeep] at this
      exact this
    have et : ev [s_draw, s_pick, n_bent m] (E.nt (E.isi (E.var 1) Ty.tup)) [some (.ref 1), some v, some (.int deep), some (.lst odds), none, none] (RR.dk cs j T) = .ok (.bl (!isT v)) (RR.dk cs j T) := by
      rw [← isi_tup (S := RR.dk cs j T)]
      exact ev_nt (ev_isi (ev_var rfl)) q_trb
    cases ht : isT v with
    | false =>
      rw [ht] at et
      exact st_ifS (v := true) (S1 := RR.dk cs j T) (ev_orF e0 (ev_orT et)) (fun _ => here (by omega) (by omega)) (fun h => nomatch h)
    | true =>
      rw [ht] at et
      obtain ⟨xs, rfl⟩ := isT_of ht
      by_cases hx : xs = []
      · subst hx
        exact st_ifS (v := true) (S1 := RR.dk cs j T) (ev_orF e0 (ev_orF et (ev_orT (ev_cmp (ev_var rfl) (ev_tup evs_nil) q_eqE)))) (fun _ => here (by omega) (by omega)) (fun h => nomatch h)
      have hxe : xs.isEmpty = false := by cases xs with
        | nil => exact absurd rfl hx
        | cons _ _ => rfl
      have hxl : xs.length ≤ 1000 := by
        cases hv with
        | tup h _ => exact Nat.le_trans h (n1 _ List.mem_cons_self)
      have hx0 : 0 < xs.length := List.length_pos_iff.mpr hx
      obtain ⟨t, c1, e1, t0, t1, _⟩ := RR.draw_ok (cs := cs) (k := j) (T := T) (m := 4) (by omega) (by omega) (by omega) (by omega)
      have ex0 : ev [s_draw, s_pick, n_bent m] (E.cmp Cop.eq (E.var 1) (E.tup Es.nil)) [some (.ref 1), some (.tup xs), some (.int deep), some (.lst odds), none, none] (RR.dk cs j T) = .ok (.bl false) (RR.dk cs j T) := by
        have := ev_cmp (G := [s_draw, s_pick, n_bent m]) (r := [some (.ref 1), some (.tup xs), some (.int deep), some (.lst odds), none, none]) (S := RR.dk cs j T) (ev_var (i := 1) rfl) (ev_tup evs_nil) q_eqE
        rw [hxe] at this
        exact this
      refine st_ifS (v := decide (t = 0)) (S1 := RR.dk c1 (j + 1) T) (ev_orF e0 (ev_orF et (ev_orF ex0 (ev_cmp (ev_call (evs_cons (ev_var rfl) (evs_cons ev_int evs_nil)) rfl e1) ev_int q_eqi)))) (fun _ => here (by omega) (by omega)) (fun _ => ?_)
      obtain ⟨at_, c2, e2, a0, a1, _⟩ := RR.draw_ok (cs := c1) (k := j + 1) (T := T) (m := xs.length) (by omega) (by omega) (by omega) (by omega)
      obtain ⟨x, hxm, hxi, hix⟩ := ix_any (S := RR.dk c2 (j + 1 + 1) T) a0 a1
      cases hv with
      | @tup n ns xs hxn hall =>
        obtain ⟨d, c3, j3, e3, u3, b1, b2⟩ := bent2_ok m (cs := c2) (j := j + 1 + 1) (deep := deep - 1) (hall x hxm) (fun n h => n1 n (List.mem_cons_of_mem _ h)) (by omega) (by omega) (by omega) (by omega)
        refine st_asg (ev_call (evs_cons (ev_var rfl) (evs_cons (ev_blt (evs_cons (ev_var rfl) evs_nil) q_lenT) evs_nil)) rfl e2) asg_nm ?_
        have hup : ∀ y ∈ xs, Uw (upW ns) y := fun y hy => (hall y hy).mono (leW_up ns)
        have hres : Uw (upW (n :: ns)) (.tup (xs.take at_.toNat ++ [d] ++ xs.drop (at_ + 1).toNat)) := by
          refine .tup ?_ fun y hy => ?_
          · rw [List.length_append, List.length_append, List.length_take, List.length_drop, List.length_singleton]; omega
          · rcases List.mem_append.mp hy with hy | hy
            · rcases List.mem_append.mp hy with hy | hy
              · exact hup y (List.mem_of_mem_take hy)
              · rw [List.mem_singleton.mp hy]; exact u3
            · exact hup y (List.mem_of_mem_drop hy)
        refine st_ret (ev_bin (ev_bin (ev_toT (ev_var rfl) rfl (ev_var rfl) a0) (ev_tup (evs_cons (ev_call (evs_cons (ev_var rfl) (evs_cons (ev_ix (ev_var rfl) (ev_var rfl) hix) (evs_cons (ev_bin (ev_var rfl) ev_int q_sub) evs_nil))) rfl e3) evs_nil)) (q_addT ?_)) (ev_fromT (ev_var rfl) rfl (ev_bin (ev_var rfl) ev_int q_add) (by omega)) (q_addT ?_)) ⟨_, c3, j3, RR.fin_dk0 hres.noRef, hres, by omega, by omega⟩
        · rw [List.length_take, List.length_singleton]; omega
        · rw [List.length_append, List.length_take, List.length_singleton, List.length_drop]; omega
      | _ => cases ht
end RR.N

set_option Elab.async false
set_option linter.all false
set_option maxRecDepth 100000
set_option maxHeartbeats 1000000
/-! values judged: square ones, ints, pairs (shared by the laws of webs and stretches) -/
namespace RR.N
open PySem L2
set_option hygiene false in
local macro_rules
  | `(tactic| sizeOf_list_dec) => `(tactic| first | with_reducible assumption | omega | (exact sm_of (by omega) (by omega)) | (simp only [List.length_map, List.length_append, List.length_cons, List.length_nil, rg_len]; omega))
set_option hygiene false in
local macro_rules
  | `(tactic| array_get_dec) => `(tactic| first
    | with_reducible first
      | exact q_add | exact q_sub | exact q_lt | exact q_le | exact q_gt | exact q_ge | exact q_eqi | exact q_nei | exact q_trb
      | exact q_eqp | exact q_ixp0 | exact q_ixp1
      | exact q_lenM | exact q_lenLM | exact q_lenT | exact q_lenL | exact q_tupT | exact q_tupL | exact q_sum | exact q_all | exact q_any | exact q_int | exact q_intb | exact q_mn2 | exact q_mx2 | exact q_abs
      | exact q_zipT | exact q_zipL | exact q_enmL | exact q_enmT | exact q_seqT | exact q_seqL
    | ((with_reducible apply q_mulA) <;> omega)
    | ((with_reducible apply q_mulB) <;> omega)
    | ((with_reducible apply q_pow) <;> decide)
    | ((with_reducible apply q_rg1) <;> sizeOf_list_dec) | ((with_reducible apply q_rg2) <;> sizeOf_list_dec)
    | ((with_reducible apply q_ixT) <;> sizeOf_list_dec) | ((with_reducible apply q_ixL) <;> sizeOf_list_dec))
set_option hygiene false in
local macro_rules
  | `(tactic| array_mem_dec) => `(tactic| first
    | with_reducible first
      | exact ev_int | exact ev_bl | exact ev_non | exact ev_str | exact ev_con | exact evs_nil
      | exact g0 | exact g1 | exact g2 | exact g3 | exact g4 | exact g5 | exact g6 | exact g7 | exact g8 | exact g9
    | ((with_reducible apply ev_varQ); exact ev_var rfl)
    | ((with_reducible apply evs_cons) <;> array_mem_dec)
    | ((with_reducible apply ev_bin) <;> array_mem_dec)
    | ((with_reducible apply ev_ix) <;> array_mem_dec)
    | ((with_reducible apply ev_cmp) <;> array_mem_dec)
    | ((with_reducible apply ev_tup) <;> array_mem_dec)
    | ((with_reducible apply ev_tupQ); apply ev_tup <;> array_mem_dec)
    | ((with_reducible apply ev_blt) <;> array_mem_dec)
    | ((with_reducible apply ev_frv) <;> array_mem_dec)
    | ((with_reducible apply ev_frr) <;> array_mem_dec)
    | ((with_reducible apply evl_dis) <;> array_mem_dec)
    | ((with_reducible apply ev_call) <;> array_mem_dec)
    | ((with_reducible apply itm_seq) <;> array_mem_dec)
    | ((with_reducible apply itm_rng) <;> array_mem_dec)
    | ((with_reducible apply itm_enm) <;> array_mem_dec)
    | ((with_reducible apply itm_zp) <;> array_mem_dec)
    | ((with_reducible apply evl_cmp0) <;> array_mem_dec)
    | ((with_reducible apply evl_cmp) <;> array_mem_dec)
    | ((with_reducible apply cnd_one) <;> array_mem_dec)
    | with_reducible first | exact asg_nm | exact asg_2 | exact asg_3 | exact asg_n2 | exact asg_2n
    | ((with_reducible apply ev_an) <;> array_mem_dec)
    | ((with_reducible apply ev_or) <;> array_mem_dec)
    | ((with_reducible apply ev_nt) <;> array_mem_dec)
    | ((with_reducible apply ev_neg) <;> array_mem_dec)
    | ((with_reducible apply ev_iteI) <;> array_mem_dec)
    | ((with_reducible apply ev_ite) <;> array_mem_dec)
    | array_get_dec
    | (intro _ <;> array_mem_dec)
    | sizeOf_list_dec)
theorem sh_row : Sh (Str.ofString "row") := ⟨by decide +kernel, by decide +kernel, by decide +kernel⟩
theorem sh_rate : Sh (Str.ofString "rate") := ⟨by decide +kernel, by decide +kernel, by decide +kernel⟩
theorem sh_own : Sh (Str.ofString "own") := ⟨by decide +kernel, by decide +kernel, by decide +kernel⟩
theorem ev_isiV {G : List Fn} {r : Env} {S S1 : Store} {a : E} {x : D} {t : Ty} {p : Bool} (h : ev G a r S = .ok x S1) (h2 : isiD S1 x t = p) : ev G (.isi a t) r S = .ok (.bl p) S1 := by
  rw [ev_isi h, h2]
theorem ev_ntV {G : List Fn} {r : Env} {S S1 : Store} {a : E} {p q : Bool} (h : ev G a r S = .ok (.bl p) S1) (h2 : (!p) = q) : ev G (.nt a) r S = .ok (.bl q) S1 := by
  rw [ev_nt h q_trb, h2]
def lenOk (n : Nat) : D → Bool
  | .tup xs => decide ((xs.length : Int) = n)
  | _ => false
def isI (lo hi : Int) : D → Bool
  | .int i => decide (lo ≤ i) && decide (i ≤ hi)
  | _ => false
theorem isint_eq {lo hi : Int} {v : D} {S : Store} : runF [] ⟨3, 3, false, b_p_is_integer⟩ [v, .int lo, .int hi] S = .ok (.bl (isI lo hi v)) S := by
  refine fn_eq rfl ?_
  show Ends false S _ (exs [] b_p_is_integer [some v, some (.int lo), some (.int hi)] S)
  refine st_ret (d := .bl (isI lo hi v)) ?_ (end_same rfl)
  cases v with
  | int i => exact ev_an (p := true) (ev_isiV (ev_var rfl) rfl) fun _ => ev_an (p := true) (ev_ntV (ev_isiV (ev_var rfl) rfl) rfl) fun _ => ev_chn (ev_var rfl) (ev_var rfl) q_le (fun _ => ev_var rfl) (fun _ => q_le)
  | bl b => exact ev_an (p := true) (q := false) (ev_isiV (ev_var rfl) rfl) fun _ => ev_an (p := false) (q := false) (ev_ntV (ev_isiV (ev_var rfl) rfl) rfl) (fun h => nomatch h)
  | _ => exact ev_an (p := false) (q := false) (ev_isiV (ev_var rfl) rfl) (fun h => nomatch h)
def inR (xs : List D) : Bool := decide (1 ≤ (xs.length : Int)) && decide ((xs.length : Int) ≤ 6)
def sqD (v : D) : D := match v with
  | .tup xs => if inR xs = true then (if xs.all (lenOk xs.length) = true then .non else .str (Str.ofString "row")) else .str (Str.ofString "web")
  | _ => .str (Str.ofString "web")
theorem ev_ntup {G : List Fn} {r : Env} {S : Store} {i : Nat} {v : D} (h : look r i = some v) : ev G (E.nt (E.isi (E.var i) Ty.tup)) r S = .ok (.bl (!isT v)) S := by
  rw [← isi_tup (S := S)]
  exact ev_nt (ev_isi (ev_var h)) q_trb
theorem ev_istup {G : List Fn} {r : Env} {S : Store} {i : Nat} {v : D} (h : look r i = some v) : ev G (E.isi (E.var i) Ty.tup) r S = .ok (.bl (isT v)) S := by
  rw [← isi_tup (S := S)]
  exact ev_isi (ev_var h)
theorem map_id2 (xs : List D) : xs.map (fun x => x) = xs := List.map_id' xs
theorem square_eq {v : D} {S : Store} : s_p_is_square [v] S = .ok (sqD v) S := by
  refine fn_eq rfl ?_
  show Ends false S _ (exs [] b_p_is_square [some v, none] S)
  cases ht : isT v with
  | false =>
    have e : sqD v = .str (Str.ofString "web") := by
      unfold sqD
      cases v <;> first | rfl | cases ht
    rw [e]
    have e1 := ev_ntup (G := []) (r := [some v, none]) (S := S) (i := 0) rfl
    rw [ht] at e1
    exact st_ifR (v := true) (ev_orT e1) (fun _ => ev_str) (fun _ => end_same rfl) (fun h => nomatch h)
  | true =>
    obtain ⟨xs, rfl⟩ := isT_of ht
    have e1 := ev_ntup (G := []) (r := [some (.tup xs), none]) (S := S) (i := 0) rfl
    rw [ht] at e1
    have e2 : ev [] (E.nt (E.chn Cop.le Cop.le (E.int (1)) (E.blt Bl.len (Es.cons (E.var 0) Es.nil)) (E.con (PySem.Str.ofString "MAX_PLACES") (D.int (6))))) [some (.tup xs), none] S = .ok (.bl (!inR xs)) S :=
      ev_nt (ev_chn ev_int (ev_blt (evs_cons (ev_var rfl) evs_nil) q_lenT) q_le (fun _ => ev_con) (fun _ => q_le)) q_trb
    refine st_ifR (v := !inR xs) (ev_orF e1 e2) (fun _ => ev_str) (fun h => ?_) (fun h => ?_)
    · have h : inR xs = false := by simpa using h
      have e : sqD (.tup xs) = .str (Str.ofString "web") := by
        unfold sqD
        simp only []
        rw [h]; rfl
      rw [e]
      exact end_same rfl
    have h : inR xs = true := by simpa using h
    have hn : xs.length ≤ 6 := by
      unfold inR at h
      have := of_decide_eq_true (Bool.and_eq_true_iff.mp h).2
      omega
    have e3 : ev [] (E.nt (E.blt Bl.all (Es.cons (E.fr false (L.cmp (E.an (E.isi (E.var 1) Ty.tup) (E.cmp Cop.eq (E.blt Bl.len (Es.cons (E.var 1) Es.nil)) (E.blt Bl.len (Es.cons (E.var 0) Es.nil)))) (Tg.nm 1) (It.seq (E.var 0)) Es.nil [((PySem.Str.ofString "row"), 1)])) Es.nil))) [some (.tup xs), none] S = .ok (.bl (!xs.all (lenOk xs.length))) S := by
      refine ev_nt (ev_blt (evs_cons (ev_frv (evl_cmp0 (xs := xs) (f := fun x => x) (h := fun x => .bl (lenOk xs.length x)) (itm_seq (ev_var rfl) (by rw [map_id2]; exact q_seqT)) (by omega) (fun _ _ => asg_nm) fun x hx => ?_)) evs_nil) q_all) q_trb
      cases hx : isT x with
      | false =>
        have e4 := ev_istup (G := []) (r := [some (.tup xs), some x]) (S := S) (i := 1) rfl
        rw [hx] at e4
        have e5 : lenOk xs.length x = false := by cases x <;> first | rfl | cases hx
        rw [e5]
        exact ev_an (p := false) (q := false) e4 (fun h => nomatch h)
      | true =>
        obtain ⟨ys, rfl⟩ := isT_of hx
        have e4 := ev_istup (G := []) (r := [some (.tup xs), some (.tup ys)]) (S := S) (i := 1) rfl
        rw [hx] at e4
        exact ev_an (p := true) e4 fun _ => ev_cmp (ev_blt (evs_cons (ev_var rfl) evs_nil) q_lenT) (ev_blt (evs_cons (ev_var rfl) evs_nil) q_lenT) q_eqi
    refine st_ifR (v := !xs.all (lenOk xs.length)) e3 (fun _ => ev_str) (fun h2 => ?_) (fun h2 => ?_)
    · have h2 : xs.all (lenOk xs.length) = false := by simpa using h2
      have e : sqD (.tup xs) = .str (Str.ofString "row") := by
        unfold sqD
        simp only []
        rw [h, h2]; rfl
      rw [e]
      exact end_same rfl
    · have h2 : xs.all (lenOk xs.length) = true := by simpa using h2
      have e : sqD (.tup xs) = .non := by
        unfold sqD
        simp only []
        rw [h, h2]; rfl
      rw [e]
      exact st_ret ev_non (end_same rfl)
/-- the rows of a value that is square -/
theorem rows_of : ∀ {xs : List D} {n : Nat}, xs.all (lenOk n) = true → ∃ rows : List (List D), xs = rows.map D.tup ∧ ∀ r ∈ rows, r.length = n
  | [], _, _ => ⟨[], rfl, fun _ h => nomatch h⟩
  | x :: xs, n, h => by
    rw [List.all_cons] at h
    obtain ⟨h1, h2⟩ := Bool.and_eq_true_iff.mp h
    obtain ⟨rows, rfl, hr⟩ := rows_of h2
    cases x with
    | tup ys =>
      have := of_decide_eq_true (show decide ((ys.length : Int) = n) = true from h1)
      exact ⟨ys :: rows, rfl, fun r hm => (List.mem_cons.mp hm).elim (fun e => by rw [e]; omega) (hr r)⟩
    | _ => cases h1
theorem ints_of : ∀ {r : List D}, r.all (isI 0 1000000) = true → ∃ ns : List Int, r = ns.map D.int
  | [], _ => ⟨[], rfl⟩
  | x :: r, h => by
    rw [List.all_cons] at h
    obtain ⟨h1, h2⟩ := Bool.and_eq_true_iff.mp h
    obtain ⟨ns, rfl⟩ := ints_of h2
    cases x with
    | int i => exact ⟨i :: ns, rfl⟩
    | _ => cases h1
theorem q_nsnN {S : Store} : cmpD S .nsn .non .non = some false := rfl
theorem q_nsnS {S : Store} {x : Str} : cmpD S .nsn (.str x) .non = some true := rfl
theorem none_left (q : D → Bool) (r : List D) : (!((r.filter fun y => !q y).map fun y => y).isEmpty) = !r.all q := by
  rw [map_id2]
  congr 1
  induction r with
  | nil => rfl
  | cons y r ih =>
    cases hq : q y with
    | true => rw [List.filter_cons_of_neg (by rw [hq]; simp), List.all_cons, hq, ih]; rfl
    | false => rw [List.filter_cons_of_pos (by rw [hq]; rfl), List.all_cons, hq]; rfl
theorem p6 : (10 : Int) ^ (6 : Int).toNat = 1000000 := by decide
end RR.N

set_option Elab.async false
set_option linter.all false
set_option maxRecDepth 100000
set_option maxHeartbeats 1000000
/-! the law's own ties and rings -/
namespace RR.N
open PySem L2
set_option hygiene false in
local macro_rules
  | `(tactic| sizeOf_list_dec) => `(tactic| first | with_reducible assumption | omega | (exact sm_of (by omega) (by omega)) | (simp only [List.length_map, List.length_append, List.length_cons, List.length_nil, rg_len]; omega))
set_option hygiene false in
local macro_rules
  | `(tactic| array_get_dec) => `(tactic| first
    | with_reducible first
      | exact q_add | exact q_sub | exact q_lt | exact q_le | exact q_gt | exact q_ge | exact q_eqi | exact q_nei | exact q_trb
      | exact q_eqp | exact q_ixp0 | exact q_ixp1
      | exact q_lenM | exact q_lenLM | exact q_lenT | exact q_lenL | exact q_tupT | exact q_tupL | exact q_sum | exact q_all | exact q_any | exact q_int | exact q_intb | exact q_mn2 | exact q_mx2 | exact q_abs
      | exact q_zipT | exact q_zipL | exact q_enmL | exact q_enmT | exact q_seqT | exact q_seqL
    | ((with_reducible apply q_mulA) <;> omega)
    | ((with_reducible apply q_mulB) <;> omega)
    | ((with_reducible apply q_pow) <;> decide)
    | ((with_reducible apply q_rg1) <;> sizeOf_list_dec) | ((with_reducible apply q_rg2) <;> sizeOf_list_dec)
    | ((with_reducible apply q_ixT) <;> sizeOf_list_dec) | ((with_reducible apply q_ixL) <;> sizeOf_list_dec))
set_option hygiene false in
local macro_rules
  | `(tactic| array_mem_dec) => `(tactic| first
    | with_reducible first
      | exact ev_int | exact ev_bl | exact ev_non | exact ev_str | exact ev_con | exact evs_nil
      | exact g0 | exact g1 | exact g2 | exact g3 | exact g4 | exact g5 | exact g6 | exact g7 | exact g8 | exact g9
    | ((with_reducible apply ev_varQ); exact ev_var rfl)
    | ((with_reducible apply evs_cons) <;> array_mem_dec)
    | ((with_reducible apply ev_bin) <;> array_mem_dec)
    | ((with_reducible apply ev_ix) <;> array_mem_dec)
    | ((with_reducible apply ev_cmp) <;> array_mem_dec)
    | ((with_reducible apply ev_tup) <;> array_mem_dec)
    | ((with_reducible apply ev_tupQ); apply ev_tup <;> array_mem_dec)
    | ((with_reducible apply ev_blt) <;> array_mem_dec)
    | ((with_reducible apply ev_frv) <;> array_mem_dec)
    | ((with_reducible apply ev_frr) <;> array_mem_dec)
    | ((with_reducible apply evl_dis) <;> array_mem_dec)
    | ((with_reducible apply ev_call) <;> array_mem_dec)
    | ((with_reducible apply itm_seq) <;> array_mem_dec)
    | ((with_reducible apply itm_rng) <;> array_mem_dec)
    | ((with_reducible apply itm_enm) <;> array_mem_dec)
    | ((with_reducible apply itm_zp) <;> array_mem_dec)
    | ((with_reducible apply evl_cmp0) <;> array_mem_dec)
    | ((with_reducible apply evl_cmp) <;> array_mem_dec)
    | ((with_reducible apply cnd_one) <;> array_mem_dec)
    | with_reducible first | exact asg_nm | exact asg_2 | exact asg_3 | exact asg_n2 | exact asg_2n
    | ((with_reducible apply ev_an) <;> array_mem_dec)
    | ((with_reducible apply ev_or) <;> array_mem_dec)
    | ((with_reducible apply ev_nt) <;> array_mem_dec)
    | ((with_reducible apply ev_neg) <;> array_mem_dec)
    | ((with_reducible apply ev_iteI) <;> array_mem_dec)
    | ((with_reducible apply ev_ite) <;> array_mem_dec)
    | array_get_dec
    | (intro _ <;> array_mem_dec)
    | sizeOf_list_dec)
theorem mem_prs {n : Int} {p : Int × Int} : p ∈ prs n ↔ 0 ≤ p.1 ∧ p.1 < p.2 ∧ p.2 < n := by
  unfold prs
  rw [List.mem_flatMap]
  constructor
  · rintro ⟨i, hi, hp⟩
    obtain ⟨j, hj, rfl⟩ := List.mem_map.mp hp
    have h1 := mem_rg.mp hi
    have h2 := mem_rg.mp hj
    exact ⟨h1.1, by show i < j; omega, h2.2⟩
  · rintro ⟨h0, h1, h2⟩
    exact ⟨p.1, mem_rg.mpr ⟨h0, by omega⟩, List.mem_map.mpr ⟨p.2, mem_rg.mpr ⟨by omega, h2⟩, rfl⟩⟩
def tied (a : List (List Int)) (p : Int × Int) : Bool := decide (0 < pl (pl a p.1) p.2 + pl (pl a p.2) p.1)
def tiesL (n : Nat) (a : List (List Int)) : List (Int × Int) := (prs n).filter (tied a)
theorem prs_le6 {n : Nat} (hn : n ≤ 6) : (prs n).length ≤ 6000 := by
  have := prs_le (n := n) (l := rg 0 n) (fun i hi => (mem_rg.mp hi).1) (by omega)
  rw [rg_len] at this
  unfold prs
  omega
theorem ties_eq {n : Nat} {a : List (List Int)} {S : Store} (ha : Sz n a) (hn : n ≤ 6) : s_ties [WT a] S = .ok (.lst ((tiesL n a).map prD)) S := by
  have la := ha.len
  refine fn_eq rfl ?_
  show Ends false S _ (exs [s_pairs] b_ties [some (WT a), none] S)
  have hp := pairs_eq (n := (a.length : Nat)) (S := S) (by omega) (by omega)
  have hl : (prs (a.length : Nat)).length ≤ 6000 := prs_le6 (by omega)
  refine st_ret (ev_frv (evl_cmp (xs := prs (a.length : Nat)) (f := prD) (p := tied a) (h := prD) (itm_seq (ev_call (evs_cons (ev_blt (evs_cons (ev_var rfl) evs_nil) q_lenM) evs_nil) rfl hp) q_seqL) (by omega) (fun _ _ => asg_nm) (fun p hp => ?_) (fun p _ _ => ev_var rfl))) ?_
  · have hp := mem_prs.mp hp
    rw [la] at hp
    have h1 := ha.at_ (i := p.1) (by omega) (by omega)
    have h2 := ha.at_ (i := p.2) (by omega) (by omega)
    unfold tied
    refine cnd_one (S1 := S) (x := .bl (decide (0 < pl (pl a p.1) p.2 + pl (pl a p.2) p.1))) ?_ q_trb
    array_mem_dec
  · rw [la]
    exact end_same (noRefs_map (fun _ => rfl) _)
/-! ### rings -/
def lst (w : List Int) : Int := pl w ((w.length - 1 : Nat) : Int)
def goesOn (T : List (Int × Int)) (w : List Int) (x : Int) : Bool := !decide (x ∈ w) && decide ((min (lst w) x, max (lst w) x) ∈ T)
def nextOf (n : Nat) (T : List (Int × Int)) (w : List Int) : List (List Int) := ((rg (pl w 0 + 1) n).filter (goesOn T w)).map fun x => w ++ [x]
def nextW (n : Nat) (T : List (Int × Int)) (ws : List (List Int)) : List (List Int) := ws.flatMap (nextOf n T)
def closes (T : List (Int × Int)) (size : Int) (w : List Int) : Bool := decide (2 < size) && (decide (pl w 1 < lst w) && decide ((pl w 0, lst w) ∈ T))
def ringsAt (n : Nat) (T : List (Int × Int)) : Nat → List (List Int) × List (List Int)
  | 0 => ((rg 0 n).map fun x => [x], [])
  | k + 1 => (nextW n T (ringsAt n T k).1, (ringsAt n T k).2 ++ sortT ((nextW n T (ringsAt n T k).1).filter (closes T ((k : Int) + 2))))
/-- a way of so many places -/
def IsW (n k : Nat) (w : List Int) : Prop := w.length = k ∧ ∀ x ∈ w, 0 ≤ x ∧ x < n
theorem nextOf_w {n k : Nat} {T : List (Int × Int)} {w : List Int} (h : IsW n k w) (hk : 1 ≤ k) {v : List Int} (hv : v ∈ nextOf n T w) : IsW n (k + 1) v := by
  obtain ⟨x, hx, rfl⟩ := List.mem_map.mp hv
  have hx := mem_rg.mp (List.mem_filter.mp hx).1
  have h0 := h.2 _ (pl_mem (xs := w) (i := 0) (by omega) (by have := h.1; omega))
  refine ⟨by rw [List.length_append, h.1]; rfl, fun y hy => ?_⟩
  rcases List.mem_append.mp hy with q | q
  · exact h.2 y q
  · rw [List.mem_singleton.mp q]; omega
theorem ways_w {n : Nat} {T : List (Int × Int)} : ∀ (k : Nat) (w : List Int), w ∈ (ringsAt n T k).1 → IsW n (k + 1) w
  | 0, w, h => by
    obtain ⟨x, hx, rfl⟩ := List.mem_map.mp h
    have hx := mem_rg.mp hx
    exact ⟨rfl, fun y hy => by rw [List.mem_singleton.mp hy]; exact hx⟩
  | k + 1, v, h => by
    obtain ⟨w, hw, hv⟩ := List.mem_flatMap.mp h
    exact nextOf_w (ways_w k w hw) (by omega) hv
theorem next_le {n k : Nat} {T : List (Int × Int)} (hn : n ≤ 6) (hk : 1 ≤ k) : ∀ {ws : List (List Int)}, (∀ w ∈ ws, IsW n k w) → (nextW n T ws).length ≤ ws.length * 6
  | [], _ => by simp [nextW]
  | w :: ws, h => by
    have ih := next_le (T := T) hn hk (ws := ws) fun v hv => h v (List.mem_cons_of_mem _ hv)
    have hw := h w List.mem_cons_self
    have h0 := hw.2 _ (pl_mem (xs := w) (i := 0) (by omega) (by have := hw.1; omega))
    have h1 : (nextOf n T w).length ≤ 6 := by
      unfold nextOf
      rw [List.length_map]
      refine Nat.le_trans (List.length_filter_le _ _) ?_
      rw [rg_len]
      omega
    unfold nextW at ih ⊢
    rw [List.flatMap_cons, List.length_append, List.length_cons, Nat.succ_mul]
    omega
theorem ways_le {n : Nat} {T : List (Int × Int)} (hn : n ≤ 6) : ∀ k : Nat, (ringsAt n T k).1.length ≤ 6 ^ (k + 1)
  | 0 => by
    show ((rg 0 n).map fun x => [x]).length ≤ _
    rw [List.length_map, rg_len]; omega
  | k + 1 => by
    refine Nat.le_trans (next_le hn (by omega) (ways_w k)) ?_
    rw [Nat.pow_succ 6 (k + 1)]
    exact Nat.mul_le_mul_right _ (ways_le hn k)
theorem sortT_len (ws : List (List Int)) : (sortT ws).length = ws.length := List.length_mergeSort _
theorem mem_sortT {ws : List (List Int)} {w : List Int} : w ∈ sortT ws ↔ w ∈ ws := List.mem_mergeSort
theorem found_le {n : Nat} {T : List (Int × Int)} (hn : n ≤ 6) : ∀ k : Nat, k ≤ 5 → (ringsAt n T k).2.length ≤ k * 46656
  | 0, _ => Nat.zero_le _
  | k + 1, hk => by
    show ((ringsAt n T k).2 ++ sortT _).length ≤ _
    rw [List.length_append, sortT_len]
    have h1 := found_le hn (T := T) k (by omega)
    have h2 := List.length_filter_le (closes T ((k : Int) + 2)) (nextW n T (ringsAt n T k).1)
    have h3 : (nextW n T (ringsAt n T k).1).length ≤ 6 ^ (k + 1 + 1) := ways_le hn (k + 1)
    have h4 : 6 ^ (k + 1 + 1) ≤ 6 ^ 6 := Nat.pow_le_pow_right (by decide) (by omega)
    have h5 : (6 : Nat) ^ 6 = 46656 := by decide
    rw [Nat.succ_mul]
    omega
theorem found_w {n : Nat} {T : List (Int × Int)} : ∀ (k : Nat) (w : List Int), w ∈ (ringsAt n T k).2 → 3 ≤ w.length ∧ w.length ≤ k + 1 ∧ ∀ x ∈ w, 0 ≤ x ∧ x < n
  | 0, w, h => nomatch h
  | k + 1, w, h => by
    rcases List.mem_append.mp h with q | q
    · have := found_w k w q
      exact ⟨this.1, by omega, this.2.2⟩
    · have q := mem_sortT.mp q
      have h1 := ways_w (k + 1) w ((List.mem_filter.mp q).1)
      have h2 := (List.mem_filter.mp q).2
      unfold closes at h2
      have h3 := of_decide_eq_true (Bool.and_eq_true_iff.mp h2).1
      have h4 := h1.1
      exact ⟨by omega, by omega, h1.2⟩
theorem intsT_map : ∀ {ws : List (List Int)}, (∀ w ∈ ws, w ≠ []) → intsT (ws.map TI) = some ws
  | [], _ => rfl
  | w :: ws, h => by
    have hw := h w List.mem_cons_self
    rw [List.map_cons]
    unfold intsT
    rw [intsD_map, intsT_map fun v hv => h v (List.mem_cons_of_mem _ hv)]
    cases w with
    | nil => exact absurd rfl hw
    | cons x w => rfl
theorem q_srtT {S : Store} {ws : List (List Int)} (h : ∀ w ∈ ws, w ≠ []) : bltD S .srt [.lst (ws.map TI)] = some (.lst ((sortT ws).map TI)) := by
  show (sortD (ws.map TI)).map D.lst = _
  cases ws with
  | nil =>
    show some (D.lst ((sortI []).map .int)) = some (D.lst ((sortT []).map TI))
    simp [sortI, sortT]
  | cons w ws =>
    have e : intsD ((w :: ws).map TI) = none := rfl
    unfold sortD
    rw [e, intsT_map h]; rfl
theorem end_mid {S X : Store} {xs : List D} (h : noRefs xs = true) : Ends false S (EqR (.ok (.lst xs) S)) (.ret (.ref S.length) (S ++ .lst xs :: X)) := by
  show fin false S (.ref S.length) (S ++ .lst xs :: X) = _
  unfold fin
  rw [if_neg Bool.false_ne_true, if_pos (agree_app S _)]
  have ea : (S ++ Ob.lst xs :: X)[S.length]? = some (.lst xs) := by simp
  have e : fzD (S ++ .lst xs :: X) S.length (.ref S.length) = some (.lst xs) := by
    unfold fzD
    rw [if_neg (by simp [noRef])]
    show (if S.length < S.length then some (D.ref S.length) else obFz S.length _ (S ++ Ob.lst xs :: X)[S.length]?) = _
    rw [if_neg (by omega), ea]
    show (fzsR S.length _ xs).map D.lst = _
    rw [RR.fz_all xs h]
    rfl
  rw [e]
  show R.ok _ _ = _
  rw [List.take_left' rfl]
theorem lst_ix {S : Store} {w : List Int} (h : w ≠ []) : ixD S (TI w) (.int (-1)) = some (.int (lst w)) := by
  have hl : 0 < w.length := List.length_pos_iff.mpr h
  exact atI_neg (k := 1) (by omega) hl
theorem st_extR {G : List Fn} {ss : Sms} {r : Env} {S : Store} {P : Fl → Prop} {a e : E} {n : Nat} {xs ys : List D} (h : ev G a r S = .ok (.ref n) S) (h2 : ev G e r S = .ok (.lst ys) S) (hn : S[n]? = some (.lst xs)) (hl : xs.length + ys.length ≤ 16777216)
    (k : P (exs G ss r (S.set n (.lst (xs ++ ys))))) : P (exs G (.cons (.exp (.met .extend a (.cons e .nil))) ss) r S) :=
  st_exp (ev_met h (evs_cons h2 evs_nil) (m_ext hn hl)) k
theorem rings_eq {n : Nat} {a : List (List Int)} {S : Store} (ha : Sz n a) (hn : n ≤ 6) (hn1 : 1 ≤ n) : s_rings [WT a] S = .ok (.lst ((ringsAt n (tiesL n a) (n - 1)).2.map TI)) S := by
  have la := ha.len
  refine fn_eq rfl ?_
  show Ends false S _ (exs [s_ties] b_rings [some (WT a), none, none, none, none, none, none, none, none] S)
  have ht := ties_eq (S := S) ha hn
  generalize hT : tiesL n a = T at *
  refine st_asg (d := .tup [.lst (T.map prD), .ref S.length, .lst (((rg 0 n).map fun x => [x]).map TI)]) (S1 := S ++ [.lst []]) ?_ asg_3 ?_
  · refine ev_tup (evs_cons (ev_call (evs_cons (ev_var rfl) evs_nil) rfl ht) (evs_cons (ev_frr (evl_dis evs_nil)) (evs_cons (ev_frv ?_) evs_nil)))
    rw [List.map_map]
    refine evl_cmp0 (xs := rg 0 n) (f := .int) (itm_rng (evs_cons (ev_blt (evs_cons (ev_var rfl) evs_nil) (q_lenM.trans (by rw [la]))) evs_nil) (q_rg1 (sm_of (by omega) (by omega)) (by omega))) (by rw [rg_len]; omega) (fun _ _ => asg_nm) (fun x _ => ev_tup (evs_cons (ev_var rfl) evs_nil))
  refine st_for (xs := rg 2 ((n : Int) + 1)) (f := .int) (g := none) (S1 := S ++ [.lst []]) (fun done r S' => ∃ d4 j6 X, r = [some (WT a), none, some (.lst (T.map prD)), some (.ref S.length), some d4, none, j6, none, none] ∧ S' = S ++ .lst ((ringsAt n T done.length).2.map TI) :: X ∧ (∃ g, seqI S' d4 = some ((ringsAt n T done.length).1.map TI, g) ∧ gdOk g S' ∧ ∀ Y, gdOk g (S' ++ Y) ∧ seqI (S' ++ Y) d4 = some ((ringsAt n T done.length).1.map TI, g))) ?_ ?_ (fun _ _ _ _ => trivial) ?_ ?_
  · refine itm_rng (evs_cons ev_int (evs_cons (ev_bin (ev_blt (evs_cons (ev_var rfl) evs_nil) (q_lenM.trans (by rw [la]))) ev_int q_add) evs_nil)) (q_rg2 (by decide) (sm_of (by omega) (by omega)) (by omega))
  · exact ⟨_, none, [], rfl, rfl, none, rfl, trivial, fun _ => ⟨trivial, rfl⟩⟩
  · rintro done size hs ⟨rest, hd⟩ _ _ ⟨d4, j6, X, rfl, rfl, g, g1, g2, g3⟩
    have hs := mem_rg.mp hs
    have hsz : size = (done.length : Int) + 2 ∧ done.length ≤ 4 := by
      have h1 := congrArg List.length hd
      rw [List.length_append, rg_len, List.length_cons] at h1
      have h2 := congrArg (fun l => l[done.length]?) hd
      simp only [List.getElem?_append_right (Nat.le_refl _), Nat.sub_self, List.getElem?_cons_zero] at h2
      rw [rg_get (by omega)] at h2
      have h2 := Option.some.inj h2
      omega
    obtain ⟨hsz, hdl⟩ := hsz
    have hways := ways_w (n := n) (T := T) done.length
    have hwl := ways_le (n := n) (T := T) hn done.length
    have hwl2 : (6 : Nat) ^ (done.length + 1) ≤ 6 ^ 5 := Nat.pow_le_pow_right (by decide) (by omega)
    have h65 : (6 : Nat) ^ 5 = 7776 := by decide
    have hfl := found_le (n := n) (T := T) hn done.length (by omega)
    generalize hF : (ringsAt n T done.length).2 = F at *
    generalize hW : (ringsAt n T done.length).1 = W at *
    obtain ⟨T0, hT0⟩ : ∃ T0 : Store, T0 = S ++ .lst (F.map TI) :: X := ⟨_, rfl⟩
    rw [← hT0] at g1 g2 g3 ⊢
    refine ⟨_, _, asg_nm, ?_⟩
    refine st_asg (d := .ref T0.length) (S1 := T0 ++ [.lst []]) (ev_frr (evl_dis evs_nil)) asg_nm ?_
    refine st_for (xs := W) (f := TI) (g := g) (S1 := T0 ++ [.lst []]) (fun d2 r S' => ∃ j6, r = [some (WT a), some (.int size), some (.lst (T.map prD)), some (.ref S.length), some d4, some (.ref T0.length), j6, none, none] ∧ S' = T0 ++ [.lst ((nextW n T d2).map TI)]) (itm_seq (ev_var rfl) (g3 _).2) ⟨j6, rfl, rfl⟩ ?_ ?_ ?_
    · rintro _ _ _ ⟨_, _, rfl⟩
      exact (g3 _).1
    · rintro d2 w hw ⟨rest2, hd2⟩ _ _ ⟨j6, rfl, rfl⟩
      have hww := hways w hw
      have hw0 := hww.2 _ (pl_mem (xs := w) (i := 0) (by omega) (by have := hww.1; omega))
      have hwne : w ≠ [] := by
        intro h; have := hww.1; rw [h] at this; simp at this
      have hd2l : d2.length ≤ 7776 := by
        have := congrArg List.length hd2
        rw [List.length_append] at this
        omega
      have hnl := next_le (T := T) hn (by omega) (ws := d2) (fun v hv => hways v (by rw [← hd2]; exact List.mem_append_left _ hv))
      refine ⟨_, _, asg_nm, ?_⟩
      refine st_for (xs := rg (pl w 0 + 1) n) (f := .int) (g := none) (S1 := T0 ++ [.lst ((nextW n T d2).map TI)]) (fun d3 r S' => r = [some (WT a), some (.int size), some (.lst (T.map prD)), some (.ref S.length), some d4, some (.ref T0.length), some (TI w), none, none] ∧ S' = T0 ++ [.lst ((nextW n T d2 ++ (d3.filter (goesOn T w)).map fun x => w ++ [x]).map TI)]) ?_ ?_ (fun _ _ _ _ => trivial) ?_ ?_
      · refine itm_rng (evs_cons (ev_bin (ev_ix (ev_var rfl) ev_int (q_ixT (by omega) (by have := hww.1; omega))) ev_int q_add) (evs_cons (ev_blt (evs_cons (ev_var rfl) evs_nil) (q_lenM.trans (by rw [la]))) evs_nil)) (q_rg2 (sm_of (by omega) (by omega)) (sm_of (by omega) (by omega)) (by omega))
      · refine ⟨rfl, ?_⟩
        show _ = T0 ++ [.lst ((nextW n T d2 ++ []).map TI)]
        rw [List.append_nil]
      · rintro d3 x hx ⟨rest3, hd3⟩ _ _ ⟨rfl, rfl⟩
        have hx := mem_rg.mp hx
        have hd3l : d3.length ≤ 6 := by
          have := congrArg List.length hd3
          rw [List.length_append, rg_len] at this
          omega
        have hfl2 := List.length_filter_le (goesOn T w) d3
        refine ⟨_, _, asg_nm, ?_⟩
        refine st_ift (v := goesOn T w x) (S1 := T0 ++ [.lst ((nextW n T d2 ++ (d3.filter (goesOn T w)).map fun x => w ++ [x]).map TI)]) (r2 := [some (WT a), some (.int size), some (.lst (T.map prD)), some (.ref S.length), some d4, some (.ref T0.length), some (TI w), some (.int x), none]) (S2 := T0 ++ [.lst ((nextW n T d2 ++ ((d3 ++ [x]).filter (goesOn T w)).map fun x => w ++ [x]).map TI)]) ?_ (fun hv => ?_) (fun hv => ?_) ?_
        · unfold goesOn
          refine ev_an (p := !decide (x ∈ w)) (ev_cmp (ev_var rfl) (ev_var rfl) (pyI.q_ninT (by omega))) fun _ => ?_
          refine ev_cmp (x := prD (min (lst w) x, max (lst w) x)) (ev_tup (evs_cons (ev_blt (evs_cons (ev_ix (ev_var rfl) (ev_neg ev_int) (lst_ix hwne)) (evs_cons (ev_var rfl) evs_nil)) q_mn2) (evs_cons (ev_blt (evs_cons (ev_ix (ev_var rfl) (ev_neg ev_int) (lst_ix hwne)) (evs_cons (ev_var rfl) evs_nil)) q_mx2) evs_nil))) (ev_var rfl) (pyP.q_inL (by omega))
        · show EqF _ (exs _ _ _ _)
          refine st_appL (d := TI (w ++ [x])) (ev_var rfl) (ev_bin (ev_var rfl) (ev_tup (evs_cons (ev_var rfl) evs_nil)) ?_) ?_ (st_nil ?_)
          · rw [q_addT (by rw [List.length_map, hww.1]; show done.length + 1 + 1 ≤ _; omega)]
            show _ = some (D.tup ((w ++ [x]).map .int))
            rw [List.map_append]; rfl
          · rw [List.length_map, List.length_append, List.length_map]
            omega
          · show Fl.next _ _ = _
            rw [List.filter_append, List.filter_cons_of_pos hv, List.filter_nil, List.map_append, List.map_append, List.map_append, List.append_assoc, List.map_append]
            rfl
        · refine ⟨rfl, ?_⟩
          rw [List.filter_append, List.filter_cons_of_neg (by rw [hv]; simp), List.filter_nil, List.append_nil]
        · exact st_fgt (st_nil (goes ⟨rfl, rfl⟩))
      · rintro _ _ ⟨rfl, rfl⟩
        refine st_nil (goes ⟨some (TI w), rfl, ?_⟩)
        unfold nextW
        rw [List.flatMap_append, List.flatMap_singleton]
        rfl
    · rintro _ _ ⟨j6, rfl, rfl⟩
      have hnw : ∀ w ∈ nextW n T W, IsW n (done.length + 1 + 1) w := fun v hv => by
        obtain ⟨w, hw, hv⟩ := List.mem_flatMap.mp hv
        exact nextOf_w (hways w hw) (by omega) hv
      have hnl := next_le (T := T) hn (by omega) (ws := W) hways
      refine st_asg (d := .ref T0.length) (ev_var rfl) asg_nm ?_
      refine st_extR (n := S.length) (xs := F.map TI) (ys := (sortT ((nextW n T W).filter (closes T size))).map TI) (ev_var rfl) (ev_blt (evs_cons (ev_frv ?_) evs_nil) (q_srtT fun w hw h => ?_)) ?_ ?_ ?_
      · refine evl_cmpG (xs := nextW n T W) (f := TI) (p := closes T size) (h := TI) (itm_seq (ev_var rfl) (q_seqR app_at)) (by omega) app_at (fun _ _ => asg_nm) (fun w hw => ?_) (fun w _ _ => ev_var rfl)
        have hww := hnw w hw
        have hwne : w ≠ [] := by
          intro h; have := hww.1; rw [h] at this; simp at this
        refine cnd_one (x := .bl (closes T size w)) ?_ q_trb
        unfold closes
        refine ev_an (p := decide (2 < size)) (ev_cmp (ev_var rfl) ev_int q_gt) fun _ => ?_
        refine ev_an (p := decide (pl w 1 < lst w)) (ev_cmp (ev_ix (ev_var rfl) ev_int (q_ixT (by omega) (by rw [hww.1]; omega))) (ev_ix (ev_var rfl) (ev_neg ev_int) (lst_ix hwne)) q_lt) fun _ => ?_
        exact ev_cmp (x := prD (pl w 0, lst w)) (ev_tup (evs_cons (ev_ix (ev_var rfl) ev_int (q_ixT (by omega) (by rw [hww.1]; omega))) (evs_cons (ev_ix (ev_var rfl) (ev_neg ev_int) (lst_ix hwne)) evs_nil))) (ev_var rfl) (pyP.q_inL (by omega))
      · have := (hnw w ((List.mem_filter.mp hw).1)).1
        rw [h] at this
        simp at this
      · rw [hT0, List.append_assoc, List.getElem?_append_right (Nat.le_refl _), Nat.sub_self]; rfl
      · have := List.length_filter_le (closes T size) (nextW n T W)
        rw [List.length_map, List.length_map, sortT_len]
        omega
      · have hst : (T0 ++ [Ob.lst ((nextW n T W).map TI)]).set S.length (.lst (F.map TI ++ (sortT ((nextW n T W).filter (closes T size))).map TI)) = S ++ .lst (F.map TI ++ (sortT ((nextW n T W).filter (closes T size))).map TI) :: (X ++ [.lst ((nextW n T W).map TI)]) := by
          rw [hT0, List.append_assoc, List.cons_append, set_mid]
        have hl0 : T0.length = S.length + 1 + X.length := by rw [hT0, List.length_append, List.length_cons]; omega
        rw [hst]
        refine st_fgt (st_nil (goes ⟨.ref T0.length, j6, X ++ [.lst ((nextW n T W).map TI)], rfl, ?_, some (T0.length, (nextW n T W).map TI), ?_⟩))
        · rw [List.length_append, List.length_singleton]
          show _ = S ++ Ob.lst (((ringsAt n T done.length).2 ++ sortT ((nextW n T (ringsAt n T done.length).1).filter (closes T ((done.length : Int) + 2)))).map TI) :: _
          rw [hF, hW, ← hsz, List.map_append]
        · have eat : ∀ Y : Store, (S ++ Ob.lst (F.map TI ++ (sortT ((nextW n T W).filter (closes T size))).map TI) :: (X ++ [Ob.lst ((nextW n T W).map TI)]) ++ Y)[T0.length]? = some (.lst ((nextW n T W).map TI)) := fun Y => by
            rw [List.append_assoc, List.getElem?_append_right (by omega), List.cons_append, hl0, show S.length + 1 + X.length - S.length = X.length + 1 by omega, List.getElem?_cons_succ, List.append_assoc, List.getElem?_append_right (Nat.le_refl _), Nat.sub_self]; rfl
          have er : (ringsAt n T (done ++ [size]).length).1 = nextW n T W := by
            rw [List.length_append, List.length_singleton]
            show nextW n T (ringsAt n T done.length).1 = _
            rw [hW]
          rw [er]
          have e0 := eat []
          rw [List.append_nil] at e0
          exact ⟨q_seqR e0, e0, fun Y => ⟨eat Y, q_seqR (eat Y)⟩⟩
  · rintro _ _ ⟨d4, j6, X, rfl, rfl, _⟩
    have e : (rg 2 ((n : Int) + 1)).length = n - 1 := by rw [rg_len]; omega
    rw [e]
    exact st_ret (ev_var rfl) (end_mid (noRefs_map (fun w => noRef_TI w) _))
end RR.N

set_option Elab.async false
set_option linter.all false
set_option maxRecDepth 100000
set_option maxHeartbeats 1000000
/-! rows as objects of the store, whatever they hold -/
namespace RR.N
open PySem L2
set_option hygiene false in
local macro_rules
  | `(tactic| sizeOf_list_dec) => `(tactic| first | with_reducible assumption | omega | (exact sm_of (by omega) (by omega)) | (simp only [List.length_map, List.length_append, List.length_cons, List.length_nil, rg_len]; omega))
set_option hygiene false in
local macro_rules
  | `(tactic| array_get_dec) => `(tactic| first
    | with_reducible first
      | exact q_add | exact q_sub | exact q_lt | exact q_le | exact q_gt | exact q_ge | exact q_eqi | exact q_nei | exact q_trb
      | exact q_eqp | exact q_ixp0 | exact q_ixp1
      | exact q_lenM | exact q_lenLM | exact q_lenT | exact q_lenL | exact q_tupT | exact q_tupL | exact q_sum | exact q_all | exact q_any | exact q_int | exact q_intb | exact q_mn2 | exact q_mx2 | exact q_abs
      | exact q_zipT | exact q_zipL | exact q_enmL | exact q_enmT | exact q_seqT | exact q_seqL
    | ((with_reducible apply q_mulA) <;> omega)
    | ((with_reducible apply q_mulB) <;> omega)
    | ((with_reducible apply q_pow) <;> decide)
    | ((with_reducible apply q_rg1) <;> sizeOf_list_dec) | ((with_reducible apply q_rg2) <;> sizeOf_list_dec)
    | ((with_reducible apply q_ixT) <;> sizeOf_list_dec) | ((with_reducible apply q_ixL) <;> sizeOf_list_dec))
set_option hygiene false in
local macro_rules
  | `(tactic| array_mem_dec) => `(tactic| first
    | with_reducible first
      | exact ev_int | exact ev_bl | exact ev_non | exact ev_str | exact ev_con | exact evs_nil
      | exact g0 | exact g1 | exact g2 | exact g3 | exact g4 | exact g5 | exact g6 | exact g7 | exact g8 | exact g9
    | ((with_reducible apply ev_varQ); exact ev_var rfl)
    | ((with_reducible apply evs_cons) <;> array_mem_dec)
    | ((with_reducible apply ev_bin) <;> array_mem_dec)
    | ((with_reducible apply ev_ix) <;> array_mem_dec)
    | ((with_reducible apply ev_cmp) <;> array_mem_dec)
    | ((with_reducible apply ev_tup) <;> array_mem_dec)
    | ((with_reducible apply ev_tupQ); apply ev_tup <;> array_mem_dec)
    | ((with_reducible apply ev_blt) <;> array_mem_dec)
    | ((with_reducible apply ev_frv) <;> array_mem_dec)
    | ((with_reducible apply ev_frr) <;> array_mem_dec)
    | ((with_reducible apply evl_dis) <;> array_mem_dec)
    | ((with_reducible apply ev_call) <;> array_mem_dec)
    | ((with_reducible apply itm_seq) <;> array_mem_dec)
    | ((with_reducible apply itm_rng) <;> array_mem_dec)
    | ((with_reducible apply itm_enm) <;> array_mem_dec)
    | ((with_reducible apply itm_zp) <;> array_mem_dec)
    | ((with_reducible apply evl_cmp0) <;> array_mem_dec)
    | ((with_reducible apply evl_cmp) <;> array_mem_dec)
    | ((with_reducible apply cnd_one) <;> array_mem_dec)
    | with_reducible first | exact asg_nm | exact asg_2 | exact asg_3 | exact asg_n2 | exact asg_2n
    | ((with_reducible apply ev_an) <;> array_mem_dec)
    | ((with_reducible apply ev_or) <;> array_mem_dec)
    | ((with_reducible apply ev_nt) <;> array_mem_dec)
    | ((with_reducible apply ev_neg) <;> array_mem_dec)
    | ((with_reducible apply ev_iteI) <;> array_mem_dec)
    | ((with_reducible apply ev_ite) <;> array_mem_dec)
    | array_get_dec
    | (intro _ <;> array_mem_dec)
    | sizeOf_list_dec)
def MG (rows : List (List D)) : Store := rows.map Ob.lst
theorem mg_get {cs : List Int} {k : Int} {T : Store} {rows : List (List D)} (i : Nat) : (RR.dk cs k (T ++ MG rows))[T.length + 2 + i]? = (rows[i]?).map Ob.lst := by
  unfold RR.dk
  rw [show T.length + 2 + i = (T.length + i) + 1 + 1 by omega, List.getElem?_cons_succ, List.getElem?_cons_succ, List.getElem?_append_right (by omega), Nat.add_sub_cancel_left]
  unfold MG
  rw [List.getElem?_map]
theorem mg_at {cs : List Int} {k : Int} {T : Store} {rows : List (List D)} {i : Nat} {row : List D} (h : rows[i]? = some row) : (RR.dk cs k (T ++ MG rows))[T.length + 2 + i]? = some (.lst row) := by rw [mg_get, h]; rfl
theorem mg_set {cs : List Int} {k : Int} {T : Store} {rows : List (List D)} {i : Nat} {j : Int} {d : D} {row : List D} (h : rows[i]? = some row) (h0 : 0 ≤ j) (h1 : j < row.length) :
    subD (RR.dk cs k (T ++ MG rows)) (.ref (T.length + 2 + i)) (.int j) d = some (RR.dk cs k (T ++ MG (rows.set i (row.set j.toNat d)))) := by
  show (match (RR.dk cs k (T ++ MG rows))[T.length + 2 + i]? with
    | some (.lst xs) => (ixN xs.length j).map fun q => (RR.dk cs k (T ++ MG rows)).set (T.length + 2 + i) (.lst (xs.set q d))
    | none => none) = _
  rw [mg_at h]
  show (ixN row.length j).map _ = _
  unfold ixN
  rw [if_pos h0, if_pos h1]
  show some ((RR.dk cs k (T ++ MG rows)).set (T.length + 2 + i) (.lst (row.set j.toNat d))) = _
  congr 1
  unfold RR.dk
  rw [show T.length + 2 + i = (T.length + i) + 1 + 1 by omega, List.set_cons_succ, List.set_cons_succ, RR.app_right]
  congr 3
  unfold MG
  rw [List.map_set]
theorem refs_len {t n : Nat} : (RR.refs t n).length = n := by unfold RR.refs; simp
theorem tuplesG_ok {cs : List Int} {k : Int} {T : Store} {rows : List (List D)} {n : Nat} (h : rows.length = n) (hn : n ≤ 1000) (hr : ∀ row ∈ rows, noRefs row = true) :
    s_tuples [.lst (RR.refs T.length n)] (RR.dk cs k (T ++ MG rows)) = .ok (.tup (rows.map D.tup)) (RR.dk cs k (T ++ MG rows)) := by
  refine fn_eq rfl ?_
  show Ends false _ _ (exs [] b_tuples [some (.lst (RR.refs T.length n)), none] (RR.dk cs k (T ++ MG rows)))
  have e : (List.range n).map (fun i => D.tup (rows.getD i [])) = rows.map D.tup := by
    refine List.ext_getElem? fun i => ?_
    rw [List.getElem?_map, List.getElem?_map]
    by_cases hi : i < n
    · rw [List.getElem?_range hi, List.getElem?_eq_getElem (by omega : i < rows.length)]
      show some (D.tup (rows.getD i [])) = some (D.tup rows[i])
      rw [List.getD_eq_getElem?_getD, List.getElem?_eq_getElem (by omega : i < rows.length)]; rfl
    · rw [List.getElem?_eq_none (by simp; omega), List.getElem?_eq_none (by omega)]; rfl
  refine st_ret (d := .tup (rows.map D.tup)) ?_ (end_same (noRefs_mapM _ fun row h => hr row h))
  rw [← e]
  refine ev_blt (evs_cons (ev_frv (evl_cmp0 (xs := List.range n) (f := fun i => .ref (T.length + 2 + i)) (h := fun i => D.tup (rows.getD i [])) (itm_seq (ev_var rfl) q_seqL) (by rw [List.length_range]; omega) (fun _ _ => asg_nm) fun i hi => ?_)) evs_nil) q_tupL
  rw [List.mem_range] at hi
  have hg : rows[i]? = some (rows.getD i []) := by
    rw [List.getD_eq_getElem?_getD, List.getElem?_eq_getElem (by omega : i < rows.length)]; rfl
  exact ev_blt (evs_cons (ev_var rfl) evs_nil) (q_tupR (mg_at hg))
/-- the rows that a def kept, told as values -/
theorem fin_rows {cs cs' : List Int} {k k' : Int} {T : Store} {rows : List (List Int)} {n : Nat} (h : rows.length = n) :
    fin false (RR.dk cs k T) (.lst (RR.refs T.length n)) (RR.dk cs' k' (T ++ RR.MT rows)) = .ok (.lst (rows.map fun row => .lst (row.map .int))) (RR.dk cs' k' T) := by
  unfold fin
  rw [if_neg Bool.false_ne_true, if_pos (agree_dk (by rw [RR.dk_len]; omega)), RR.dk_len]
  have key : ∀ (r : Nat → Option D), (∀ i < n, r (T.length + 2 + i) = some (.lst ((rows.getD i []).map .int))) → ∀ l : List Nat, (∀ i ∈ l, i < n) → fzsR (T.length + 2) r (l.map fun i => .ref (T.length + 2 + i)) = some (l.map fun i => .lst ((rows.getD i []).map .int)) := by
    intro r hr l
    induction l with
    | nil => intro _; rfl
    | cons i l ih =>
      intro hl
      rw [List.map_cons, List.map_cons]
      unfold fzsR
      rw [ih fun j hj => hl j (List.mem_cons_of_mem _ hj)]
      show (match (if T.length + 2 + i < T.length + 2 then some (D.ref (T.length + 2 + i)) else r (T.length + 2 + i)), _ with
        | some d, some ds => some (d :: ds)
        | _, _ => none) = _
      rw [if_neg (by omega), hr i (hl i List.mem_cons_self)]
  have eq : (List.range n).map (fun i => D.lst ((rows.getD i []).map .int)) = rows.map fun row => .lst (row.map .int) := by
    refine List.ext_getElem? fun i => ?_
    rw [List.getElem?_map, List.getElem?_map]
    by_cases hi : i < n
    · rw [List.getElem?_range hi, List.getElem?_eq_getElem (by omega : i < rows.length)]
      show some (D.lst ((rows.getD i []).map .int)) = some _
      rw [List.getD_eq_getElem?_getD, List.getElem?_eq_getElem (by omega : i < rows.length)]; rfl
    · rw [List.getElem?_eq_none (by simp; omega), List.getElem?_eq_none (by omega)]; rfl
  have e : fzD (RR.dk cs' k' (T ++ RR.MT rows)) (T.length + 2) (.lst (RR.refs T.length n)) = some (.lst (rows.map fun row => .lst (row.map .int))) := by
    unfold fzD
    by_cases hq : noRef (.lst (RR.refs T.length n)) = true
    · rw [if_pos hq]
      cases n with
      | zero =>
        have : rows = [] := List.length_eq_zero_iff.mp h
        subst this; rfl
      | succ n =>
        exfalso
        unfold RR.refs at hq
        rw [List.range_succ_eq_map, List.map_cons] at hq
        simp [noRef, noRefs] at hq
    · rw [if_neg hq]
      show (fzsR (T.length + 2) _ (RR.refs T.length n)).map D.lst = _
      unfold RR.refs
      rw [key _ (fun i hi => ?_) (List.range n) (fun i hi => List.mem_range.mp hi), eq]; rfl
      have hg : rows[i]? = some (rows.getD i []) := by
        rw [List.getD_eq_getElem?_getD, List.getElem?_eq_getElem (by omega : i < rows.length)]; rfl
      rw [RR.mt_at hg]
      show (fzsR (T.length + 2) _ ((rows.getD i []).map .int)).map D.lst = _
      rw [RR.fz_all _ (noRefs_map (fun _ => rfl) _)]; rfl
  rw [e]
  show R.ok _ _ = _
  congr 1
  show (RR.dk cs' k' (T ++ RR.MT rows)).take (T.length + 2) = RR.dk cs' k' T
  unfold RR.dk
  simp
/-- a def that keeps what it makes, and the same that does not -/
theorem keep_ret {G : List Fn} {b : Sms} {np ns : Nat} {args : List D} {S S1 : Store} {d : D} (hd : d ≠ .non) (h : runF G ⟨np, ns, true, b⟩ args S = .ok d S1) : runF G ⟨np, ns, false, b⟩ args S = fin false S d S1 := by
  unfold runF at h ⊢
  split at h
  · rename_i hl
    rw [if_pos hl]
    show exitR false S (exs G b (args.map some ++ List.replicate (ns - np) none) S) = _
    have h2 : exitR true S (exs G b (args.map some ++ List.replicate (ns - np) none) S) = .ok d S1 := h
    cases ho : exs G b (args.map some ++ List.replicate (ns - np) none) S with
    | next r S2 =>
      rw [ho] at h2
      have h3 : fin true S .non S2 = .ok d S1 := h2
      rw [fin_keep] at h3
      cases h3
      exact absurd rfl hd
    | ret d2 S2 =>
      rw [ho] at h2
      have h3 : fin true S d2 S2 = .ok d S1 := h2
      rw [fin_keep] at h3
      cases h3
      rfl
    | exc c fs r S2 =>
      rw [ho] at h2
      simp only [exitR] at h2
      split at h2 <;> cases h2
    | brk r S2 => rw [ho] at h2; cases h2
    | con r S2 => rw [ho] at h2; cases h2
    | bad => rw [ho] at h2; cases h2
  · cases h
end RR.N

set_option Elab.async false
set_option linter.all false
set_option maxRecDepth 100000
set_option maxHeartbeats 1000000
namespace RR.N
open PySem L2
set_option hygiene false in
local macro_rules
  | `(tactic| sizeOf_list_dec) => `(tactic| first | with_reducible assumption | omega | (exact sm_of (by omega) (by omega)) | (simp only [List.length_map, List.length_append, List.length_cons, List.length_nil, rg_len]; omega))
set_option hygiene false in
local macro_rules
  | `(tactic| array_get_dec) => `(tactic| first
    | with_reducible first
      | exact q_add | exact q_sub | exact q_lt | exact q_le | exact q_gt | exact q_ge | exact q_eqi | exact q_nei | exact q_trb
      | exact q_eqp | exact q_ixp0 | exact q_ixp1
      | exact q_lenM | exact q_lenLM | exact q_lenT | exact q_lenL | exact q_tupT | exact q_tupL | exact q_sum | exact q_all | exact q_any | exact q_int | exact q_intb | exact q_mn2 | exact q_mx2 | exact q_abs
      | exact q_zipT | exact q_zipL | exact q_enmL | exact q_enmT | exact q_seqT | exact q_seqL
    | ((with_reducible apply q_mulA) <;> omega)
    | ((with_reducible apply q_mulB) <;> omega)
    | ((with_reducible apply q_pow) <;> decide)
    | ((with_reducible apply q_rg1) <;> sizeOf_list_dec) | ((with_reducible apply q_rg2) <;> sizeOf_list_dec)
    | ((with_reducible apply q_ixT) <;> sizeOf_list_dec) | ((with_reducible apply q_ixL) <;> sizeOf_list_dec))
set_option hygiene false in
local macro_rules
  | `(tactic| array_mem_dec) => `(tactic| first
    | with_reducible first
      | exact ev_int | exact ev_bl | exact ev_non | exact ev_str | exact ev_con | exact evs_nil
      | exact g0 | exact g1 | exact g2 | exact g3 | exact g4 | exact g5 | exact g6 | exact g7 | exact g8 | exact g9
    | ((with_reducible apply ev_varQ); exact ev_var rfl)
    | ((with_reducible apply evs_cons) <;> array_mem_dec)
    | ((with_reducible apply ev_bin) <;> array_mem_dec)
    | ((with_reducible apply ev_ix) <;> array_mem_dec)
    | ((with_reducible apply ev_cmp) <;> array_mem_dec)
    | ((with_reducible apply ev_tup) <;> array_mem_dec)
    | ((with_reducible apply ev_tupQ); apply ev_tup <;> array_mem_dec)
    | ((with_reducible apply ev_blt) <;> array_mem_dec)
    | ((with_reducible apply ev_frv) <;> array_mem_dec)
    | ((with_reducible apply ev_frr) <;> array_mem_dec)
    | ((with_reducible apply evl_dis) <;> array_mem_dec)
    | ((with_reducible apply ev_call) <;> array_mem_dec)
    | ((with_reducible apply itm_seq) <;> array_mem_dec)
    | ((with_reducible apply itm_rng) <;> array_mem_dec)
    | ((with_reducible apply itm_enm) <;> array_mem_dec)
    | ((with_reducible apply itm_zp) <;> array_mem_dec)
    | ((with_reducible apply evl_cmp0) <;> array_mem_dec)
    | ((with_reducible apply evl_cmp) <;> array_mem_dec)
    | ((with_reducible apply cnd_one) <;> array_mem_dec)
    | with_reducible first | exact asg_nm | exact asg_2 | exact asg_3 | exact asg_n2 | exact asg_2n
    | ((with_reducible apply ev_an) <;> array_mem_dec)
    | ((with_reducible apply ev_or) <;> array_mem_dec)
    | ((with_reducible apply ev_nt) <;> array_mem_dec)
    | ((with_reducible apply ev_neg) <;> array_mem_dec)
    | ((with_reducible apply ev_iteI) <;> array_mem_dec)
    | ((with_reducible apply ev_ite) <;> array_mem_dec)
    | array_get_dec
    | (intro _ <;> array_mem_dec)
    | sizeOf_list_dec)
/-- a pair of a low and a high -/
def isPr : D → Bool
  | .tup [.int a, .int b] => isI 0 1000000 (.int a) && (isI 0 1000000 (.int b) && decide (a ≤ b))
  | _ => false
theorem isPr_of {v : D} (h : isPr v = true) : ∃ p : Int × Int, v = prD p ∧ (0 ≤ p.1 ∧ p.1 ≤ p.2 ∧ p.2 ≤ 1000000) := by
  unfold isPr at h
  split at h
  · rename_i a b
    simp only [isI, Bool.and_eq_true, decide_eq_true_eq] at h
    exact ⟨(a, b), rfl, h.1.1, h.2.2, h.2.1.2⟩
  · cases h
/-- a tuple of two that is judged by its items -/
theorem isPr_two {x y : D} : isPr (.tup [x, y]) = (([x, y] : List D).all (isI 0 1000000) && (match x, y with | .int a, .int b => decide (a ≤ b) | _, _ => false)) := by
  cases x <;> cases y <;> simp [isPr, isI, Bool.and_assoc]
theorem notpr {xs : List D} (h : xs.length ≠ 2) : isPr (.tup xs) = false := by
  unfold isPr
  split
  · rename_i e
    cases e
    exact absurd rfl h
  · rfl
theorem p_is_pair_eq {v : D} {S : Store} (hv : ∀ xs, v = .tup xs → xs.length ≤ 1000) : s_p_is_pair [v] S = .ok (.bl (isPr v)) S := by
  refine fn_eq rfl ?_
  show Ends false S _ (exs [s_p_is_integer] b_p_is_pair [some v, none] S)
  have e1 := ev_ntup (G := [s_p_is_integer]) (r := [some v, none]) (S := S) (i := 0) rfl
  cases ht : isT v with
  | false =>
    rw [ht] at e1
    have : isPr v = false := by cases v <;> first | rfl | cases ht
    rw [this]
    exact st_ifR (v := true) (ev_orT e1) (fun _ => ev_bl) (fun _ => end_same rfl) (fun h => nomatch h)
  | true =>
    rw [ht] at e1
    obtain ⟨xs, rfl⟩ := isT_of ht
    have hxl := hv xs rfl
    refine st_ifR (v := !decide ((xs.length : Int) = 2)) (ev_orF e1 (ev_cmp (ev_blt (evs_cons (ev_var rfl) evs_nil) q_lenT) ev_int q_nei)) (fun _ => ev_bl) (fun h => ?_) (fun h => ?_)
    · have h : ¬ (xs.length : Int) = 2 := by simpa using h
      rw [notpr (by omega)]
      exact end_same rfl
    have h : (xs.length : Int) = 2 := by simpa using h
    obtain ⟨x, y, rfl⟩ : ∃ x y, xs = [x, y] := by
      match xs, h with
      | [x, y], _ => exact ⟨x, y, rfl⟩
    have e2 : ev [s_p_is_integer] (E.blt Bl.all (Es.cons (E.fr false (L.cmp (E.call 0 (Es.cons (E.var 1) (Es.cons (E.int (0)) (Es.cons (E.con (PySem.Str.ofString "MAX_RATE") (D.int (1000000))) Es.nil)))) (Tg.nm 1) (It.seq (E.var 0)) Es.nil [((PySem.Str.ofString "item"), 1)])) Es.nil)) [some (.tup [x, y]), none] S = .ok (.bl (([x, y] : List D).all (isI 0 1000000))) S :=
      ev_blt (evs_cons (ev_frv (evl_cmp0 (xs := [x, y]) (f := fun x => x) (h := fun x => .bl (isI 0 1000000 x)) (itm_seq (ev_var rfl) (by rw [map_id2]; exact q_seqT)) (by simp) (fun _ _ => asg_nm) fun z _ => ev_call (evs_cons (ev_var rfl) (evs_cons ev_int (evs_cons ev_con evs_nil))) rfl isint_eq)) evs_nil) q_all
    rw [isPr_two]
    refine st_ret (ev_an e2 fun hall => ?_) (end_same rfl)
    simp only [List.all_cons, List.all_nil, Bool.and_true, Bool.and_eq_true] at hall
    obtain ⟨hx, hy⟩ := hall
    cases x with
    | int a =>
      cases y with
      | int b => exact ev_cmp (ev_ix (ev_var rfl) ev_int rfl) (ev_ix (ev_var rfl) ev_int rfl) q_le
      | _ => cases hy
    | _ => cases hx
theorem is_pair_eq {v : D} {S : Store} (hv : ∀ xs, v = .tup xs → xs.length ≤ 1000) : s_is_pair [v] S = .ok (.bl (isPr v)) S := by
  refine fn_eq rfl ?_
  show Ends false S _ (exs [s_is_int] b_is_pair [some v, none] S)
  have e1 := ev_ntup (G := [s_is_int]) (r := [some v, none]) (S := S) (i := 0) rfl
  cases ht : isT v with
  | false =>
    rw [ht] at e1
    have : isPr v = false := by cases v <;> first | rfl | cases ht
    rw [this]
    exact st_ifR (v := true) (ev_orT e1) (fun _ => ev_bl) (fun _ => end_same rfl) (fun h => nomatch h)
  | true =>
    rw [ht] at e1
    obtain ⟨xs, rfl⟩ := isT_of ht
    have hxl := hv xs rfl
    refine st_ifR (v := !decide ((xs.length : Int) = 2)) (ev_orF e1 (ev_cmp (ev_blt (evs_cons (ev_var rfl) evs_nil) q_lenT) ev_int q_nei)) (fun _ => ev_bl) (fun h => ?_) (fun h => ?_)
    · have h : ¬ (xs.length : Int) = 2 := by simpa using h
      rw [notpr (by omega)]
      exact end_same rfl
    have h : (xs.length : Int) = 2 := by simpa using h
    obtain ⟨x, y, rfl⟩ : ∃ x y, xs = [x, y] := by
      match xs, h with
      | [x, y], _ => exact ⟨x, y, rfl⟩
    have e2 : ev [s_is_int] (E.cmp Cop.eq (E.fr false (L.cmp (E.int (1)) (Tg.nm 1) (It.seq (E.var 0)) (Es.cons (E.nt (E.call 0 (Es.cons (E.var 1) (Es.cons (E.int (0)) (Es.cons (E.bin Bop.pow (E.int (10)) (E.int (6))) Es.nil))))) Es.nil) [((PySem.Str.ofString "_law_item"), 1)])) (E.fr false (L.dis Es.nil))) [some (.tup [x, y]), none] S = .ok (.bl (([x, y] : List D).all (isI 0 1000000))) S := by
      have hq : cmpD S .eq (.lst ((([x, y] : List D).filter fun z => !isI 0 1000000 z).map fun _ => D.int 1)) (.lst []) = some (([x, y] : List D).all (isI 0 1000000)) := by
        have e := pyI.lst.q_eq (S := S) (x := (([x, y] : List D).filter fun z => !isI 0 1000000 z).map fun _ => (1 : Int)) (y := []) (by omega)
        rw [List.map_map] at e
        refine Eq.trans e ?_
        cases hx : isI 0 1000000 x <;> cases hy : isI 0 1000000 y <;> simp [hx, hy]
      refine ev_cmp (ev_frv (evl_cmp (xs := [x, y]) (f := fun y => y) (p := fun z => !isI 0 1000000 z) (h := fun _ => D.int 1) (itm_seq (ev_var rfl) (by rw [map_id2]; exact q_seqT)) (by simp) (fun _ _ => asg_nm) (fun z _ => ?_) (fun _ _ _ => ev_int))) (ev_frv (evl_dis evs_nil)) hq
      refine cnd_one (x := .bl (!isI 0 1000000 z)) (ev_nt (ev_call (evs_cons (ev_var rfl) (evs_cons ev_int (evs_cons (ev_bin ev_int ev_int (q_pow ⟨by decide, by decide, by decide⟩)) evs_nil))) rfl ?_) q_trb) q_trb
      rw [p6]
      exact isint_eq
    rw [isPr_two]
    refine st_ret (ev_an e2 fun hall => ?_) (end_same rfl)
    simp only [List.all_cons, List.all_nil, Bool.and_true, Bool.and_eq_true] at hall
    obtain ⟨hx, hy⟩ := hall
    cases x with
    | int a =>
      cases y with
      | int b => exact ev_cmp (ev_ix (ev_var rfl) ev_int rfl) (ev_ix (ev_var rfl) ev_int rfl) q_le
      | _ => cases hy
    | _ => cases hx
theorem sh_str : Sh (Str.ofString "stretches") := ⟨by decide +kernel, by decide +kernel, by decide +kernel⟩
theorem sh_pair : Sh (Str.ofString "pair") := ⟨by decide +kernel, by decide +kernel, by decide +kernel⟩
theorem sh_way : Sh (Str.ofString "way") := ⟨by decide +kernel, by decide +kernel, by decide +kernel⟩
noncomputable abbrev GE : List Fn := [s_p_is_square, s_p_is_pair, s_p_is_one_way]
noncomputable abbrev GW : List Fn := [s_is_pair, s_pairs]
theorem err_web {v : D} {S : Store} (h : sqD v = .str (Str.ofString "web")) : s_p_stretches_error [v] S = .ok (.str (Str.ofString "stretches")) S := by
  refine fn_eq rfl ?_
  show Ends false S _ (exs GE b_p_stretches_error [some v, none, none, none, none, none, none] S)
  have e := square_eq (v := v) (S := S)
  rw [h] at e
  refine st_asg (ev_call (evs_cons (ev_var rfl) evs_nil) rfl e) asg_nm ?_
  have hq : cmpD S .eq (.str (Str.ofString "web")) (.str (Str.ofString "web")) = some true := by
    rw [q_eqs (by decide +kernel) (by decide +kernel)]
    exact congrArg some (by decide +kernel)
  exact st_ifR (v := true) (ev_cmp (ev_var rfl) ev_non q_nsnS) (fun _ => ev_ite (p := true) (d1 := .str (Str.ofString "stretches")) (d2 := .non) (ev_cmp (ev_var rfl) ev_str hq) (fun _ => ev_str) (fun h => nomatch h)) (fun _ => end_same rfl) (fun h => nomatch h)
theorem err_row {v : D} {S : Store} (h : sqD v = .str (Str.ofString "row")) : s_p_stretches_error [v] S = .ok (.str (Str.ofString "row")) S := by
  refine fn_eq rfl ?_
  show Ends false S _ (exs GE b_p_stretches_error [some v, none, none, none, none, none, none] S)
  have e := square_eq (v := v) (S := S)
  rw [h] at e
  refine st_asg (ev_call (evs_cons (ev_var rfl) evs_nil) rfl e) asg_nm ?_
  have hq : cmpD S .eq (.str (Str.ofString "row")) (.str (Str.ofString "web")) = some false := by
    rw [q_eqs (by decide +kernel) (by decide +kernel)]
    exact congrArg some (by decide +kernel)
  exact st_ifR (v := true) (ev_cmp (ev_var rfl) ev_non q_nsnS) (fun _ => ev_ite (p := false) (d1 := .non) (d2 := .str (Str.ofString "row")) (ev_cmp (ev_var rfl) ev_str hq) (fun h => nomatch h) (fun _ => ev_var rfl)) (fun _ => end_same rfl) (fun h => nomatch h)
open Classical in
theorem word_sq {v : D} {S : Store} (h : sqD v = .str (Str.ofString "web") ∨ sqD v = .str (Str.ofString "row")) : s_word [v] S = .ok (.str (if sqD v = .str (Str.ofString "web") then Str.ofString "stretches" else Str.ofString "row")) S := by
  have hwr : ¬ (D.str (Str.ofString "row") = D.str (Str.ofString "web")) := fun e => by
    injection e with e
    exact absurd e (by decide +kernel)
  refine fn_eq rfl ?_
  show Ends false S _ (exs GW b_word [some v, none, none, none, none, none, none, none] S)
  cases ht : isT v with
  | false =>
    have e : sqD v = .str (Str.ofString "web") := by
      unfold sqD
      cases v <;> first | rfl | cases ht
    rw [if_pos e]
    have e1 := ev_ntup (G := GW) (r := [some v, none, none, none, none, none, none, none]) (S := S) (i := 0) rfl
    rw [ht] at e1
    exact st_ifR (v := true) (ev_orT e1) (fun _ => ev_str) (fun _ => end_same rfl) (fun h => nomatch h)
  | true =>
    obtain ⟨xs, rfl⟩ := isT_of ht
    have e1 := ev_ntup (G := GW) (r := [some (.tup xs), none, none, none, none, none, none, none]) (S := S) (i := 0) rfl
    rw [ht] at e1
    have e2 : ev GW (E.nt (E.chn Cop.le Cop.le (E.int (1)) (E.blt Bl.len (Es.cons (E.var 0) Es.nil)) (E.int (6)))) [some (.tup xs), none, none, none, none, none, none, none] S = .ok (.bl (!inR xs)) S :=
      ev_nt (ev_chn ev_int (ev_blt (evs_cons (ev_var rfl) evs_nil) q_lenT) q_le (fun _ => ev_int) (fun _ => q_le)) q_trb
    refine st_ifR (v := !inR xs) (ev_orF e1 e2) (fun _ => ev_str) (fun h3 => ?_) (fun h3 => ?_)
    · have h3 : inR xs = false := by simpa using h3
      have e : sqD (.tup xs) = .str (Str.ofString "web") := by
        unfold sqD
        simp only []
        rw [h3]; rfl
      rw [if_pos e]
      exact end_same rfl
    have h3 : inR xs = true := by simpa using h3
    have hall : xs.all (lenOk xs.length) = false := by
      cases q : xs.all (lenOk xs.length) with
      | false => rfl
      | true =>
        have e : sqD (.tup xs) = .non := by
          unfold sqD
          simp only []
          rw [h3, q]; rfl
        rw [e] at h
        rcases h with h | h <;> cases h
    have e : sqD (.tup xs) = .str (Str.ofString "row") := by
      unfold sqD
      simp only []
      rw [h3, hall]; rfl
    rw [e, if_neg hwr]
    refine st_forX (xs := xs) (f := fun x => x) (fun x => !lenOk xs.length x) (fun r S' => (∃ j, r = [some (.tup xs), j, none, none, none, none, none, none]) ∧ S' = S) (itm_seq (ev_var rfl) (by rw [map_id2]; exact q_seqT)) ⟨⟨none, rfl⟩, rfl⟩ ?_ ?_
    · rintro y hy _ S' ⟨⟨j, rfl⟩, hS⟩
      subst hS
      have e5 : ev GW (E.or (E.nt (E.isi (E.var 1) Ty.tup)) (E.cmp Cop.ne (E.blt Bl.len (Es.cons (E.var 1) Es.nil)) (E.blt Bl.len (Es.cons (E.var 0) Es.nil)))) [some (.tup xs), some y, none, none, none, none, none, none] S' = .ok (.bl (!lenOk xs.length y)) S' := by
        have e4 := ev_ntup (G := GW) (r := [some (.tup xs), some y, none, none, none, none, none, none]) (S := S') (i := 1) rfl
        cases hy2 : isT y with
        | false =>
          rw [hy2] at e4
          have e5 : lenOk xs.length y = false := by cases y <;> first | rfl | cases hy2
          rw [e5]
          exact ev_orT e4
        | true =>
          rw [hy2] at e4
          obtain ⟨ys, rfl⟩ := isT_of hy2
          exact ev_orF e4 (ev_cmp (ev_blt (evs_cons (ev_var rfl) evs_nil) q_lenT) (ev_blt (evs_cons (ev_var rfl) evs_nil) q_lenT) q_nei)
      refine ⟨_, _, asg_nm, fun hb => ?_, fun hb => ?_⟩
      · refine st_ifr (v := !lenOk xs.length y) e5 (fun h => ?_) fun _ => st_nil (goes ⟨⟨some y, rfl⟩, rfl⟩)
        rw [hb] at h; cases h
      · refine ⟨.str (Str.ofString "row"), S', ?_, end_same rfl⟩
        show EqF _ (exs _ _ _ _)
        refine st_ifS (v := !lenOk xs.length y) e5 (fun _ => st_ret ev_str ⟨rfl, trivial⟩) fun h => ?_
        rw [hb] at h; cases h
    · intro hgood
      have : xs.all (lenOk xs.length) = true := List.all_eq_true.mpr fun x hx => by simpa using hgood x hx
      rw [hall] at this
      cases this
theorem prs_of : ∀ {r : List D}, r.all isPr = true → ∃ ps : List (Int × Int), r = ps.map prD ∧ ∀ p ∈ ps, 0 ≤ p.1 ∧ p.1 ≤ p.2 ∧ p.2 ≤ 1000000
  | [], _ => ⟨[], rfl, fun _ h => nomatch h⟩
  | x :: r, h => by
    rw [List.all_cons] at h
    obtain ⟨h1, h2⟩ := Bool.and_eq_true_iff.mp h
    obtain ⟨ps, rfl, hp⟩ := prs_of h2
    obtain ⟨p, rfl, hb⟩ := isPr_of h1
    exact ⟨p :: ps, rfl, fun q hq => (List.mem_cons.mp hq).elim (fun e => by rw [e]; exact hb) (hp q)⟩
theorem prows_of : ∀ {rows : List (List D)}, (rows.all fun r => r.all isPr) = true → ∃ ws : List (List (Int × Int)), rows = ws.map (fun w => w.map prD) ∧ ∀ w ∈ ws, ∀ p ∈ w, 0 ≤ p.1 ∧ p.1 ≤ p.2 ∧ p.2 ≤ 1000000
  | [], _ => ⟨[], rfl, fun _ h => nomatch h⟩
  | r :: rows, h => by
    rw [List.all_cons] at h
    obtain ⟨h1, h2⟩ := Bool.and_eq_true_iff.mp h
    obtain ⟨ws, rfl, hb⟩ := prows_of h2
    obtain ⟨w, rfl, hw⟩ := prs_of h1
    exact ⟨w :: ws, rfl, fun q hq => (List.mem_cons.mp hq).elim (fun e => by rw [e]; exact hw) (hb q)⟩
abbrev WP (ws : List (List (Int × Int))) : D := .tup (ws.map fun w => .tup (w.map prD))
def pyB : Py 0 D.bl where
  py b := .bool b
  h _ _ := rfl
  lay _ := rfl
  dep _ := Nat.le_refl _
  eq a b := by cases a <;> cases b <;> rfl
def nums (ws : List (List (Int × Int))) (i j : Int) : List Int := [(pl (pl ws i) j).1, (pl (pl ws i) j).2, (pl (pl ws j) i).1, (pl (pl ws j) i).2]
def oneW (ws : List (List (Int × Int))) (i j : Int) : Bool := (nums ws i j).any (fun x => decide (x = 0)) && (nums ws i j).any (fun x => decide (0 < x))
def oneL (ws : List (List (Int × Int))) (i j : Int) : Bool := decide (true ∈ (nums ws i j).map fun x => decide (0 < x)) && decide (false ∈ (nums ws i j).map fun x => decide (0 < x))
theorem one_eq {ws : List (List (Int × Int))} {i j : Int} (h : ∀ x ∈ nums ws i j, 0 ≤ x) : oneW ws i j = oneL ws i j := by
  have h1 : (nums ws i j).any (fun x => decide (x = 0)) = decide (false ∈ (nums ws i j).map fun x => decide (0 < x)) := by
    rw [Bool.eq_iff_iff, List.any_eq_true, decide_eq_true_eq, List.mem_map]
    constructor
    · rintro ⟨x, hx, e⟩
      refine ⟨x, hx, decide_eq_false ?_⟩
      have := of_decide_eq_true e
      omega
    · rintro ⟨x, hx, e⟩
      refine ⟨x, hx, decide_eq_true ?_⟩
      have := of_decide_eq_false e
      have := h x hx
      omega
  have h2 : (nums ws i j).any (fun x => decide (0 < x)) = decide (true ∈ (nums ws i j).map fun x => decide (0 < x)) := by
    rw [Bool.eq_iff_iff, List.any_eq_true, decide_eq_true_eq, List.mem_map]
  unfold oneW oneL
  rw [h1, h2, Bool.and_comm]
structure Sp (n : Nat) (ws : List (List (Int × Int))) : Prop where
  len : ws.length = n
  row : ∀ w ∈ ws, w.length = n
theorem Sp.at_ {n : Nat} {ws : List (List (Int × Int))} (h : Sp n ws) {i : Int} (h0 : 0 ≤ i) (h1 : i < n) : (pl ws i).length = n := h.row _ (pl_mem h0 (by rw [h.len]; exact h1))
theorem ev_nums {G : List Fn} {r : Env} {S : Store} {ws : List (List (Int × Int))} {n : Nat} {i j : Int} {a b c : Nat} (h : Sp n ws) (i0 : 0 ≤ i) (i1 : i < n) (j0 : 0 ≤ j) (j1 : j < n) (ha : look r a = some (WP ws)) (hb : look r b = some (.int i)) (hc : look r c = some (.int j)) :
    ev G (E.bin Bop.add (E.ix (E.ix (E.var a) (E.var b)) (E.var c)) (E.ix (E.ix (E.var a) (E.var c)) (E.var b))) r S = .ok (.tup ((nums ws i j).map .int)) S := by
  have l := h.len
  have l1 := h.at_ i0 i1
  have l2 := h.at_ j0 j1
  exact ev_bin (ev_ix (ev_ix (ev_var ha) (ev_var hb) (q_ixT i0 (by omega))) (ev_var hc) (q_ixT j0 (by omega))) (ev_ix (ev_ix (ev_var ha) (ev_var hc) (q_ixT j0 (by omega))) (ev_var hb) (q_ixT i0 (by omega))) (q_addT (by simp))
theorem one_way_eq {ws : List (List (Int × Int))} {n : Nat} {i j : Int} {S : Store} (h : Sp n ws) (i0 : 0 ≤ i) (i1 : i < n) (j0 : 0 ≤ j) (j1 : j < n) : s_p_is_one_way [WP ws, .int i, .int j] S = .ok (.bl (oneW ws i j)) S := by
  refine fn_eq rfl ?_
  show Ends false S _ (exs [] b_p_is_one_way [some (WP ws), some (.int i), some (.int j), none, none] S)
  refine st_asg (ev_nums h i0 i1 j0 j1 rfl rfl rfl) asg_nm ?_
  have hl : (nums ws i j).length ≤ 16777216 := by show 4 ≤ 16777216; decide
  refine st_ret (ev_an (ev_blt (evs_cons (ev_frv (evl_cmp0 (xs := nums ws i j) (f := .int) (h := fun x => .bl (decide (x = 0))) (itm_seq (ev_var rfl) q_seqT) hl (fun _ _ => asg_nm) fun x _ => ev_cmp (ev_var rfl) ev_int q_eqi)) evs_nil) q_any) fun _ => ev_blt (evs_cons (ev_frv (evl_cmp0 (xs := nums ws i j) (f := .int) (h := fun x => .bl (decide (0 < x))) (itm_seq (ev_var rfl) q_seqT) hl (fun _ _ => asg_nm) fun x _ => ev_cmp (ev_var rfl) ev_int q_gt)) evs_nil) q_any) (end_same rfl)
theorem nums_nn {ws : List (List (Int × Int))} {n : Nat} {i j : Int} (h : Sp n ws) (hb : ∀ w ∈ ws, ∀ p ∈ w, 0 ≤ p.1 ∧ p.1 ≤ p.2 ∧ p.2 ≤ 1000000) (i0 : 0 ≤ i) (i1 : i < n) (j0 : 0 ≤ j) (j1 : j < n) : ∀ x ∈ nums ws i j, 0 ≤ x := by
  have l := h.len
  have l1 := h.at_ i0 i1
  have l2 := h.at_ j0 j1
  have b1 := hb _ (pl_mem (xs := ws) i0 (by omega)) _ (pl_mem (xs := pl ws i) j0 (by omega))
  have b2 := hb _ (pl_mem (xs := ws) j0 (by omega)) _ (pl_mem (xs := pl ws j) i0 (by omega))
  intro x hx
  unfold nums at hx
  simp only [List.mem_cons, List.not_mem_nil, or_false] at hx
  rcases hx with rfl | rfl | rfl | rfl <;> omega
def ownS (n : Nat) (ws : List (List (Int × Int))) : Bool := !((rg 0 n).filter fun i => !decide (pl (pl ws i) i = (0, 0))).isEmpty
theorem own_any {n : Nat} {ws : List (List (Int × Int))} (h : Sp n ws) : (ws.zipIdx.any fun p => !decide (pl p.1 p.2 = (0, 0))) = ownS n ws := by
  have hwl := h.len
  unfold ownS
  rw [Bool.eq_iff_iff, List.any_eq_true]
  constructor
  · rintro ⟨⟨w, i⟩, hp, h⟩
    have hg := List.mk_mem_zipIdx_iff_getElem?.mp hp
    have hil : i < ws.length := (List.getElem?_eq_some_iff.mp hg).1
    have hm : (i : Int) ∈ (rg 0 n).filter fun i => !decide (pl (pl ws i) i = (0, 0)) := by
      refine List.mem_filter.mpr ⟨mem_rg.mpr ⟨by omega, by omega⟩, ?_⟩
      rw [pl_nat hg]
      exact h
    cases hf : (rg 0 n).filter fun i => !decide (pl (pl ws i) i = (0, 0)) with
    | nil => rw [hf] at hm; cases hm
    | cons i l => rfl
  · intro h
    cases hf : (rg 0 n).filter fun i => !decide (pl (pl ws i) i = (0, 0)) with
    | nil => rw [hf] at h; cases h
    | cons i l =>
      have hm : i ∈ (rg 0 n).filter fun i => !decide (pl (pl ws i) i = (0, 0)) := by rw [hf]; exact List.mem_cons_self
      obtain ⟨m1, m2⟩ := List.mem_filter.mp hm
      have m1 := mem_rg.mp m1
      refine ⟨(pl ws i, i.toNat), List.mk_mem_zipIdx_iff_getElem?.mpr (pl_some m1.1 (by omega)), ?_⟩
      show (!decide (pl (pl ws i) (i.toNat : Int) = (0, 0))) = true
      rw [Int.toNat_of_nonneg m1.1]
      exact m2
theorem same_word {v : D} {S : Store} (hv : Uw [8, 8, 4, 2, 1] v) : ∃ d, s_p_stretches_error [v] S = .ok d S ∧ s_word [v] S = .ok d S ∧ (d = .non ∨ ∃ x, d = .str x ∧ Sh x) := by
  have hwr : ¬ (D.str (Str.ofString "row") = D.str (Str.ofString "web")) := fun e => by
    injection e with e
    exact absurd e (by decide +kernel)
  have hsq : (sqD v = .str (Str.ofString "web") ∨ sqD v = .str (Str.ofString "row")) ∨ (∃ xs, v = .tup xs ∧ inR xs = true ∧ xs.all (lenOk xs.length) = true ∧ sqD v = .non) := by
    cases v with
    | tup xs =>
      cases h1 : inR xs with
      | false => refine .inl (.inl ?_); unfold sqD; simp only []; rw [h1]; rfl
      | true =>
        cases h2 : xs.all (lenOk xs.length) with
        | false => refine .inl (.inr ?_); unfold sqD; simp only []; rw [h1, h2]; rfl
        | true => refine .inr ⟨xs, rfl, h1, h2, ?_⟩; unfold sqD; simp only []; rw [h1, h2]; rfl
    | _ => exact .inl (.inl rfl)
  rcases hsq with (h | h) | ⟨xs, rfl, h1, h2, h3⟩
  · have e := word_sq (S := S) (.inl h)
    rw [if_pos h] at e
    exact ⟨_, err_web h, e, .inr ⟨_, rfl, sh_str⟩⟩
  · have e := word_sq (S := S) (.inr h)
    rw [if_neg (by rw [h]; exact hwr)] at e
    exact ⟨_, err_row h, e, .inr ⟨_, rfl, sh_row⟩⟩
  obtain ⟨rows, hx, hr⟩ := rows_of h2
  have hlen : rows.length = xs.length := by rw [hx, List.length_map]
  have hn : xs.length ≤ 6 ∧ 1 ≤ xs.length := by
    unfold inR at h1
    have a := of_decide_eq_true (Bool.and_eq_true_iff.mp h1).2
    have b := of_decide_eq_true (Bool.and_eq_true_iff.mp h1).1
    omega
  generalize hnn : xs.length = n at *
  subst hx
  have hit : ∀ r ∈ rows, ∀ x ∈ r, ∀ ys, x = .tup ys → ys.length ≤ 1000 := fun r hr x hx ys e => by
    cases hv with
    | tup _ q1 =>
      cases q1 _ (List.mem_map_of_mem hr) with
      | tup _ q2 =>
        have := q2 x hx
        rw [e] at this
        cases this with
        | tup q3 _ => omega
  have e0 := square_eq (v := .tup (rows.map D.tup)) (S := S)
  rw [h3] at e0
  have err0 : ∀ (Q : R D → Prop), Ends false S Q (exs GE (b_p_stretches_error.drop 2) [some (.tup (rows.map D.tup)), some .non, none, none, none, none, none] S) → Q (s_p_stretches_error [.tup (rows.map D.tup)] S) := fun Q k => by
    refine fn_go rfl ?_
    show Ends false S _ (exs GE b_p_stretches_error [some (.tup (rows.map D.tup)), none, none, none, none, none, none] S)
    refine st_asg (ev_call (evs_cons (ev_var rfl) evs_nil) rfl e0) asg_nm ?_
    exact st_ifR (d := .non) (S2 := S) (v := false) (ev_cmp (ev_var rfl) ev_non q_nsnN) (fun h => nomatch h) (fun h => nomatch h) (fun _ => k)
  have law2 : ∀ (Q : R D → Prop), (∀ j, Ends false S Q (exs GW (b_word.drop 2) [some (.tup (rows.map D.tup)), j, none, none, none, none, none, none] S)) → Q (s_word [.tup (rows.map D.tup)] S) := fun Q k => by
    refine fn_go rfl ?_
    show Ends false S _ (exs GW b_word [some (.tup (rows.map D.tup)), none, none, none, none, none, none, none] S)
    have e1 := ev_ntup (G := GW) (r := [some (.tup (rows.map D.tup)), none, none, none, none, none, none, none]) (S := S) (i := 0) rfl
    have e2 : ev GW (E.nt (E.chn Cop.le Cop.le (E.int (1)) (E.blt Bl.len (Es.cons (E.var 0) Es.nil)) (E.int (6)))) [some (.tup (rows.map D.tup)), none, none, none, none, none, none, none] S = .ok (.bl (!inR (rows.map D.tup))) S :=
      ev_nt (ev_chn ev_int (ev_blt (evs_cons (ev_var rfl) evs_nil) q_lenT) q_le (fun _ => ev_int) (fun _ => q_le)) q_trb
    rw [h1] at e2
    refine st_ifR (d := .non) (S2 := S) (v := false) (ev_orF e1 e2) (fun h => nomatch h) (fun h => nomatch h) (fun _ => ?_)
    refine st_for (xs := rows) (f := D.tup) (g := none) (S1 := S) (fun _ r S' => (∃ j, r = [some (.tup (rows.map D.tup)), j, none, none, none, none, none, none]) ∧ S' = S) (itm_seq (ev_var rfl) q_seqT) ⟨⟨none, rfl⟩, rfl⟩ (fun _ _ _ _ => trivial) ?_ ?_
    · rintro _ y hy _ _ S' ⟨⟨j, rfl⟩, hS⟩
      subst hS
      have hyl : y.length = n := hr y hy
      have e5 : ev GW (E.or (E.nt (E.isi (E.var 1) Ty.tup)) (E.cmp Cop.ne (E.blt Bl.len (Es.cons (E.var 1) Es.nil)) (E.blt Bl.len (Es.cons (E.var 0) Es.nil)))) [some (.tup (rows.map D.tup)), some (.tup y), none, none, none, none, none, none] S' = .ok (.bl false) S' := by
        have e4 := ev_ntup (G := GW) (r := [some (.tup (rows.map D.tup)), some (.tup y), none, none, none, none, none, none]) (S := S') (i := 1) rfl
        have e6 := ev_cmp (G := GW) (r := [some (.tup (rows.map D.tup)), some (.tup y), none, none, none, none, none, none]) (S := S') (ev_blt (evs_cons (ev_var (i := 1) rfl) evs_nil) q_lenT) (ev_blt (evs_cons (ev_var (i := 0) rfl) evs_nil) q_lenT) q_nei
        rw [List.length_map, hyl, hlen, decide_eq_true rfl] at e6
        exact ev_orF e4 e6
      exact ⟨_, _, asg_nm, st_ifr (v := false) e5 (fun h => nomatch h) fun _ => st_nil (goes ⟨⟨some (.tup y), rfl⟩, rfl⟩)⟩
    · rintro _ S' ⟨⟨j, rfl⟩, hS⟩
      subst hS
      exact k j
  have e7 : ∀ y ∈ rows, ∀ S : Store, ev GW (E.cmp Cop.ne (E.fr false (L.cmp (E.var 7) (Tg.nm 7) (It.seq (E.var 1)) (Es.cons (E.nt (E.call 0 (Es.cons (E.var 7) Es.nil))) Es.nil) [((PySem.Str.ofString "_law_pair"), 7)])) (E.fr false (L.dis Es.nil))) [some (.tup (rows.map D.tup)), some (.tup y), none, none, none, none, none, none] S = .ok (.bl (!y.all isPr)) S := fun y hy S => by
    have hyl : y.length = n := hr y hy
    rw [← none_left]
    refine ev_cmp (ev_frv (evl_cmp (xs := y) (f := fun y => y) (p := fun y => !isPr y) (h := fun y => y) (itm_seq (ev_var rfl) (by rw [map_id2]; exact q_seqT)) (by omega) (fun _ _ => asg_nm) (fun x hx => ?_) (fun x _ _ => ev_var rfl))) (ev_frv (evl_dis evs_nil)) q_neNilD
    exact cnd_one (x := .bl (!isPr x)) (ev_nt (ev_call (evs_cons (ev_var rfl) evs_nil) rfl (is_pair_eq (hit y hy x hx))) q_trb) q_trb
  have er : ev GE (E.nt (E.blt Bl.all (Es.cons (E.fr false (L.cm2 (E.call 1 (Es.cons (E.var 5) Es.nil)) (Tg.nm 4) (It.seq (E.var 0)) [5] (Tg.nm 5) (It.seq (E.var 4)) Es.nil [((PySem.Str.ofString "row"), 4), ((PySem.Str.ofString "pair"), 5)])) Es.nil))) [some (.tup (rows.map D.tup)), some .non, none, none, none, none, none] S = .ok (.bl (!(rows.flatMap id).all isPr)) S := by
    have e : (rows.flatMap fun r => (id r).map fun y => D.bl (isPr y)) = (rows.flatMap id).map fun y => D.bl (isPr y) := by
      rw [List.map_flatMap]
    have hlen2 : ∀ {rs : List (List D)}, (∀ r ∈ rs, r.length = n) → (rs.flatMap id).length ≤ rs.length * 6 := fun {rs} h => by
      induction rs with
      | nil => simp
      | cons r rs ih =>
        have h1 := h r List.mem_cons_self
        have h2 := ih fun q hq => h q (List.mem_cons_of_mem _ hq)
        rw [List.flatMap_cons, List.length_append, List.length_cons, Nat.succ_mul]
        show r.length + _ ≤ _
        omega
    have hrl := hlen2 hr
    refine ev_nt (ev_blt (evs_cons (ev_frv (xs := (rows.flatMap id).map fun y => D.bl (isPr y)) ?_) evs_nil) q_all) q_trb
    rw [← e]
    refine evl_cm20 (xs := rows) (f := D.tup) (ys := id) (g := fun y => y) (itm_seq (ev_var rfl) q_seqT) (fun _ _ => asg_nm) (fun r _ => itm_seq (ev_var rfl) (by rw [map_id2]; exact q_seqT)) (fun _ _ _ _ => asg_nm) (fun r hr y hy => ev_call (evs_cons (ev_var rfl) evs_nil) rfl (p_is_pair_eq (hit r hr y hy))) ?_
    rw [e, List.length_map]
    omega
  have hro : (rows.flatMap id).all isPr = rows.all fun r => r.all isPr := by
    rw [List.all_flatMap]; rfl
  cases hrate : (rows.flatMap id).all isPr with
  | false =>
    rw [hrate] at er
    refine ⟨.str (Str.ofString "pair"), err0 (EqR _) (st_ifR (v := true) er (fun _ => ev_str) (fun _ => end_same rfl) (fun h => nomatch h)), law2 (EqR _) fun j => ?_, .inr ⟨_, rfl, sh_pair⟩⟩
    refine st_forX (xs := rows) (f := D.tup) (fun y => !y.all isPr) (fun r S' => (∃ j, r = [some (.tup (rows.map D.tup)), j, none, none, none, none, none, none]) ∧ S' = S) (itm_seq (ev_var rfl) q_seqT) ⟨⟨j, rfl⟩, rfl⟩ ?_ ?_
    · rintro y hy _ S' ⟨⟨j, rfl⟩, hS⟩
      subst hS
      have e5 := e7 y hy S'
      refine ⟨_, _, asg_nm, fun hb => ?_, fun hb => ?_⟩
      · refine st_ifr (v := !y.all isPr) e5 (fun h => ?_) fun _ => st_nil (goes ⟨⟨some (.tup y), rfl⟩, rfl⟩)
        rw [hb] at h; cases h
      · refine ⟨.str (Str.ofString "pair"), S', ?_, end_same rfl⟩
        show EqF _ (exs _ _ _ _)
        refine st_ifS (v := !y.all isPr) e5 (fun _ => st_ret ev_str ⟨rfl, trivial⟩) fun h => ?_
        rw [hb] at h; cases h
    · intro hgood
      have : (rows.flatMap id).all isPr = true := by
        rw [hro]
        exact List.all_eq_true.mpr fun x hx => by simpa using hgood x hx
      rw [hrate] at this
      cases this
  | true =>
    rw [hrate] at er
    have hgood := hrate
    rw [hro] at hgood
    obtain ⟨ws, rfl, hb⟩ := prows_of hgood
    have hwl : ws.length = n := by rw [List.length_map] at hlen; exact hlen
    have hwr : ∀ w ∈ ws, w.length = n := fun w hw => by
      have := hr _ (List.mem_map_of_mem hw)
      rwa [List.length_map] at this
    have hwt : (D.tup ((ws.map fun w => w.map prD).map D.tup)) = WP ws := by
      rw [List.map_map]; rfl
    have hsz : Sp n ws := ⟨hwl, hwr⟩
    rw [hwt] at er law2 err0
    rw [hwt]
    have eown : ev GE (E.blt Bl.any (Es.cons (E.fr false (L.cmp (E.cmp Cop.ne (E.ix (E.var 4) (E.var 6)) (E.tup (Es.cons (E.int (0)) (Es.cons (E.int (0)) Es.nil)))) (Tg.tp (Tgs.cons (Tg.nm 6) (Tgs.cons (Tg.nm 4) Tgs.nil))) (It.enm (E.var 0)) Es.nil [((PySem.Str.ofString "place"), 6), ((PySem.Str.ofString "row"), 4)])) Es.nil)) [some (WP ws), some .non, none, none, none, none, none] S = .ok (.bl (ownS n ws)) S := by
      rw [← own_any hsz]
      refine ev_blt (evs_cons (ev_frv (evl_cmp0 (xs := ws.zipIdx) (f := fun p => .tup [.int p.2, .tup (p.1.map prD)]) (h := fun p => .bl (!decide (pl p.1 p.2 = (0, 0)))) (itm_enm (ev_var rfl) q_enmT) (by rw [List.length_zipIdx]; omega) (fun _ _ => asg_2) fun p hp => ?_)) evs_nil) q_any
      obtain ⟨w, i⟩ := p
      have h1 := List.mem_zipIdx hp
      have hw : w ∈ ws := by rw [h1.2.2]; exact List.getElem_mem _
      have hwl : (w, i).1.length = n := hwr w hw
      exact ev_cmp (ev_ix (ev_var rfl) (ev_var rfl) (q_ixT (by omega) (by omega))) (ev_tup (evs_cons ev_int (evs_cons ev_int evs_nil))) (pyP.q_ne (y := (0, 0)) (by omega))
    have e9 : ∀ j, ev GW (E.cmp Cop.ne (E.fr false (L.cmp (E.var 5) (Tg.nm 5) (It.rng (Es.cons (E.blt Bl.len (Es.cons (E.var 0) Es.nil)) Es.nil)) (Es.cons (E.cmp Cop.ne (E.ix (E.ix (E.var 0) (E.var 5)) (E.var 5)) (E.tup (Es.cons (E.int (0)) (Es.cons (E.int (0)) Es.nil)))) Es.nil) [((PySem.Str.ofString "_law_at"), 5)])) (E.fr false (L.dis Es.nil))) [some (WP ws), j, none, none, none, none, none, none] S = .ok (.bl (ownS n ws)) S := fun j => by
      have hc : ownS n ws = !(((rg 0 n).filter fun i => !decide (pl (pl ws i) i = (0, 0))).map D.int).isEmpty := by
        unfold ownS
        rw [List.isEmpty_map]
      rw [hc]
      refine ev_cmp (ev_frv (evl_cmp (xs := rg 0 n) (f := .int) (p := fun i => !decide (pl (pl ws i) i = (0, 0))) (h := .int) (itm_rng (evs_cons (ev_blt (evs_cons (ev_var rfl) evs_nil) (q_lenM.trans (by rw [hwl]))) evs_nil) (q_rg1 (sm_of (by omega) (by omega)) (by omega))) (by rw [rg_len]; omega) (fun _ _ => asg_nm) (fun i hi => ?_) (fun x _ _ => ev_var rfl))) (ev_frv (evl_dis evs_nil)) q_neNilD
      have hi := mem_rg.mp hi
      have h1 := hsz.at_ hi.1 hi.2
      exact cnd_one (x := .bl (!decide (pl (pl ws i) i = (0, 0)))) (ev_cmp (ev_ix (ev_ix (ev_var rfl) (ev_var rfl) (q_ixT hi.1 (by omega))) (ev_var rfl) (q_ixT hi.1 (by omega))) (ev_tup (evs_cons ev_int (evs_cons ev_int evs_nil))) (pyP.q_ne (y := (0, 0)) (by omega))) q_trb
    have eway : ev GE (E.blt Bl.any (Es.cons (E.fr false (L.cm2 (E.call 2 (Es.cons (E.var 0) (Es.cons (E.var 3) (Es.cons (E.var 2) Es.nil)))) (Tg.nm 2) (It.rng (Es.cons (E.blt Bl.len (Es.cons (E.var 0) Es.nil)) Es.nil)) [3] (Tg.nm 3) (It.rng (Es.cons (E.var 2) Es.nil)) Es.nil [((PySem.Str.ofString "j"), 2), ((PySem.Str.ofString "i"), 3)])) Es.nil)) [some (WP ws), some .non, none, none, none, none, none] S = .ok (.bl ((prs n).any fun p => oneW ws p.1 p.2)) S := by
      have ee : ((rg 0 n).flatMap fun j => (rg 0 j).map fun i => D.bl (oneW ws i j)) = ((rg 0 n).flatMap fun j => (rg 0 j).map fun i => (i, j)).map fun p : Int × Int => D.bl (oneW ws p.1 p.2) := by
        rw [List.map_flatMap]
        refine congrArg (fun f => List.flatMap f (rg 0 n)) (funext fun j => ?_)
        rw [List.map_map]; rfl
      have hany : (((rg 0 n).flatMap fun j => (rg 0 j).map fun i => (i, j)).any fun p : Int × Int => oneW ws p.1 p.2) = (prs n).any fun p => oneW ws p.1 p.2 := by
        rw [Bool.eq_iff_iff, List.any_eq_true, List.any_eq_true]
        constructor
        · rintro ⟨p, hp, h⟩
          obtain ⟨j, hj, hp⟩ := List.mem_flatMap.mp hp
          obtain ⟨i, hi, rfl⟩ := List.mem_map.mp hp
          have hj := mem_rg.mp hj
          have hi := mem_rg.mp hi
          exact ⟨(i, j), mem_prs.mpr ⟨hi.1, hi.2, hj.2⟩, h⟩
        · rintro ⟨p, hp, h⟩
          have hp := mem_prs.mp hp
          exact ⟨p, List.mem_flatMap.mpr ⟨p.2, mem_rg.mpr ⟨by omega, hp.2.2⟩, List.mem_map.mpr ⟨p.1, mem_rg.mpr ⟨hp.1, hp.2.1⟩, rfl⟩⟩, h⟩
      have hlen3 : ∀ {l : List Int}, (∀ j ∈ l, j ≤ 6) → (l.flatMap fun j => (rg 0 j).map fun i => D.bl (oneW ws i j)).length ≤ l.length * 6 := fun {l} h => by
        induction l with
        | nil => simp
        | cons j l ih =>
          have h1 := h j List.mem_cons_self
          have h2 := ih fun q hq => h q (List.mem_cons_of_mem _ hq)
          rw [List.flatMap_cons, List.length_append, List.length_cons, Nat.succ_mul, List.length_map, rg_len]
          omega
      have hl4 := hlen3 (l := rg 0 n) (fun j hj => by have := mem_rg.mp hj; omega)
      rw [rg_len] at hl4
      rw [← hany]
      refine ev_blt (evs_cons (ev_frv (xs := ((rg 0 n).flatMap fun j => (rg 0 j).map fun i => (i, j)).map fun p : Int × Int => D.bl (oneW ws p.1 p.2)) ?_) evs_nil) q_any
      rw [← ee]
      refine evl_cm20 (xs := rg 0 n) (f := .int) (ys := fun j => rg 0 j) (g := .int) (h := fun j i => .bl (oneW ws i j)) (itm_rng (evs_cons (ev_blt (evs_cons (ev_var rfl) evs_nil) (q_lenM.trans (by rw [hwl]))) evs_nil) (q_rg1 (sm_of (by omega) (by omega)) (by omega))) (fun _ _ => asg_nm) (fun j hj => ?_) (fun _ _ _ _ => asg_nm) (fun j hj i hi => ?_) (by omega)
      · have hj := mem_rg.mp hj
        exact itm_rng (evs_cons (ev_var rfl) evs_nil) (q_rg1 (sm_of (by omega) (by omega)) (by omega))
      · have hj := mem_rg.mp hj
        have hi := mem_rg.mp hi
        exact ev_call (evs_cons (ev_var rfl) (evs_cons (ev_var rfl) (evs_cons (ev_var rfl) evs_nil))) rfl (one_way_eq hsz hi.1 (by omega) hj.1 hj.2)
    have last : ∀ (Q : R D → Prop), (∀ j, Ends false S Q (exs GW (b_word.drop 3) [some (WP ws), j, none, none, none, none, none, none] S)) → Q (s_word [WP ws] S) := fun Q k => by
      refine law2 Q fun j => ?_
      refine st_for (xs := ws) (f := fun w => .tup (w.map prD)) (g := none) (S1 := S) (fun _ r S' => (∃ j, r = [some (WP ws), j, none, none, none, none, none, none]) ∧ S' = S) (itm_seq (ev_var rfl) q_seqT) ⟨⟨j, rfl⟩, rfl⟩ (fun _ _ _ _ => trivial) ?_ ?_
      · rintro _ w hw _ _ S' ⟨⟨j, rfl⟩, hS⟩
        subst hS
        have e5 := e7 (w.map prD) (List.mem_map_of_mem hw) S'
        have hg : (w.map prD).all isPr = true := List.all_eq_true.mp hgood _ (List.mem_map_of_mem hw)
        rw [hg, hwt] at e5
        exact ⟨_, _, asg_nm, st_ifr (v := false) e5 (fun h => nomatch h) fun _ => st_nil (goes ⟨⟨some (.tup (w.map prD)), rfl⟩, rfl⟩)⟩
      · rintro _ S' ⟨⟨j, rfl⟩, hS⟩
        subst hS
        exact k j
    cases ho : ownS n ws with
    | true =>
      rw [ho] at eown e9
      refine ⟨.str (Str.ofString "own"), err0 (EqR _) ?_, last (EqR _) fun j => ?_, .inr ⟨_, rfl, sh_own⟩⟩
      · refine st_ifR (d := .non) (S2 := S) (v := false) er (fun h => nomatch h) (fun h => nomatch h) fun _ => ?_
        exact st_ifR (v := true) eown (fun _ => ev_str) (fun _ => end_same rfl) (fun h => nomatch h)
      · exact st_ifR (v := true) (e9 j) (fun _ => ev_str) (fun _ => end_same rfl) (fun h => nomatch h)
    | false =>
      rw [ho] at eown e9
      have hbad : ∀ p ∈ prs n, oneW ws p.1 p.2 = oneL ws p.1 p.2 := fun p hp => by
        have hp := mem_prs.mp hp
        exact one_eq (nums_nn hsz hb hp.1 (by omega) (by omega) hp.2.2)
      have hpl : (prs n).length ≤ 6000 := prs_le6 hn.1
      have turn : ∀ p ∈ prs n, ∀ j, ∀ ss, ∀ (Q : Fl → Prop), (oneW ws p.1 p.2 = true → Q (.ret (.str (Str.ofString "way")) S)) → (oneW ws p.1 p.2 = false → Q (exs GW ss [some (WP ws), j, some (.int p.1), some (.int p.2), some (.lst (((nums ws p.1 p.2).map fun x => decide (0 < x)).map D.bl)), none, none, none] S)) →
          Q (exs GW (Sms.cons (Sm.asg (Tg.nm 4) (E.fr false (L.cmp (E.cmp Cop.gt (E.var 6) (E.int (0))) (Tg.nm 6) (It.seq (E.bin Bop.add (E.ix (E.ix (E.var 0) (E.var 2)) (E.var 3)) (E.ix (E.ix (E.var 0) (E.var 3)) (E.var 2)))) Es.nil [((PySem.Str.ofString "_law_number"), 6)]))) (Sms.cons (Sm.iff (E.an (E.cmp Cop.inn (E.bl true) (E.var 4)) (E.cmp Cop.inn (E.bl false) (E.var 4))) (Sms.cons (Sm.ret (E.str (PySem.Str.ofString "way"))) Sms.nil) Sms.nil) ss)) [some (WP ws), j, some (.int p.1), some (.int p.2), none, none, none, none] S) := fun p hp j ss Q q1 q2 => by
        have hp2 := mem_prs.mp hp
        refine st_asg (d := .lst (((nums ws p.1 p.2).map fun x => decide (0 < x)).map D.bl)) (S1 := S) ?_ asg_nm ?_
        · rw [List.map_map]
          exact ev_frv (evl_cmp0 (xs := nums ws p.1 p.2) (f := .int) (itm_seq (ev_nums hsz hp2.1 (by omega) (by omega) hp2.2.2 rfl rfl rfl) q_seqT) (by show 4 ≤ 16777216; decide) (fun _ _ => asg_nm) fun x _ => ev_cmp (ev_var rfl) ev_int q_gt)
        · rw [hbad p hp] at q1 q2
          unfold oneL at q1 q2
          exact st_ifS (v := decide (true ∈ (nums ws p.1 p.2).map fun x => decide (0 < x)) && decide (false ∈ (nums ws p.1 p.2).map fun x => decide (0 < x))) (ev_an (ev_cmp ev_bl (ev_var rfl) (pyB.q_inL (by omega))) fun _ => ev_cmp ev_bl (ev_var rfl) (pyB.q_inL (by omega))) (fun h => st_ret ev_str ⟨q1 h, trivial⟩) q2
      have hpairs : ∀ r : Env, look r 0 = some (WP ws) → itm GW (It.seq (E.call 1 (Es.cons (E.blt Bl.len (Es.cons (E.var 0) Es.nil)) Es.nil))) r S = .ok ((prs n).map prD, none) S := fun r h =>
        itm_seq (ev_call (evs_cons (ev_blt (evs_cons (ev_var h) evs_nil) (q_lenM.trans (by rw [hwl]))) evs_nil) rfl (pairs_eq (by omega) (by omega))) q_seqL
      cases hw : (prs n).any fun p => oneW ws p.1 p.2 with
      | true =>
        rw [hw] at eway
        refine ⟨.str (Str.ofString "way"), err0 (EqR _) ?_, last (EqR _) fun j => ?_, .inr ⟨_, rfl, sh_way⟩⟩
        · refine st_ifR (d := .non) (S2 := S) (v := false) er (fun h => nomatch h) (fun h => nomatch h) fun _ => ?_
          refine st_ifR (d := .non) (S2 := S) (v := false) eown (fun h => nomatch h) (fun h => nomatch h) fun _ => ?_
          exact st_ifR (v := true) eway (fun _ => ev_str) (fun _ => end_same rfl) (fun h => nomatch h)
        · refine st_ifR (d := .non) (S2 := S) (v := false) (e9 j) (fun h => nomatch h) (fun h => nomatch h) fun _ => ?_
          refine st_forX (xs := prs n) (f := prD) (fun p => oneW ws p.1 p.2) (fun r S' => r = [some (WP ws), j, none, none, none, none, none, none] ∧ S' = S) (hpairs _ rfl) ⟨rfl, rfl⟩ ?_ ?_
          · rintro p hp _ S' ⟨rfl, hS⟩
            subst hS
            refine ⟨_, _, asg_2, fun hb2 => ?_, fun hb2 => ?_⟩
            · exact turn p hp j _ _ (fun h => by rw [hb2] at h; cases h) fun _ => st_fgt (st_nil (goes ⟨rfl, rfl⟩))
            · refine ⟨.str (Str.ofString "way"), S', ?_, end_same rfl⟩
              show EqF _ (exs _ _ _ _)
              exact turn p hp j _ _ (fun _ => rfl) (fun h => by rw [hb2] at h; cases h)
          · intro hgood2
            obtain ⟨p, hp, hq⟩ := List.any_eq_true.mp hw
            rw [hgood2 p hp] at hq
            cases hq
      | false =>
        rw [hw] at eway
        have hno : ∀ p ∈ prs n, oneW ws p.1 p.2 = false := fun p hp => by
          cases hq : oneW ws p.1 p.2 with
          | false => rfl
          | true =>
            have : ((prs n).any fun p => oneW ws p.1 p.2) = true := List.any_eq_true.mpr ⟨p, hp, hq⟩
            rw [hw] at this; cases this
        refine ⟨.non, err0 (EqR _) ?_, last (EqR _) fun j => ?_, .inl rfl⟩
        · refine st_ifR (d := .non) (S2 := S) (v := false) er (fun h => nomatch h) (fun h => nomatch h) fun _ => ?_
          refine st_ifR (d := .non) (S2 := S) (v := false) eown (fun h => nomatch h) (fun h => nomatch h) fun _ => ?_
          refine st_ifR (d := .non) (S2 := S) (v := false) eway (fun h => nomatch h) (fun h => nomatch h) fun _ => ?_
          exact st_ret ev_non (end_same rfl)
        · refine st_ifR (d := .non) (S2 := S) (v := false) (e9 j) (fun h => nomatch h) (fun h => nomatch h) fun _ => ?_
          refine st_fold (xs := prs n) (f := prD) (S1 := S) (fun _ => [some (WP ws), j, none, none, none, none, none, none]) (fun _ => S) (hpairs _ rfl) ⟨rfl, rfl⟩ ?_ (st_ret ev_non (end_same rfl))
          rintro dn p hp -
          exact ⟨_, asg_2, turn p hp j _ _ (fun h => by rw [hno p hp] at h; cases h) fun _ => st_fgt (st_nil (goes ⟨rfl, rfl⟩))⟩
/-! ### the maker of stretches -/
theorem even_fz {cs : List Int} {k n : Int} {T : Store} {tied : List D} (h0 : 1 ≤ n) (h1 : n ≤ 1000) (ht : ∀ x ∈ tied, RR.isPair n x) (hl : tied.length ≤ 1000000) (hk0 : 0 ≤ k) (hk : k ≤ 100000000000) :
    ∃ rows cs' k', s_even_rows_k14 [.ref 1, .int n, .lst tied] (RR.dk cs k T) = .ok (.lst (rows.map fun row => .lst (row.map .int))) (RR.dk cs' k' T) ∧ RR.Sq n.toNat rows ∧ k ≤ k' ∧ k' ≤ k + 1001000 := by
  obtain ⟨rows, cs', k', e, hs, g1, g2⟩ := RR.even_rows_ok (cs := cs) (k := k) (T := T) h0 h1 ht hl hk0 hk
  refine ⟨rows, cs', k', ?_, hs, g1, g2⟩
  have e2 : runF [s_draw] ⟨3, 9, true, b_even_rows⟩ [.ref 1, .int n, .lst tied] (RR.dk cs k T) = .ok (.lst (RR.refs T.length n.toNat)) (RR.dk cs' k' (T ++ RR.MT rows)) := e
  have e3 := keep_ret (by simp) e2
  rw [fin_rows hs.len] at e3
  exact e3
/-- pairs in the rows, none too great -/
def Bp (ws : List (List (Int × Int))) : Prop := ∀ w ∈ ws, ∀ p ∈ w, p.1.natAbs < 10 ^ 70 ∧ p.2.natAbs < 10 ^ 70
def MW (ws : List (List (Int × Int))) : Store := MG (ws.map fun w => w.map prD)
theorem mw_at {cs : List Int} {k : Int} {T : Store} {ws : List (List (Int × Int))} {i : Nat} {w : List (Int × Int)} (h : ws[i]? = some w) : (RR.dk cs k (T ++ MW ws))[T.length + 2 + i]? = some (.lst (w.map prD)) :=
  mg_at (by rw [List.getElem?_map, h]; rfl)
theorem Sp.set {n : Nat} {ws : List (List (Int × Int))} (h : Sp n ws) {i j : Nat} {p : Int × Int} {w : List (Int × Int)} (hw : ws[i]? = some w) : Sp n (ws.set i (w.set j p)) := by
  refine ⟨by rw [List.length_set, h.len], fun v hv => ?_⟩
  rcases List.mem_or_eq_of_mem_set hv with q | q
  · exact h.row v q
  · rw [q, List.length_set]; exact h.row w (List.mem_of_getElem? hw)
theorem Bp.set {ws : List (List (Int × Int))} (h : Bp ws) {i j : Nat} {p : Int × Int} {w : List (Int × Int)} (hw : ws[i]? = some w) (hp : p.1.natAbs < 10 ^ 70 ∧ p.2.natAbs < 10 ^ 70) : Bp (ws.set i (w.set j p)) := by
  intro v hv q hq
  rcases List.mem_or_eq_of_mem_set hv with r | r
  · exact h v r q hq
  · subst r
    rcases List.mem_or_eq_of_mem_set hq with s | s
    · exact h w (List.mem_of_getElem? hw) q s
    · rw [s]; exact hp
noncomputable abbrev GS : List Fn := [s_draw, s_even_rows_k14, s_some_ties, s_pairs, s_pick, s_tuples]
theorem pick4 {G : List Fn} {r : Env} {S : Store} {w : Int} {xs : List Int} (hl : xs.length = 4) (h0 : 0 ≤ w) (h1 : w < 4) {es : Es} (he : evs G es r S = .ok (xs.map .int) S) (h5 : look r 5 = some (.int w)) :
    ev G (E.ix (E.fr false (L.dis es)) (E.var 5)) r S = .ok (.int (pl xs w)) S :=
  ev_ix (ev_frv (evl_dis he)) (ev_var h5) (q_ixL h0 (by omega))
theorem asg_subG {G : List Fn} {r : Env} {S S' : Store} {o i : E} {n : Nat} {k : Int} {d : D} (h : ev G o r S = .ok (.ref n) S) (h2 : ev G i r S = .ok (.int k) S) (h3 : subD S (.ref n) (.int k) d = some S') : asg G (.sub o i) d r S = .ok r S' := by
  rw [asg, h]
  show (ev G i r S).bnd _ = _
  rw [h2]
  show (match subD S (.ref n) (.int k) d with
    | some S3 => R.ok r S3
    | none => .bad) = _
  rw [h3]
theorem refs_ix {S : Store} {t n : Nat} {x : Int} (h0 : 0 ≤ x) (h1 : x < n) : ixD S (.lst (RR.refs t n)) (.int x) = some (.ref (t + 2 + x.toNat)) := by
  show atI (RR.refs t n) x = _
  exact RR.refs_at h0 h1
abbrev RwD (rows : List (List Int)) : D := .lst (rows.map fun row => .lst (row.map .int))
def envS (most : Int) (rows : List (List Int)) (T : Store) (n : Nat) (w : Int) (a6 a7 a9 a10 a11 a12 a13 : Option D) : Env := [some (.ref 1), some (.int most), some (RwD rows), some (.lst (RR.refs T.length n)), some (.int n), some (.int w), a6, a7, none, a9, a10, a11, a12, a13]
def oneBody : Sms := (Sms.cons (Sm.asg (Tg.nm 12) (E.blt Bl.mx (Es.cons (E.int (1)) (Es.cons (E.bin Bop.sub (E.var 11) (E.call 0 (Es.cons (E.var 0) (Es.cons (E.ix (E.fr false (L.dis (Es.cons (E.int (1)) (Es.cons (E.int (2)) (Es.cons (E.int (9)) (Es.cons (E.int (90)) Es.nil)))))) (E.var 5)) Es.nil)))) Es.nil)))) (Sms.cons (Sm.asg (Tg.nm 13) (E.bin Bop.add (E.var 11) (E.call 0 (Es.cons (E.var 0) (Es.cons (E.ix (E.fr false (L.dis (Es.cons (E.int (1)) (Es.cons (E.int (2)) (Es.cons (E.int (9)) (Es.cons (E.int (900)) Es.nil)))))) (E.var 5)) Es.nil))))) (Sms.cons (Sm.asg (Tg.sub (E.ix (E.var 3) (E.var 9)) (E.var 10)) (E.call 4 (Es.cons (E.var 0) (Es.cons (E.fr false (L.dis (Es.cons (E.tup (Es.cons (E.var 12) (Es.cons (E.var 13) Es.nil))) (Es.cons (E.tup (Es.cons (E.var 12) (Es.cons (E.var 13) Es.nil))) (Es.cons (E.tup (Es.cons (E.var 11) (Es.cons (E.var 11) Es.nil))) (Es.cons (E.tup (Es.cons (E.var 13) (Es.cons (E.var 13) Es.nil))) (Es.cons (E.tup (Es.cons (E.var 12) (Es.cons (E.var 12) Es.nil))) Es.nil))))))) Es.nil)))) Sms.nil)))
theorem one_ok {most : Int} {rows : List (List Int)} {T : Store} {n : Nat} {w x y rate : Int} {a6 a7 a12 a13 : Option D} {ws : List (List (Int × Int))} {c : List Int} {k : Int} (hws : Sp n ws) (hb : Bp ws) (hw : 0 ≤ w ∧ w < 4) (hx : 0 ≤ x ∧ x < n) (hy : 0 ≤ y ∧ y < n) (hr : 0 < rate ∧ rate ≤ 1000000) (hk : 0 ≤ k) (hk2 : k ≤ 100000000000) :
    ∃ b12 b13 ws' c', exs GS oneBody (envS most rows T n w a6 a7 (some (.int x)) (some (.int y)) (some (.int rate)) a12 a13) (RR.dk c k (T ++ MW ws)) = .next (envS most rows T n w a6 a7 (some (.int x)) (some (.int y)) (some (.int rate)) b12 b13) (RR.dk c' (k + 3) (T ++ MW ws')) ∧ Sp n ws' ∧ Bp ws' := by
  have m1 : ∀ xs : List Int, xs.length = 4 → (∀ z ∈ xs, 1 ≤ z ∧ z ≤ 900) → 1 ≤ pl xs w ∧ pl xs w ≤ 900 := fun xs hl hz => hz _ (pl_mem hw.1 (by omega))
  have q1 := m1 [1, 2, 9, 90] rfl (by decide)
  have q2 := m1 [1, 2, 9, 900] rfl (by decide)
  obtain ⟨t1, c1, e1, t10, t11, _⟩ := RR.draw_ok (cs := c) (k := k) (T := T ++ MW ws) (m := pl [1, 2, 9, 90] w) (by omega) (by omega) hk (by omega)
  obtain ⟨t2, c2, e2, t20, t21, _⟩ := RR.draw_ok (cs := c1) (k := k + 1) (T := T ++ MW ws) (m := pl [1, 2, 9, 900] w) (by omega) (by omega) (by omega) (by omega)
  obtain ⟨p, c3, hp, e3⟩ := pick_ok (f := prD) (cs := c2) (k := k + 1 + 1) (T := T ++ MW ws) (xs := [(max 1 (rate - t1), rate + t2), (max 1 (rate - t1), rate + t2), (rate, rate), (rate + t2, rate + t2), (max 1 (rate - t1), max 1 (rate - t1))]) (by simp) (by simp) (fun _ _ => rfl) (by omega) (by omega)
  have hpb : p.1.natAbs < 10 ^ 70 ∧ p.2.natAbs < 10 ^ 70 := by
    have hl : ∀ z : Int, 0 ≤ z → z ≤ 2000000 → z.natAbs < 10 ^ 70 := fun z z0 z1 => Nat.lt_of_le_of_lt (show z.natAbs ≤ 2000000 by omega) (by decide)
    simp only [List.mem_cons, List.not_mem_nil, or_false] at hp
    rcases hp with rfl | rfl | rfl | rfl | rfl <;> exact ⟨hl _ (by omega) (by omega), hl _ (by omega) (by omega)⟩
  have hwl := hws.len
  have hxl : x.toNat < ws.length := by omega
  have hwx : ws[x.toNat]? = some ws[x.toNat] := List.getElem?_eq_getElem hxl
  have hrl : ws[x.toNat].length = n := hws.row _ (List.getElem_mem hxl)
  refine ⟨some (.int (max 1 (rate - t1))), some (.int (rate + t2)), ws.set x.toNat (ws[x.toNat].set y.toNat p), c3, ?_, hws.set hwx, hb.set hwx hpb⟩
  show EqF _ (exs GS oneBody _ _)
  refine st_asg (d := .int (max 1 (rate - t1))) (S1 := RR.dk c1 (k + 1) (T ++ MW ws)) (ev_blt (evs_cons ev_int (evs_cons (ev_bin (ev_var rfl) (ev_call (evs_cons (ev_var rfl) (evs_cons (pick4 (xs := [1, 2, 9, 90]) rfl hw.1 hw.2 (evs_cons ev_int (evs_cons ev_int (evs_cons ev_int (evs_cons ev_int evs_nil)))) rfl) evs_nil)) rfl e1) q_sub) evs_nil)) q_mx2) asg_nm ?_
  refine st_asg (d := .int (rate + t2)) (S1 := RR.dk c2 (k + 1 + 1) (T ++ MW ws)) (ev_bin (ev_var rfl) (ev_call (evs_cons (ev_var rfl) (evs_cons (pick4 (xs := [1, 2, 9, 900]) rfl hw.1 hw.2 (evs_cons ev_int (evs_cons ev_int (evs_cons ev_int (evs_cons ev_int evs_nil)))) rfl) evs_nil)) rfl e2) q_add) asg_nm ?_
  refine st_asg (d := prD p) (S1 := RR.dk c3 (k + 1 + 1 + 1) (T ++ MW ws)) (S2 := RR.dk c3 (k + 1 + 1 + 1) (T ++ MW (ws.set x.toNat (ws[x.toNat].set y.toNat p)))) (ev_call (evs_cons (ev_var rfl) (evs_cons (ev_frv (evl_dis (evs_cons (ev_tup (evs_cons (ev_var rfl) (evs_cons (ev_var rfl) evs_nil))) (evs_cons (ev_tup (evs_cons (ev_var rfl) (evs_cons (ev_var rfl) evs_nil))) (evs_cons (ev_tup (evs_cons (ev_var rfl) (evs_cons (ev_var rfl) evs_nil))) (evs_cons (ev_tup (evs_cons (ev_var rfl) (evs_cons (ev_var rfl) evs_nil))) (evs_cons (ev_tup (evs_cons (ev_var rfl) (evs_cons (ev_var rfl) evs_nil))) evs_nil))))))) evs_nil)) rfl e3) (asg_subG (n := T.length + 2 + x.toNat) (k := y) (ev_ix (ev_var rfl) (ev_var rfl) (refs_ix hx.1 hx.2)) (ev_var rfl) ?_) (st_nil ?_)
  · have := mg_set (cs := c3) (k := k + 1 + 1 + 1) (T := T) (rows := ws.map fun w => w.map prD) (i := x.toNat) (j := y) (d := prD p) (row := ws[x.toNat].map prD) (by rw [List.getElem?_map, hwx]; rfl) hy.1 (by rw [List.length_map]; omega)
    refine Eq.trans this ?_
    unfold MW
    rw [List.map_set, List.map_set]
  · show Fl.next _ _ = _
    rw [show k + 1 + 1 + 1 = k + 3 by omega]
    rfl
theorem rep_any {S : Store} {k : Nat} {d : D} (h : k ≤ 16777216) : repD S (.lst [d]) (.int k) = some (List.replicate k d) := by
  have hx2 : List.replicate k d = (List.replicate k [d]).flatten := by
    clear h
    induction k with
    | zero => rfl
    | succ k ih => rw [List.replicate_succ, List.replicate_succ, List.flatten_cons, ← ih]; rfl
  have hc : -(2 ^ 63) ≤ (k : Int) ∧ (k : Int) < 2 ^ 63 ∧ [d].length * ((k : Int)).toNat ≤ 16777216 := by
    refine ⟨by omega, by omega, ?_⟩
    rw [List.length_singleton, Nat.one_mul, Int.toNat_natCast]
    exact h
  rw [hx2]
  unfold repD lsD
  simp only []
  rw [if_pos hc, Int.toNat_natCast]
theorem stretches_ok {cs : List Int} {k : Int} {T : Store} (hk : 0 ≤ k) (hk2 : k ≤ 10000000000) :
    ∃ n ws cs' k', s_stretches [.ref 1, .int 6] (RR.dk cs k T) = .ok (WP ws) (RR.dk cs' k' T) ∧ Sp n ws ∧ Bp ws ∧ 1 ≤ n ∧ n ≤ 6 ∧ k ≤ k' ∧ k' ≤ k + 3000000 := by
  refine fn_go (Q := fun o => ∃ n ws cs' k', o = .ok (WP ws) (RR.dk cs' k' T) ∧ Sp n ws ∧ Bp ws ∧ 1 ≤ n ∧ n ≤ 6 ∧ k ≤ k' ∧ k' ≤ k + 3000000) rfl ?_
  show Ends false (RR.dk cs k T) _ (exs GS b_stretches [some (.ref 1), some (.int 6), none, none, none, none, none, none, none, none, none, none, none, none] (RR.dk cs k T))
  obtain ⟨v, c1, e1, v0, v1, _⟩ := RR.draw_ok (cs := cs) (k := k) (T := T) (m := 6) (by omega) (by omega) hk (by omega)
  obtain ⟨w, c2, e2, w0, w1, _⟩ := RR.draw_ok (cs := c1) (k := k + 1) (T := T) (m := 4) (by omega) (by omega) (by omega) (by omega)
  obtain ⟨n, hn⟩ : ∃ n : Nat, 1 + v = (n : Int) := ⟨(1 + v).toNat, by omega⟩
  refine st_asg (d := .tup [.int (1 + v), .int w]) (S1 := RR.dk c2 (k + 1 + 1) T) (ev_tup (evs_cons (ev_bin ev_int (ev_call (evs_cons (ev_var rfl) (evs_cons (ev_var rfl) evs_nil)) rfl e1) q_add) (evs_cons (ev_call (evs_cons (ev_var rfl) (evs_cons ev_int evs_nil)) rfl e2) evs_nil))) asg_2 ?_
  rw [hn]
  obtain ⟨ts, c3, k3, e3, hts, htl, g1, g2⟩ := RR.some_ties_ok (cs := c2) (k := k + 1 + 1) (T := T) (n := n) (by omega) (by omega) (by omega) (by omega)
  obtain ⟨rows, c4, k4, e4, hsq, g3, g4⟩ := even_fz (cs := c3) (k := k3) (T := T) (n := n) (tied := ts) (by omega) (by omega) hts htl (by omega) (by omega)
  rw [Int.toNat_natCast] at hsq
  have hrl := hsq.len
  refine st_asg (d := RwD rows) (S1 := RR.dk c4 k4 T) (ev_call (evs_cons (ev_var rfl) (evs_cons (ev_var rfl) (evs_cons (ev_call (evs_cons (ev_var rfl) (evs_cons (ev_var rfl) evs_nil)) rfl e3) evs_nil))) rfl e4) asg_nm ?_
  have made : ∃ ds S2, evl GS (L.cmp (E.fr true (L.rep (E.fr false (L.dis (Es.cons (E.tup (Es.cons (E.int (0)) (Es.cons (E.int (0)) Es.nil))) Es.nil))) (E.var 4))) (Tg.nm 8) (It.rng (Es.cons (E.var 4) Es.nil)) Es.nil [((PySem.Str.ofString "_law_place"), 8)]) [some (.ref 1), some (.int 6), some (RwD rows), none, some (.int n), some (.int w), none, none, none, none, none, none, none, none] (RR.dk c4 k4 T) = .ok ds S2 ∧
      (fun (done : List Int) ds S => ds = RR.refs T.length done.length ∧ S = RR.dk c4 k4 (T ++ MW (List.replicate done.length (List.replicate n (0, 0))))) (rg 0 n) ds S2 := by
    refine evl_cmpJ (f := D.int) (fun (done : List Int) ds S => ds = RR.refs T.length done.length ∧ S = RR.dk c4 k4 (T ++ MW (List.replicate done.length (List.replicate n (0, 0))))) (itm_rng (evs_cons (ev_var rfl) evs_nil) (q_rg1 (sm_of (by omega) (by omega)) (by omega))) (by rw [rg_len]; omega) ⟨rfl, by simp [MW, MG]⟩ ?_
    rintro done x hx - _ _ ⟨rfl, rfl⟩
    refine ⟨_, _, _, asg_nm, ev_frr (evl_rep (ev_frv (evl_dis (evs_cons (ev_tup (evs_cons ev_int (evs_cons ev_int evs_nil))) evs_nil))) (ev_var rfl) (rep_any (by omega))), ?_, ?_⟩
    · rw [List.length_append, List.length_singleton]
      unfold RR.refs
      rw [List.range_succ, List.map_append]
      refine congrArg (_ ++ [·]) ?_
      show D.ref (RR.dk c4 k4 (T ++ MW _)).length = _
      rw [RR.dk_len, List.length_append]
      unfold MW MG
      rw [List.length_map, List.length_map, List.length_replicate]
      exact congrArg D.ref (by omega)
    · rw [List.length_append, List.length_singleton, dk_app, List.append_assoc]
      refine congrArg (fun Y => RR.dk c4 k4 (T ++ Y)) ?_
      unfold MW MG
      rw [List.replicate_succ', List.map_append, List.map_append]
      refine congrArg (_ ++ [Ob.lst ·]) ?_
      show _ = List.map prD (List.replicate n ((0, 0) : Int × Int))
      rw [List.map_replicate]
  obtain ⟨ds, S2, em, rfl, rfl⟩ := made
  have hrg : (rg 0 n).length = n := by rw [rg_len]; omega
  rw [hrg] at em
  refine st_asg (d := .lst (RR.refs T.length n)) (ev_frv em) asg_nm ?_
  have hz : Sp n (List.replicate n (List.replicate n ((0, 0) : Int × Int))) := ⟨by simp, fun u hu => by rw [(List.mem_replicate.mp hu).2]; simp⟩
  have hzb : Bp (List.replicate n (List.replicate n ((0, 0) : Int × Int))) := fun u hu p hp => by
    rw [(List.mem_replicate.mp hu).2] at hp
    rw [(List.mem_replicate.mp hp).2]
    exact ⟨by decide, by decide⟩
  have hpl : (prs n).length ≤ 6000 := prs_le6 (by omega)
  refine st_for (xs := prs n) (f := prD) (g := none) (S1 := RR.dk c4 k4 (T ++ MW (List.replicate n (List.replicate n (0, 0))))) (fun done r S => ∃ ws c k' j12 j13, r = envS 6 rows T n w none none none none none j12 j13 ∧ S = RR.dk c k' (T ++ MW ws) ∧ Sp n ws ∧ Bp ws ∧ k4 ≤ k' ∧ k' ≤ k4 + 6 * done.length) (itm_seq (ev_call (evs_cons (ev_var rfl) evs_nil) rfl (pairs_eq (by omega) (by omega))) q_seqL) ⟨_, c4, k4, none, none, rfl, rfl, hz, hzb, by omega, by simp⟩ (fun _ _ _ _ => trivial) ?_ ?_
  · rintro done p hp ⟨rest, hd⟩ _ _ ⟨ws, c, k', j12, j13, rfl, rfl, h1, h2, h3, h4⟩
    have hp := mem_prs.mp hp
    have hdl : done.length ≤ 6000 := by
      have := congrArg List.length hd
      rw [List.length_append] at this
      omega
    refine ⟨_, _, asg_2, ?_⟩
    refine st_for (xs := [(p.1, p.2), (p.2, p.1)]) (f := prD) (g := none) (S1 := RR.dk c k' (T ++ MW ws)) (fun dn r S => ∃ ws c k2 j12 j13, r = envS 6 rows T n w (some (.int p.1)) (some (.int p.2)) none none none j12 j13 ∧ S = RR.dk c k2 (T ++ MW ws) ∧ Sp n ws ∧ Bp ws ∧ k' ≤ k2 ∧ k2 ≤ k' + 3 * dn.length) (itm_seq (ev_frv (evl_dis (evs_cons (ev_tup (evs_cons (ev_var rfl) (evs_cons (ev_var rfl) evs_nil))) (evs_cons (ev_tup (evs_cons (ev_var rfl) (evs_cons (ev_var rfl) evs_nil))) evs_nil)))) q_seqL) ⟨ws, c, k', j12, j13, rfl, rfl, h1, h2, by omega, by simp⟩ (fun _ _ _ _ => trivial) ?_ ?_
    · rintro dn q hq ⟨rest2, hd2⟩ _ _ ⟨ws, c, k2, j12, j13, rfl, rfl, h1, h2, h5, h6⟩
      have hdn : dn.length ≤ 2 := by
        have := congrArg List.length hd2
        simp at this
        omega
      have hqb : (0 ≤ q.1 ∧ q.1 < n) ∧ (0 ≤ q.2 ∧ q.2 < n) := by
        simp only [List.mem_cons, List.not_mem_nil, or_false] at hq
        rcases hq with rfl | rfl
        · exact ⟨⟨by show 0 ≤ p.1; omega, by show p.1 < n; omega⟩, ⟨by show 0 ≤ p.2; omega, by show p.2 < n; omega⟩⟩
        · exact ⟨⟨by show 0 ≤ p.2; omega, by show p.2 < n; omega⟩, ⟨by show 0 ≤ p.1; omega, by show p.1 < n; omega⟩⟩
      have hrate := sq_rate hsq hqb.1.1 hqb.1.2 hqb.2.1 hqb.2.2
      have hrow := (sz_of hsq).at_ hqb.1.1 hqb.1.2
      generalize hrt : pl (pl rows q.1) q.2 = rate at *
      refine ⟨_, _, asg_2, ?_⟩
      refine st_asg (d := .int rate) (S1 := RR.dk c k2 (T ++ MW ws)) (ev_ix (ev_ix (ev_var rfl) (ev_var rfl) (q_ixL hqb.1.1 (by omega))) (ev_var rfl) (by rw [← hrt]; exact q_ixL hqb.2.1 (by omega))) asg_nm ?_
      by_cases hpos : 0 < rate
      · obtain ⟨b12, b13, ws', c', eb, u1, u2⟩ := one_ok (most := 6) (rows := rows) (T := T) (w := w) (a6 := some (.int p.1)) (a7 := some (.int p.2)) (a12 := j12) (a13 := j13) (c := c) (k := k2) h1 h2 ⟨w0, w1⟩ hqb.1 hqb.2 ⟨hpos, hrate.2⟩ (by omega) (by omega)
        have ec : ev GS (E.cmp Cop.gt (E.var 11) (E.int (0))) (envS 6 rows T n w (some (.int p.1)) (some (.int p.2)) (some (.int q.1)) (some (.int q.2)) (some (.int rate)) j12 j13) (RR.dk c k2 (T ++ MW ws)) = .ok (.bl true) (RR.dk c k2 (T ++ MW ws)) := by
          have := ev_cmp (G := GS) (r := envS 6 rows T n w (some (.int p.1)) (some (.int p.2)) (some (.int q.1)) (some (.int q.2)) (some (.int rate)) j12 j13) (S := RR.dk c k2 (T ++ MW ws)) (ev_var (i := 11) rfl) (ev_int (i := 0)) q_gt
          rw [decide_eq_true hpos] at this
          exact this
        refine st_ift (v := true) (S1 := RR.dk c k2 (T ++ MW ws)) (r2 := envS 6 rows T n w (some (.int p.1)) (some (.int p.2)) (some (.int q.1)) (some (.int q.2)) (some (.int rate)) b12 b13) (S2 := RR.dk c' (k2 + 3) (T ++ MW ws')) ec (fun _ => eb) (fun h => nomatch h) ?_
        refine st_fgt (st_nil (goes ⟨ws', c', k2 + 3, b12, b13, rfl, rfl, u1, u2, by omega, ?_⟩))
        rw [List.length_append, List.length_singleton]; omega
      · have ec : ev GS (E.cmp Cop.gt (E.var 11) (E.int (0))) (envS 6 rows T n w (some (.int p.1)) (some (.int p.2)) (some (.int q.1)) (some (.int q.2)) (some (.int rate)) j12 j13) (RR.dk c k2 (T ++ MW ws)) = .ok (.bl false) (RR.dk c k2 (T ++ MW ws)) := by
          have := ev_cmp (G := GS) (r := envS 6 rows T n w (some (.int p.1)) (some (.int p.2)) (some (.int q.1)) (some (.int q.2)) (some (.int rate)) j12 j13) (S := RR.dk c k2 (T ++ MW ws)) (ev_var (i := 11) rfl) (ev_int (i := 0)) q_gt
          rw [decide_eq_false hpos] at this
          exact this
        refine st_ifr (v := false) (S1 := RR.dk c k2 (T ++ MW ws)) ec (fun h => nomatch h) fun _ => ?_
        refine st_fgt (st_nil (goes ⟨ws, c, k2, j12, j13, rfl, rfl, h1, h2, by omega, ?_⟩))
        rw [List.length_append, List.length_singleton]; omega
    · rintro _ _ ⟨ws, c, k2, j12, j13, rfl, rfl, h1, h2, h5, h6⟩
      have h6 : k2 ≤ k' + 6 := h6
      refine st_fgt (st_nil (goes ⟨ws, c, k2, j12, j13, rfl, rfl, h1, h2, by omega, ?_⟩))
      rw [List.length_append, List.length_singleton]; omega
  · rintro _ _ ⟨ws, c, k', j12, j13, rfl, rfl, h1, h2, h3, h4⟩
    have et := tuplesG_ok (cs := c) (k := k') (T := T) (rows := ws.map fun w => w.map prD) (n := n) (by rw [List.length_map, h1.len]) (by omega) (fun row hr => by obtain ⟨u, _, rfl⟩ := List.mem_map.mp hr; exact noRefs_map (fun _ => rfl) _)
    have ew : D.tup ((ws.map fun w => w.map prD).map D.tup) = WP ws := by rw [List.map_map]; rfl
    rw [ew] at et
    have hnr : noRef (WP ws) = true := noRefs_map (f := fun w : List (Int × Int) => D.tup (w.map prD)) (fun w => show noRefs (w.map prD) = true from noRefs_map (f := prD) (fun _ => rfl) w) ws
    exact st_ret (ev_call (evs_cons (ev_var rfl) evs_nil) rfl et) ⟨n, ws, c, k', RR.fin_dk hnr, h1, h2, by omega, by omega, by omega, by omega⟩
/-! ### the law -/
noncomputable abbrev GL : List Fn := [s_deck, s_stretches, s_draw, s_bent, s_p_stretches_error, s_word]
def rowsD (W : List (List (Int × Int))) : List D := W.map fun row => D.tup (row.map prD)
theorem rowsD_len (W : List (List (Int × Int))) : (rowsD W).length = W.length := List.length_map _
theorem uv_row {W : List (List (Int × Int))} {n : Nat} (h : Sp n W) (hb : Bp W) : ∀ x ∈ rowsD W, Uw [n, 2] x := by
  intro x hx
  obtain ⟨row, hr, rfl⟩ := List.mem_map.mp hx
  have h1 := h.row row hr
  refine .tup (by rw [List.length_map]; omega) fun y hy => ?_
  obtain ⟨p, hp, rfl⟩ := List.mem_map.mp hy
  have h2 := hb row hr p hp
  refine .tup (by simp) fun z hz => ?_
  simp only [List.mem_cons, List.not_mem_nil, or_false] at hz
  rcases hz with rfl | rfl
  · exact .int h2.1
  · exact .int h2.2
theorem mul7 {S : Store} {x : D} : binD S .mul (.tup [x]) (.int 7) = some (.tup (List.replicate 7 x)) := by
  show (if ([x] : List D) ≠ [] ∧ (2 : Int) ≤ 7 ∧ (7 : Int) ≤ 1000 ∧ [x].length ≤ 1000 then some (D.tup (List.replicate (7 : Int).toNat [x]).flatten) else none) = _
  rw [if_pos ⟨by simp, by decide, by decide, by simp⟩]
  rfl
def val7 : D := .tup (List.replicate 7 (.tup (List.replicate 7 (.tup [.int 0, .int 0]))))
def vals0 (W : List (List (Int × Int))) : List D := [.tup (rowsD W), .lst (rowsD W), .tup (rowsD W ++ (rowsD W).take 1), .tup ((rowsD W).drop 1), .tup [], .non, .dct [] [], .str (Str.ofString ""), .tup [.tup [.tup [.int 0, .int 0]]], .tup [.tup [.tup [.int 0, .int 1]]]]
theorem uw_pair {a b : Int} (ha : a.natAbs < 10 ^ 70) (hb : b.natAbs < 10 ^ 70) : Uw [4, 2, 1] (.tup [.int a, .int b]) := by
  refine .tup (by simp) fun z hz => ?_
  simp only [List.mem_cons, List.not_mem_nil, or_false] at hz
  rcases hz with rfl | rfl
  · exact .int ha
  · exact .int hb
theorem uw_one {ns : List Nat} {d : D} (h : Uw ns d) : Uw (8 :: ns) (.tup [d]) := .tup (by simp) fun z hz => by rw [List.mem_singleton.mp hz]; exact h
theorem val7_uw : Uw [8, 8, 4, 2, 1] val7 := by
  refine .tup (by simp) fun x hx => ?_
  rw [(List.mem_replicate.mp hx).2]
  refine .tup (by simp) fun y hy => ?_
  rw [(List.mem_replicate.mp hy).2]
  exact uw_pair (by decide) (by decide)
theorem vals0_uv {W : List (List (Int × Int))} {n : Nat} (h : Sp n W) (hb : Bp W) (hn : n ≤ 6) : ∀ v ∈ vals0 W, Uw [8, 8, 4, 2, 1] v := by
  have hr : ∀ x ∈ rowsD W, Uw [8, 4, 2, 1] x := fun x hx => (uv_row h hb x hx).mono (by simp [leW]; omega)
  have hl := h.len
  have hl2 := rowsD_len W
  intro v hv
  unfold vals0 at hv
  simp only [List.mem_cons, List.not_mem_nil, or_false] at hv
  rcases hv with rfl | rfl | rfl | rfl | rfl | rfl | rfl | rfl | rfl | rfl
  · exact .tup (by omega) hr
  · exact .lst (by omega) hr
  · refine .tup (by rw [List.length_append, List.length_take]; omega) fun x hx => ?_
    rcases List.mem_append.mp hx with q | q
    · exact hr x q
    · exact hr x (List.mem_of_mem_take q)
  · exact .tup (by rw [List.length_drop]; omega) fun x hx => hr x (List.mem_of_mem_drop hx)
  · exact .tup (by simp) (fun _ h => nomatch h)
  · exact .non
  · exact .dct
  · exact .str sh_e
  · exact uw_one (uw_one (uw_pair (by decide) (by decide)))
  · exact uw_one (uw_one (uw_pair (by decide) (by decide)))
def odd9 : List D := [.tup [.int 0, .int 0], .tup [.int 0, .int 3], .tup [.int 3, .int 2], .tup [.int 1, .int (10 ^ (6 : Int).toNat)], .tup [.int 1, .int (10 ^ (6 : Int).toNat + 1)], .tup [.bl true, .int 1], .tup [.int (-1), .int 1], .tup [.int 1, .int 1, .int 1], .lst [.int 1, .int 1]]
theorem odd9_uw : ∀ x ∈ odd9, Uw [4, 2, 1] x := by
  intro x hx
  unfold odd9 at hx
  simp only [List.mem_cons, List.not_mem_nil, or_false] at hx
  rcases hx with rfl | rfl | rfl | rfl | rfl | rfl | rfl | rfl | rfl
  · exact uw_pair (by decide) (by decide)
  · exact uw_pair (by decide) (by decide)
  · exact uw_pair (by decide) (by decide)
  · exact uw_pair (by decide) (by decide)
  · exact uw_pair (by decide) (by decide)
  · refine .tup (by simp) fun z hz => ?_
    simp only [List.mem_cons, List.not_mem_nil, or_false] at hz
    rcases hz with rfl | rfl
    · exact .bl
    · exact .int (by decide)
  · exact uw_pair (by decide) (by decide)
  · refine .tup (by simp) fun z hz => ?_
    simp only [List.mem_cons, List.not_mem_nil, or_false, or_self] at hz
    rw [hz]; exact .int (by decide)
  · refine .lst (by simp) fun z hz => ?_
    simp only [List.mem_cons, List.not_mem_nil, or_false, or_self] at hz
    rw [hz]; exact .int (by decide)
theorem law_true' (ns : List Int) : ∃ S', s_law [.scr ns] [] = .ok (.bl true) S' := by
  obtain ⟨cs, ed⟩ := deck_ok ns
  refine fn_go (Q := fun o => ∃ S', o = .ok (.bl true) S') rfl ?_
  show Ends false [] _ (exs GL b_law [some (.scr ns), none, none, none, none, none, none, none, none, none, none, none, none] [])
  refine st_asg (d := .ref 1) (ev_call (evs_cons (ev_var rfl) evs_nil) rfl ed) asg_nm ?_
  refine st_for (xs := rg 0 8) (f := .int) (g := none) (S1 := RR.dk cs 0 []) (fun done r S => ∃ c k T, r = [some (.scr ns), some (.ref 1), none, none, none, none, none, none, none, none, none, none, none] ∧ S = RR.dk c k T ∧ 0 ≤ k ∧ k ≤ 21000000 * done.length) (itm_rng (evs_cons ev_int evs_nil) (q_rg1 (by decide) (by decide))) ⟨cs, 0, [], rfl, rfl, by omega, by simp⟩ (fun _ _ _ _ => trivial) ?_ ?_
  · rintro done t ht ⟨rest, hd⟩ _ _ ⟨c, k, T, rfl, rfl, k0, k1⟩
    have hdl : done.length ≤ 8 := by
      have := congrArg List.length hd
      rw [List.length_append, rg_len] at this
      omega
    obtain ⟨n, W, c1, k2, e1, hW, hWb, n0, n1, g1, g2⟩ := stretches_ok (cs := c) (k := k) (T := T) k0 (by omega)
    have hwl := hW.len
    have hrl := rowsD_len W
    have hvw := vals0_uv hW hWb n1
    refine ⟨_, _, asg_nm, ?_⟩
    refine st_asg (d := .tup (rowsD W)) (ev_call (evs_cons (ev_var rfl) (evs_cons ev_int evs_nil)) rfl e1) asg_nm ?_
    refine st_asg (d := .ref (T.length + 2)) (S1 := RR.dk c1 k2 (T ++ [.lst (vals0 W)])) ?_ asg_nm ?_
    · refine ev_frr (S1 := RR.dk c1 k2 T) (evl_dis (evs_cons (ev_var rfl) (evs_cons (ev_frv (evl_ofl (ev_var rfl) rfl)) (evs_cons (ev_bin (ev_var rfl) (ev_toT (ev_var rfl) rfl ev_int (by decide)) (q_addT ?_)) (evs_cons (ev_fromT (ev_var rfl) rfl ev_int (by decide)) (evs_cons (ev_tup evs_nil) (evs_cons ev_non (evs_cons ?_ (evs_cons ev_str (evs_cons (ev_tup (evs_cons (ev_tup (evs_cons (ev_tup (evs_cons ev_int (evs_cons ev_int evs_nil))) evs_nil)) evs_nil)) (evs_cons (ev_tup (evs_cons (ev_tup (evs_cons (ev_tup (evs_cons ev_int (evs_cons ev_int evs_nil))) evs_nil)) evs_nil)) evs_nil)))))))))))
      · rw [List.length_take]; omega
      · rw [ev, evs_nil]
        show (if ([] : List Str).length = ([] : List D).length ∧ ([] : List Str).length ≤ 1 then R.ok (D.dct [] []) (RR.dk c1 k2 T) else .bad) = _
        exact if_pos ⟨rfl, by decide⟩
    refine st_appR (n := T.length + 2) (xs := vals0 W) (d := val7) (ev_var rfl) (ev_bin (ev_tup (evs_cons (ev_bin (ev_tup (evs_cons (ev_tup (evs_cons ev_int (evs_cons ev_int evs_nil))) evs_nil)) ev_int mul7) evs_nil)) ev_int mul7) dk_at (by simp [vals0]) ?_
    rw [dk_set]
    obtain ⟨vals1, hv1⟩ : ∃ vals1 : List D, vals1 = vals0 W ++ [val7] := ⟨_, rfl⟩
    have hv1l : vals1.length = 11 := by rw [hv1]; simp [vals0]
    have hv1u : ∀ v ∈ vals1, Uw [8, 8, 4, 2, 1] v := fun v hv => by
      rw [hv1] at hv
      rcases List.mem_append.mp hv with q | q
      · exact hvw v q
      · rw [List.mem_singleton.mp q]; exact val7_uw
    rw [← hv1]
    obtain ⟨i, c2, e2, i0, i1, _⟩ := RR.draw_ok (cs := c1) (k := k2) (T := T ++ [.lst vals1]) (m := (rowsD W).length) (by omega) (by omega) (by omega) (by omega)
    obtain ⟨j, c3, e3, j0, j1, _⟩ := RR.draw_ok (cs := c2) (k := k2 + 1) (T := T ++ [.lst vals1]) (m := (rowsD W).length) (by omega) (by omega) (by omega) (by omega)
    refine st_asg (d := .tup [.int i, .int j]) (S1 := RR.dk c3 (k2 + 1 + 1) (T ++ [.lst vals1])) (ev_tup (evs_cons (ev_call (evs_cons (ev_var rfl) (evs_cons (ev_blt (evs_cons (ev_var rfl) evs_nil) q_lenT) evs_nil)) rfl e2) (evs_cons (ev_call (evs_cons (ev_var rfl) (evs_cons (ev_blt (evs_cons (ev_var rfl) evs_nil) q_lenT) evs_nil)) rfl e3) evs_nil))) asg_2 ?_
    obtain ⟨row, hrm, hri, hrx⟩ := ix_any (S := []) (xs := rowsD W) i0 i1
    obtain ⟨row, hrow, hrw⟩ : ∃ w : List D, row = .tup w ∧ w.length = n ∧ ∀ y ∈ w, Uw [4, 2, 1] y := by
      have hu := uv_row hW hWb row hrm
      obtain ⟨w, hw, rfl⟩ := List.mem_map.mp hrm
      refine ⟨_, rfl, by rw [List.length_map]; exact hW.row w hw, fun y hy => ?_⟩
      cases hu with
      | tup _ h2 => exact (h2 y hy).mono (by decide)
    subst hrow
    have hrx2 : ∀ S : Store, ixD S (.tup (rowsD W)) (.int i) = some (.tup row) := fun S => hrx
    -- the web with one rate otherwise
    refine st_for (xs := odd9) (f := fun x => x) (g := none) (S1 := RR.dk c3 (k2 + 1 + 1) (T ++ [.lst vals1])) (fun dn r S => ∃ vals, r = [some (.scr ns), some (.ref 1), some (.int t), some (.tup (rowsD W)), some (.ref (T.length + 2)), none, none, none, some (.int i), some (.int j), none, none, none] ∧ S = RR.dk c3 (k2 + 1 + 1) (T ++ [.lst vals]) ∧ (∀ v ∈ vals, Uw [8, 8, 4, 2, 1] v) ∧ vals.length ≤ 11 + dn.length) ?_ ⟨vals1, rfl, rfl, hv1u, by rw [hv1l]; simp⟩ (fun _ _ _ _ => trivial) ?_ ?_
    · rw [map_id2]
      exact itm_seq (ev_frv (evl_dis (evs_cons (ev_tup (evs_cons ev_int (evs_cons ev_int evs_nil))) (evs_cons (ev_tup (evs_cons ev_int (evs_cons ev_int evs_nil))) (evs_cons (ev_tup (evs_cons ev_int (evs_cons ev_int evs_nil))) (evs_cons (ev_tup (evs_cons ev_int (evs_cons (ev_bin ev_int ev_int (q_pow ⟨by decide, by decide, by decide⟩)) evs_nil))) (evs_cons (ev_tup (evs_cons ev_int (evs_cons (ev_bin (ev_bin ev_int ev_int (q_pow ⟨by decide, by decide, by decide⟩)) ev_int q_add) evs_nil))) (evs_cons (ev_tup (evs_cons ev_bl (evs_cons ev_int evs_nil))) (evs_cons (ev_tup (evs_cons (ev_neg ev_int) (evs_cons ev_int evs_nil))) (evs_cons (ev_tup (evs_cons ev_int (evs_cons ev_int (evs_cons ev_int evs_nil)))) (evs_cons (ev_frv (evl_dis (evs_cons ev_int (evs_cons ev_int evs_nil)))) evs_nil))))))))))) q_seqL
    · rintro dn x hx ⟨rest2, hd2⟩ _ _ ⟨vals, rfl, rfl, v1, v2⟩
      have hdn : dn.length ≤ 9 := by
        have := congrArg List.length hd2
        simp [odd9] at this
        omega
      have hxu : Uw [4, 2, 1] x := odd9_uw x hx
      refine ⟨_, _, asg_nm, ?_⟩
      have hnew : Uw [8, 4, 2, 1] (.tup (row.take j.toNat ++ [x] ++ row.drop (j + 1).toNat)) := by
        refine .tup ?_ fun y hy => ?_
        · rw [List.length_append, List.length_append, List.length_take, List.length_drop, List.length_singleton]; omega
        · rcases List.mem_append.mp hy with hy | hy
          · rcases List.mem_append.mp hy with hy | hy
            · exact hrw.2 y (List.mem_of_mem_take hy)
            · rw [List.mem_singleton.mp hy]; exact hxu
          · exact hrw.2 y (List.mem_of_mem_drop hy)
      have hweb : Uw [8, 8, 4, 2, 1] (.tup ((rowsD W).take i.toNat ++ [.tup (row.take j.toNat ++ [x] ++ row.drop (j + 1).toNat)] ++ (rowsD W).drop (i + 1).toNat)) := by
        have hr : ∀ x ∈ rowsD W, Uw [8, 4, 2, 1] x := fun x hx => (uv_row hW hWb x hx).mono (by simp [leW]; omega)
        refine .tup ?_ fun y hy => ?_
        · rw [List.length_append, List.length_append, List.length_take, List.length_drop, List.length_singleton]; omega
        · rcases List.mem_append.mp hy with hy | hy
          · rcases List.mem_append.mp hy with hy | hy
            · exact hr y (List.mem_of_mem_take hy)
            · rw [List.mem_singleton.mp hy]; exact hnew
          · exact hr y (List.mem_of_mem_drop hy)
      refine st_asg (d := .tup (row.take j.toNat ++ [x] ++ row.drop (j + 1).toNat)) (S1 := RR.dk c3 (k2 + 1 + 1) (T ++ [.lst vals])) (ev_bin (ev_bin (ev_toT (ev_ix (ev_var rfl) (ev_var rfl) (hrx2 _)) rfl (ev_var rfl) j0) (ev_tup (evs_cons (ev_var rfl) evs_nil)) (q_addT ?_)) (ev_fromT (ev_ix (ev_var rfl) (ev_var rfl) (hrx2 _)) rfl (ev_bin (ev_var rfl) ev_int q_add) (by omega)) (q_addT ?_)) asg_nm ?_
      · rw [List.length_take, List.length_singleton]; omega
      · rw [List.length_append, List.length_take, List.length_singleton, List.length_drop]; omega
      refine st_appR (n := T.length + 2) (xs := vals) (ev_var rfl) (ev_bin (ev_bin (ev_toT (ev_var rfl) rfl (ev_var rfl) i0) (ev_tup (evs_cons (ev_var rfl) evs_nil)) (q_addT ?_)) (ev_fromT (ev_var rfl) rfl (ev_bin (ev_var rfl) ev_int q_add) (by omega)) (q_addT ?_)) dk_at (by omega) ?_
      · rw [List.length_take, List.length_singleton]; omega
      · rw [List.length_append, List.length_take, List.length_singleton, List.length_drop]; omega
      rw [dk_set]
      refine st_fgt (st_nil (goes ⟨_, rfl, rfl, fun v hv => ?_, ?_⟩))
      · rcases List.mem_append.mp hv with q | q
        · exact v1 v q
        · rw [List.mem_singleton.mp q]; exact hweb
      · rw [List.length_append, List.length_append, List.length_singleton, List.length_singleton]; omega
    rintro _ _ ⟨vals, rfl, rfl, v1, v2⟩
    -- bent ones
    have huw : Uw [6, 6, 2] (.tup (rowsD W)) := .tup (by omega) fun x hx => (uv_row hW hWb x hx).mono (by simp [leW]; omega)
    refine st_for (xs := rg 0 5) (f := .int) (g := none) (S1 := RR.dk c3 (k2 + 1 + 1) (T ++ [.lst vals])) (fun dn r S => ∃ d4 vals' c4 k4, r = [some (.scr ns), some (.ref 1), some (.int t), some (.tup (rowsD W)), some d4, none, none, none, some (.int i), some (.int j), none, none, none] ∧ S = RR.dk c4 k4 (T ++ [.lst vals]) ∧ (∀ v ∈ vals', Uw [8, 8, 4, 2, 1] v) ∧ vals'.length ≤ 20 + 2 * dn.length ∧ k2 + 2 ≤ k4 ∧ k4 ≤ k2 + 2 + 48 * dn.length ∧ ((dn = [] ∧ d4 = .ref (T.length + 2) ∧ vals' = vals) ∨ d4 = .lst vals')) (itm_rng (evs_cons ev_int evs_nil) (q_rg1 (by decide) (by decide))) ⟨.ref (T.length + 2), vals, c3, k2 + 1 + 1, rfl, rfl, v1, v2, by omega, by simp; omega, .inl ⟨rfl, rfl, rfl⟩⟩ (fun _ _ _ _ => trivial) ?_ ?_
    · rintro dn x hx ⟨rest2, hd2⟩ _ _ ⟨d4, vals', c4, k4, rfl, rfl, w1, w2, w3, w4, w5⟩
      have hdn : dn.length ≤ 6 := by
        have := congrArg List.length hd2
        rw [List.length_append, rg_len] at this
        omega
      obtain ⟨b1, c5, k5, e5, u5, y1, y2⟩ := bent2_ok (T := T ++ [.lst vals]) 6 (cs := c4) (j := k4) (deep := 3) huw (by decide) (by omega) (by omega) (by omega) (by omega)
      obtain ⟨b2, c6, k6, e6, u6, y3, y4⟩ := bent2_ok (T := T ++ [.lst vals]) 6 (cs := c5) (j := k5) (deep := 3) u5 (by decide) (by omega) (by omega) (by omega) (by omega)
      refine ⟨_, _, asg_nm, ?_⟩
      refine st_asg (d := b1) (ev_call (evs_cons (ev_var rfl) (evs_cons (ev_var rfl) (evs_cons ev_int evs_nil))) rfl e5) asg_nm ?_
      have hadd : binD (RR.dk c6 k6 (T ++ [.lst vals])) .add d4 (.lst [b1, b2]) = some (.lst (vals' ++ [b1, b2])) := by
        rcases w5 with ⟨_, rfl, rfl⟩ | rfl
        · have hls : lsD (RR.dk c6 k6 (T ++ [.lst vals'])) (.ref (T.length + 2)) = some vals' := by
            unfold lsD
            simp only [dk_at]
          show (match lsD (RR.dk c6 k6 (T ++ [.lst vals'])) (.ref (T.length + 2)), lsD (RR.dk c6 k6 (T ++ [.lst vals'])) (.lst [b1, b2]) with
            | some xs, some ys => if xs.length + ys.length ≤ 16777216 then some (D.lst (xs ++ ys)) else none
            | _, _ => none) = _
          rw [hls]
          exact if_pos (by simp; omega)
        · exact q_addL (by simp; omega)
      refine st_asg (S1 := RR.dk c6 k6 (T ++ [.lst vals])) (ev_bin (ev_var rfl) (ev_frv (evl_dis (evs_cons (ev_var rfl) (evs_cons (ev_call (evs_cons (ev_var rfl) (evs_cons (ev_var rfl) (evs_cons ev_int evs_nil))) rfl e6) evs_nil)))) hadd) asg_nm ?_
      refine st_fgt (st_nil (goes ⟨_, vals' ++ [b1, b2], c6, k6, rfl, rfl, fun v hv => ?_, ?_, by omega, ?_, .inr rfl⟩))
      · rcases List.mem_append.mp hv with q | q
        · exact w1 v q
        · simp only [List.mem_cons, List.not_mem_nil, or_false] at q
          rcases q with rfl | rfl
          · exact u5.mono (by decide)
          · exact u6
      · rw [List.length_append, List.length_append]; simp; omega
      · rw [List.length_append, List.length_singleton]; omega
    rintro _ _ ⟨d4, vals', c4, k4, rfl, rfl, w1, w2, w3, w4, w5⟩
    have hl6 : (rg 0 5).length = 5 := by rw [rg_len]; rfl
    rw [hl6] at w2 w4
    have hd4 : d4 = .lst vals' := by
      rcases w5 with ⟨h, _⟩ | h
      · exact absurd h (by decide)
      · exact h
    subst hd4
    -- each is told
    refine st_fold (f := fun x => x) (xs := vals') (S1 := RR.dk c4 k4 (T ++ [.lst vals])) (fun _ => [some (.scr ns), some (.ref 1), some (.int t), some (.tup (rowsD W)), some (.lst vals'), none, none, none, some (.int i), some (.int j), none, none, none]) (fun _ => RR.dk c4 k4 (T ++ [.lst vals])) (itm_seq (ev_var rfl) (by rw [map_id2]; exact q_seqL)) ⟨rfl, rfl⟩ ?_ ?_
    · rintro dn v hv -
      have hu := w1 v hv
      refine ⟨_, asg_nm, ?_⟩
      obtain ⟨z, z1, z2⟩ := repr_ft (S := RR.dk c4 k4 (T ++ [.lst vals])) hu.ft (by decide) (by decide)
      obtain ⟨d, q1, q2, q3⟩ := same_word (v := v) (S := RR.dk c4 k4 (T ++ [.lst vals])) hu
      have hdu : Uv 1 1 d := by
        rcases q3 with rfl | ⟨x, rfl, hx⟩
        · exact .non
        · exact .str hx
      refine st_asg (d := .str z) (ev_blt (evs_cons (ev_var rfl) evs_nil) z1) asg_nm ?_
      refine st_ifr (v := false) (S1 := RR.dk c4 k4 (T ++ [.lst vals])) (ev_or (p := false) (q := false) ?_ fun _ => ?_) (fun h => nomatch h) fun _ => ?_
      · exact ev_reprne hdu.ft (by decide) (by decide) (ev_call (evs_cons (ev_var rfl) evs_nil) rfl q1) (ev_call (evs_cons (ev_var rfl) evs_nil) rfl q2)
      · exact ev_cmp (ev_blt (evs_cons (ev_var rfl) evs_nil) z1) (ev_var rfl) (q_same z2)
      exact st_fgt (st_nil (goes ⟨rfl, rfl⟩))
    · refine st_fgt (st_nil (goes ⟨c4, k4, T ++ [.lst vals], rfl, rfl, by omega, ?_⟩))
      rw [List.length_append, List.length_singleton]
      omega
  · rintro _ _ ⟨c, k, T, rfl, rfl, k0, k1⟩
    refine st_ret ev_bl ?_
    exact ⟨[], RR.end_any (S := []) (X := RR.dk c k T) rfl rfl⟩
end RR.N
namespace RR
open PySem L2
theorem law_true (ns : List Int) (h : ns.length ≤ 63) (hb : ∀ i ∈ ns, Builtin.Int.intBits i ≤ 1048576) : ∃ S', s_law [.scr ns] [] = .ok (.bl true) S' := N.law_true' ns
end RR

set_option Elab.async false
set_option linter.all false
set_option maxRecDepth 100000
set_option maxHeartbeats 0
namespace RL
open PySem PySem.Spec PyProof.Rows L2 RR
def top (i : Nat) : Stmt := PySem.Challenge.pw_ringrates_k14_what_are_no_stretches.main.body.getD i (.Pass ⟨0, 0, 0, 0⟩)
def N_deck : List Str := [(PySem.Str.ofString "_law_script"), (PySem.Str.ofString "_law_cell")]
def ps_deck : List Str := [(PySem.Str.ofString "_law_script")]
def T_deck : Tab := ⟨N_deck, defScope (top 10), defScope (top 10), true, [(PySem.Str.ofString "abs")], [], [], [], []⟩
def d_deck : He.DefD := ⟨((PySem.Str.ofString "_law_deck"), none), (PySem.Str.ofString "_law_deck"), (PySem.Str.ofString "_law_deck"), defArgs (top 10), defBody (top 10), defScope (top 10), [], []⟩
theorem chk_deck : fnB T_deck ps_deck (defBody (top 10)) ir_deck = true := by decide +kernel
theorem bind_deck (kV doc pm : Value) (an : Option Addr) (cdv ct : Value) (us : List Value) (hl : us.length = ps_deck.length) : bindArgs (PySem.W.fnOf (PySem.Str.ofString "_law_deck") (PySem.Str.ofString "_law_deck") (defArgs (top 10)) (defBody (top 10)) (defScope (top 10)) .none kV doc pm an cdv ct) ⟨us, []⟩ = pure (ps_deck.zip us) := by
  match us, hl with | [_], _ => rfl
def N_draw : List Str := [(PySem.Str.ofString "_law_deck_here"), (PySem.Str.ofString "_law_many"), (PySem.Str.ofString "_law_at"), (PySem.Str.ofString "_law_cell"), (PySem.Str.ofString "_law_mixed")]
def ps_draw : List Str := [(PySem.Str.ofString "_law_deck_here"), (PySem.Str.ofString "_law_many")]
def T_draw : Tab := ⟨N_draw, defScope (top 11), defScope (top 11), true, [(PySem.Str.ofString "int"), (PySem.Str.ofString "len")], [], [], [], []⟩
def d_draw : He.DefD := ⟨((PySem.Str.ofString "_law_draw"), none), (PySem.Str.ofString "_law_draw"), (PySem.Str.ofString "_law_draw"), defArgs (top 11), defBody (top 11), defScope (top 11), [], []⟩
theorem chk_draw : fnB T_draw ps_draw (defBody (top 11)) ir_draw = true := by decide +kernel
theorem bind_draw (kV doc pm : Value) (an : Option Addr) (cdv ct : Value) (us : List Value) (hl : us.length = ps_draw.length) : bindArgs (PySem.W.fnOf (PySem.Str.ofString "_law_draw") (PySem.Str.ofString "_law_draw") (defArgs (top 11)) (defBody (top 11)) (defScope (top 11)) .none kV doc pm an cdv ct) ⟨us, []⟩ = pure (ps_draw.zip us) := by
  match us, hl with | [_, _], _ => rfl
def N_even_rows_k14 : List Str := [(PySem.Str.ofString "_law_deck_here"), (PySem.Str.ofString "_law_many"), (PySem.Str.ofString "_law_tied"), (PySem.Str.ofString "_law_own"), (PySem.Str.ofString "_law_rows"), (PySem.Str.ofString "_law_i"), (PySem.Str.ofString "_law_j"), (PySem.Str.ofString "_law_common"), (PySem.Str.ofString "_law_place")]
def ps_even_rows_k14 : List Str := [(PySem.Str.ofString "_law_deck_here"), (PySem.Str.ofString "_law_many"), (PySem.Str.ofString "_law_tied")]
def T_even_rows_k14 : Tab := ⟨N_even_rows_k14, defScope (top 16), defScope (top 16), true, [(PySem.Str.ofString "range")], [], [], [((PySem.Str.ofString "_law_draw"), 0)], []⟩
def d_even_rows_k14 : He.DefD := ⟨((PySem.Str.ofString "_law_even_rows"), none), (PySem.Str.ofString "_law_even_rows"), (PySem.Str.ofString "_law_even_rows"), defArgs (top 16), defBody (top 16), defScope (top 16), [], []⟩
theorem chk_even_rows_k14 : fnB T_even_rows_k14 ps_even_rows_k14 (defBody (top 16)) ir_even_rows_k14 = true := by decide +kernel
theorem bind_even_rows_k14 (kV doc pm : Value) (an : Option Addr) (cdv ct : Value) (us : List Value) (hl : us.length = ps_even_rows_k14.length) : bindArgs (PySem.W.fnOf (PySem.Str.ofString "_law_even_rows") (PySem.Str.ofString "_law_even_rows") (defArgs (top 16)) (defBody (top 16)) (defScope (top 16)) .none kV doc pm an cdv ct) ⟨us, []⟩ = pure (ps_even_rows_k14.zip us) := by
  match us, hl with | [_, _, _], _ => rfl
def N_pairs : List Str := [(PySem.Str.ofString "_law_many"), (PySem.Str.ofString "_law_found"), (PySem.Str.ofString "_law_i"), (PySem.Str.ofString "_law_j")]
def ps_pairs : List Str := [(PySem.Str.ofString "_law_many")]
def T_pairs : Tab := ⟨N_pairs, defScope (top 14), defScope (top 14), true, [(PySem.Str.ofString "range")], [], [], [], []⟩
def d_pairs : He.DefD := ⟨((PySem.Str.ofString "_law_pairs"), none), (PySem.Str.ofString "_law_pairs"), (PySem.Str.ofString "_law_pairs"), defArgs (top 14), defBody (top 14), defScope (top 14), [], []⟩
theorem chk_pairs : fnB T_pairs ps_pairs (defBody (top 14)) ir_pairs = true := by decide +kernel
theorem bind_pairs (kV doc pm : Value) (an : Option Addr) (cdv ct : Value) (us : List Value) (hl : us.length = ps_pairs.length) : bindArgs (PySem.W.fnOf (PySem.Str.ofString "_law_pairs") (PySem.Str.ofString "_law_pairs") (defArgs (top 14)) (defBody (top 14)) (defScope (top 14)) .none kV doc pm an cdv ct) ⟨us, []⟩ = pure (ps_pairs.zip us) := by
  match us, hl with | [_], _ => rfl
def N_some_ties : List Str := [(PySem.Str.ofString "_law_deck_here"), (PySem.Str.ofString "_law_many"), (PySem.Str.ofString "_law_pairs_here"), (PySem.Str.ofString "_law_way"), (PySem.Str.ofString "_law_pair")]
def ps_some_ties : List Str := [(PySem.Str.ofString "_law_deck_here"), (PySem.Str.ofString "_law_many")]
def T_some_ties : Tab := ⟨N_some_ties, defScope (top 17), defScope (top 17), true, [], [], [], [((PySem.Str.ofString "_law_pairs"), 0), ((PySem.Str.ofString "_law_draw"), 1)], []⟩
def d_some_ties : He.DefD := ⟨((PySem.Str.ofString "_law_some_ties"), none), (PySem.Str.ofString "_law_some_ties"), (PySem.Str.ofString "_law_some_ties"), defArgs (top 17), defBody (top 17), defScope (top 17), [], []⟩
theorem chk_some_ties : fnB T_some_ties ps_some_ties (defBody (top 17)) ir_some_ties = true := by decide +kernel
theorem bind_some_ties (kV doc pm : Value) (an : Option Addr) (cdv ct : Value) (us : List Value) (hl : us.length = ps_some_ties.length) : bindArgs (PySem.W.fnOf (PySem.Str.ofString "_law_some_ties") (PySem.Str.ofString "_law_some_ties") (defArgs (top 17)) (defBody (top 17)) (defScope (top 17)) .none kV doc pm an cdv ct) ⟨us, []⟩ = pure (ps_some_ties.zip us) := by
  match us, hl with | [_, _], _ => rfl
def N_pick : List Str := [(PySem.Str.ofString "_law_deck_here"), (PySem.Str.ofString "_law_some")]
def ps_pick : List Str := [(PySem.Str.ofString "_law_deck_here"), (PySem.Str.ofString "_law_some")]
def T_pick : Tab := ⟨N_pick, defScope (top 12), defScope (top 12), true, [(PySem.Str.ofString "len")], [], [], [((PySem.Str.ofString "_law_draw"), 0)], []⟩
def d_pick : He.DefD := ⟨((PySem.Str.ofString "_law_pick"), none), (PySem.Str.ofString "_law_pick"), (PySem.Str.ofString "_law_pick"), defArgs (top 12), defBody (top 12), defScope (top 12), [], []⟩
theorem chk_pick : fnB T_pick ps_pick (defBody (top 12)) ir_pick = true := by decide +kernel
theorem bind_pick (kV doc pm : Value) (an : Option Addr) (cdv ct : Value) (us : List Value) (hl : us.length = ps_pick.length) : bindArgs (PySem.W.fnOf (PySem.Str.ofString "_law_pick") (PySem.Str.ofString "_law_pick") (defArgs (top 12)) (defBody (top 12)) (defScope (top 12)) .none kV doc pm an cdv ct) ⟨us, []⟩ = pure (ps_pick.zip us) := by
  match us, hl with | [_, _], _ => rfl
def N_tuples : List Str := [(PySem.Str.ofString "_law_rows"), (PySem.Str.ofString "_law_row")]
def ps_tuples : List Str := [(PySem.Str.ofString "_law_rows")]
def T_tuples : Tab := ⟨N_tuples, defScope (top 15), defScope (top 15), true, [(PySem.Str.ofString "tuple")], [], [], [], []⟩
def d_tuples : He.DefD := ⟨((PySem.Str.ofString "_law_tuples"), none), (PySem.Str.ofString "_law_tuples"), (PySem.Str.ofString "_law_tuples"), defArgs (top 15), defBody (top 15), defScope (top 15), [], []⟩
theorem chk_tuples : fnB T_tuples ps_tuples (defBody (top 15)) ir_tuples = true := by decide +kernel
theorem bind_tuples (kV doc pm : Value) (an : Option Addr) (cdv ct : Value) (us : List Value) (hl : us.length = ps_tuples.length) : bindArgs (PySem.W.fnOf (PySem.Str.ofString "_law_tuples") (PySem.Str.ofString "_law_tuples") (defArgs (top 15)) (defBody (top 15)) (defScope (top 15)) .none kV doc pm an cdv ct) ⟨us, []⟩ = pure (ps_tuples.zip us) := by
  match us, hl with | [_], _ => rfl
def N_stretches : List Str := [(PySem.Str.ofString "_law_deck_here"), (PySem.Str.ofString "_law_most"), (PySem.Str.ofString "_law_rows"), (PySem.Str.ofString "_law_found"), (PySem.Str.ofString "_law_many"), (PySem.Str.ofString "_law_wide"), (PySem.Str.ofString "_law_i"), (PySem.Str.ofString "_law_j"), (PySem.Str.ofString "_law_place"), (PySem.Str.ofString "_law_one"), (PySem.Str.ofString "_law_other"), (PySem.Str.ofString "_law_rate"), (PySem.Str.ofString "_law_low"), (PySem.Str.ofString "_law_high")]
def ps_stretches : List Str := [(PySem.Str.ofString "_law_deck_here"), (PySem.Str.ofString "_law_most")]
def T_stretches : Tab := ⟨N_stretches, defScope (top 19), defScope (top 19), true, [(PySem.Str.ofString "range"), (PySem.Str.ofString "max")], [], [], [((PySem.Str.ofString "_law_draw"), 0), ((PySem.Str.ofString "_law_even_rows"), 1), ((PySem.Str.ofString "_law_some_ties"), 2), ((PySem.Str.ofString "_law_pairs"), 3), ((PySem.Str.ofString "_law_pick"), 4), ((PySem.Str.ofString "_law_tuples"), 5)], []⟩
def d_stretches : He.DefD := ⟨((PySem.Str.ofString "_law_stretches"), none), (PySem.Str.ofString "_law_stretches"), (PySem.Str.ofString "_law_stretches"), defArgs (top 19), defBody (top 19), defScope (top 19), [], []⟩
theorem chk_stretches : fnB T_stretches ps_stretches (defBody (top 19)) ir_stretches = true := by decide +kernel
theorem bind_stretches (kV doc pm : Value) (an : Option Addr) (cdv ct : Value) (us : List Value) (hl : us.length = ps_stretches.length) : bindArgs (PySem.W.fnOf (PySem.Str.ofString "_law_stretches") (PySem.Str.ofString "_law_stretches") (defArgs (top 19)) (defBody (top 19)) (defScope (top 19)) .none kV doc pm an cdv ct) ⟨us, []⟩ = pure (ps_stretches.zip us) := by
  match us, hl with | [_, _], _ => rfl
def N_bent : List Str := [(PySem.Str.ofString "_law_deck_here"), (PySem.Str.ofString "_law_value"), (PySem.Str.ofString "_law_deep"), (PySem.Str.ofString "_law_odd"), (PySem.Str.ofString "_law_at"), (PySem.Str.ofString "_law_ways")]
def ps_bent : List Str := [(PySem.Str.ofString "_law_deck_here"), (PySem.Str.ofString "_law_value"), (PySem.Str.ofString "_law_deep")]
def T_bent : Tab := ⟨N_bent, defScope (top 18), defScope (top 18), true, [(PySem.Str.ofString "isinstance"), (PySem.Str.ofString "tuple"), (PySem.Str.ofString "list"), (PySem.Str.ofString "len")], [], [], [((PySem.Str.ofString "_law_draw"), 0), ((PySem.Str.ofString "_law_pick"), 1), ((PySem.Str.ofString "_law_bent"), 2)], []⟩
def d_bent : He.DefD := ⟨((PySem.Str.ofString "_law_bent"), none), (PySem.Str.ofString "_law_bent"), (PySem.Str.ofString "_law_bent"), defArgs (top 18), defBody (top 18), defScope (top 18), [], []⟩
theorem chk_bent : fnB T_bent ps_bent (defBody (top 18)) ir_bent = true := by decide +kernel
theorem bind_bent (kV doc pm : Value) (an : Option Addr) (cdv ct : Value) (us : List Value) (hl : us.length = ps_bent.length) : bindArgs (PySem.W.fnOf (PySem.Str.ofString "_law_bent") (PySem.Str.ofString "_law_bent") (defArgs (top 18)) (defBody (top 18)) (defScope (top 18)) .none kV doc pm an cdv ct) ⟨us, []⟩ = pure (ps_bent.zip us) := by
  match us, hl with | [_, _, _], _ => rfl
def N_p_is_square : List Str := [(PySem.Str.ofString "value"), (PySem.Str.ofString "row")]
def ps_p_is_square : List Str := [(PySem.Str.ofString "value")]
def T_p_is_square : Tab := ⟨N_p_is_square, defScope (top 4), defScope (top 4), true, [(PySem.Str.ofString "isinstance"), (PySem.Str.ofString "tuple"), (PySem.Str.ofString "len"), (PySem.Str.ofString "all")], [((PySem.Str.ofString "MAX_PLACES"), (6))], [], [], []⟩
def d_p_is_square : He.DefD := ⟨((PySem.Str.ofString "is_square"), none), (PySem.Str.ofString "is_square"), (PySem.Str.ofString "is_square"), defArgs (top 4), defBody (top 4), defScope (top 4), [], []⟩
theorem chk_p_is_square : fnB T_p_is_square ps_p_is_square (defBody (top 4)) ir_p_is_square = true := by decide +kernel
theorem bind_p_is_square (kV doc pm : Value) (an : Option Addr) (cdv ct : Value) (us : List Value) (hl : us.length = ps_p_is_square.length) : bindArgs (PySem.W.fnOf (PySem.Str.ofString "is_square") (PySem.Str.ofString "is_square") (defArgs (top 4)) (defBody (top 4)) (defScope (top 4)) .none kV doc pm an cdv ct) ⟨us, []⟩ = pure (ps_p_is_square.zip us) := by
  match us, hl with | [_], _ => rfl
def N_p_is_integer : List Str := [(PySem.Str.ofString "value"), (PySem.Str.ofString "low"), (PySem.Str.ofString "high")]
def ps_p_is_integer : List Str := [(PySem.Str.ofString "value"), (PySem.Str.ofString "low"), (PySem.Str.ofString "high")]
def T_p_is_integer : Tab := ⟨N_p_is_integer, defScope (top 3), defScope (top 3), true, [(PySem.Str.ofString "isinstance"), (PySem.Str.ofString "int"), (PySem.Str.ofString "bool")], [], [], [], []⟩
def d_p_is_integer : He.DefD := ⟨((PySem.Str.ofString "is_integer"), none), (PySem.Str.ofString "is_integer"), (PySem.Str.ofString "is_integer"), defArgs (top 3), defBody (top 3), defScope (top 3), [], []⟩
theorem chk_p_is_integer : fnB T_p_is_integer ps_p_is_integer (defBody (top 3)) ir_p_is_integer = true := by decide +kernel
theorem bind_p_is_integer (kV doc pm : Value) (an : Option Addr) (cdv ct : Value) (us : List Value) (hl : us.length = ps_p_is_integer.length) : bindArgs (PySem.W.fnOf (PySem.Str.ofString "is_integer") (PySem.Str.ofString "is_integer") (defArgs (top 3)) (defBody (top 3)) (defScope (top 3)) .none kV doc pm an cdv ct) ⟨us, []⟩ = pure (ps_p_is_integer.zip us) := by
  match us, hl with | [_, _, _], _ => rfl
def N_p_is_pair : List Str := [(PySem.Str.ofString "value"), (PySem.Str.ofString "item")]
def ps_p_is_pair : List Str := [(PySem.Str.ofString "value")]
def T_p_is_pair : Tab := ⟨N_p_is_pair, defScope (top 6), defScope (top 6), true, [(PySem.Str.ofString "isinstance"), (PySem.Str.ofString "tuple"), (PySem.Str.ofString "len"), (PySem.Str.ofString "all")], [((PySem.Str.ofString "MAX_RATE"), (1000000))], [], [((PySem.Str.ofString "is_integer"), 0)], []⟩
def d_p_is_pair : He.DefD := ⟨((PySem.Str.ofString "is_pair"), none), (PySem.Str.ofString "is_pair"), (PySem.Str.ofString "is_pair"), defArgs (top 6), defBody (top 6), defScope (top 6), [], []⟩
theorem chk_p_is_pair : fnB T_p_is_pair ps_p_is_pair (defBody (top 6)) ir_p_is_pair = true := by decide +kernel
theorem bind_p_is_pair (kV doc pm : Value) (an : Option Addr) (cdv ct : Value) (us : List Value) (hl : us.length = ps_p_is_pair.length) : bindArgs (PySem.W.fnOf (PySem.Str.ofString "is_pair") (PySem.Str.ofString "is_pair") (defArgs (top 6)) (defBody (top 6)) (defScope (top 6)) .none kV doc pm an cdv ct) ⟨us, []⟩ = pure (ps_p_is_pair.zip us) := by
  match us, hl with | [_], _ => rfl
def N_p_is_one_way : List Str := [(PySem.Str.ofString "value"), (PySem.Str.ofString "i"), (PySem.Str.ofString "j"), (PySem.Str.ofString "numbers"), (PySem.Str.ofString "number")]
def ps_p_is_one_way : List Str := [(PySem.Str.ofString "value"), (PySem.Str.ofString "i"), (PySem.Str.ofString "j")]
def T_p_is_one_way : Tab := ⟨N_p_is_one_way, defScope (top 7), defScope (top 7), true, [(PySem.Str.ofString "any")], [], [], [], []⟩
def d_p_is_one_way : He.DefD := ⟨((PySem.Str.ofString "is_one_way"), none), (PySem.Str.ofString "is_one_way"), (PySem.Str.ofString "is_one_way"), defArgs (top 7), defBody (top 7), defScope (top 7), [], []⟩
theorem chk_p_is_one_way : fnB T_p_is_one_way ps_p_is_one_way (defBody (top 7)) ir_p_is_one_way = true := by decide +kernel
theorem bind_p_is_one_way (kV doc pm : Value) (an : Option Addr) (cdv ct : Value) (us : List Value) (hl : us.length = ps_p_is_one_way.length) : bindArgs (PySem.W.fnOf (PySem.Str.ofString "is_one_way") (PySem.Str.ofString "is_one_way") (defArgs (top 7)) (defBody (top 7)) (defScope (top 7)) .none kV doc pm an cdv ct) ⟨us, []⟩ = pure (ps_p_is_one_way.zip us) := by
  match us, hl with | [_, _, _], _ => rfl
def N_p_stretches_error : List Str := [(PySem.Str.ofString "value"), (PySem.Str.ofString "word"), (PySem.Str.ofString "j"), (PySem.Str.ofString "i"), (PySem.Str.ofString "row"), (PySem.Str.ofString "pair"), (PySem.Str.ofString "place")]
def ps_p_stretches_error : List Str := [(PySem.Str.ofString "value")]
def T_p_stretches_error : Tab := ⟨N_p_stretches_error, defScope (top 8), defScope (top 8), true, [(PySem.Str.ofString "all"), (PySem.Str.ofString "any"), (PySem.Str.ofString "enumerate"), (PySem.Str.ofString "range"), (PySem.Str.ofString "len")], [], [], [((PySem.Str.ofString "is_square"), 0), ((PySem.Str.ofString "is_pair"), 1), ((PySem.Str.ofString "is_one_way"), 2)], []⟩
def d_p_stretches_error : He.DefD := ⟨((PySem.Str.ofString "stretches_error"), none), (PySem.Str.ofString "stretches_error"), (PySem.Str.ofString "stretches_error"), defArgs (top 8), defBody (top 8), defScope (top 8), [], []⟩
theorem chk_p_stretches_error : fnB T_p_stretches_error ps_p_stretches_error (defBody (top 8)) ir_p_stretches_error = true := by decide +kernel
theorem bind_p_stretches_error (kV doc pm : Value) (an : Option Addr) (cdv ct : Value) (us : List Value) (hl : us.length = ps_p_stretches_error.length) : bindArgs (PySem.W.fnOf (PySem.Str.ofString "stretches_error") (PySem.Str.ofString "stretches_error") (defArgs (top 8)) (defBody (top 8)) (defScope (top 8)) .none kV doc pm an cdv ct) ⟨us, []⟩ = pure (ps_p_stretches_error.zip us) := by
  match us, hl with | [_], _ => rfl
def N_is_int : List Str := [(PySem.Str.ofString "_law_value"), (PySem.Str.ofString "_law_low"), (PySem.Str.ofString "_law_high")]
def ps_is_int : List Str := [(PySem.Str.ofString "_law_value"), (PySem.Str.ofString "_law_low"), (PySem.Str.ofString "_law_high")]
def T_is_int : Tab := ⟨N_is_int, defScope (top 13), defScope (top 13), true, [(PySem.Str.ofString "isinstance"), (PySem.Str.ofString "int"), (PySem.Str.ofString "bool")], [], [], [], []⟩
def d_is_int : He.DefD := ⟨((PySem.Str.ofString "_law_is_int"), none), (PySem.Str.ofString "_law_is_int"), (PySem.Str.ofString "_law_is_int"), defArgs (top 13), defBody (top 13), defScope (top 13), [], []⟩
theorem chk_is_int : fnB T_is_int ps_is_int (defBody (top 13)) ir_is_int = true := by decide +kernel
theorem bind_is_int (kV doc pm : Value) (an : Option Addr) (cdv ct : Value) (us : List Value) (hl : us.length = ps_is_int.length) : bindArgs (PySem.W.fnOf (PySem.Str.ofString "_law_is_int") (PySem.Str.ofString "_law_is_int") (defArgs (top 13)) (defBody (top 13)) (defScope (top 13)) .none kV doc pm an cdv ct) ⟨us, []⟩ = pure (ps_is_int.zip us) := by
  match us, hl with | [_, _, _], _ => rfl
def N_is_pair : List Str := [(PySem.Str.ofString "_law_value"), (PySem.Str.ofString "_law_item")]
def ps_is_pair : List Str := [(PySem.Str.ofString "_law_value")]
def T_is_pair : Tab := ⟨N_is_pair, defScope (top 20), defScope (top 20), true, [(PySem.Str.ofString "isinstance"), (PySem.Str.ofString "tuple"), (PySem.Str.ofString "len")], [], [], [((PySem.Str.ofString "_law_is_int"), 0)], []⟩
def d_is_pair : He.DefD := ⟨((PySem.Str.ofString "_law_is_pair"), none), (PySem.Str.ofString "_law_is_pair"), (PySem.Str.ofString "_law_is_pair"), defArgs (top 20), defBody (top 20), defScope (top 20), [], []⟩
theorem chk_is_pair : fnB T_is_pair ps_is_pair (defBody (top 20)) ir_is_pair = true := by decide +kernel
theorem bind_is_pair (kV doc pm : Value) (an : Option Addr) (cdv ct : Value) (us : List Value) (hl : us.length = ps_is_pair.length) : bindArgs (PySem.W.fnOf (PySem.Str.ofString "_law_is_pair") (PySem.Str.ofString "_law_is_pair") (defArgs (top 20)) (defBody (top 20)) (defScope (top 20)) .none kV doc pm an cdv ct) ⟨us, []⟩ = pure (ps_is_pair.zip us) := by
  match us, hl with | [_], _ => rfl
def N_word : List Str := [(PySem.Str.ofString "_law_value"), (PySem.Str.ofString "_law_row"), (PySem.Str.ofString "_law_i"), (PySem.Str.ofString "_law_j"), (PySem.Str.ofString "_law_signs"), (PySem.Str.ofString "_law_at"), (PySem.Str.ofString "_law_number"), (PySem.Str.ofString "_law_pair")]
def ps_word : List Str := [(PySem.Str.ofString "_law_value")]
def T_word : Tab := ⟨N_word, defScope (top 21), defScope (top 21), true, [(PySem.Str.ofString "isinstance"), (PySem.Str.ofString "tuple"), (PySem.Str.ofString "len"), (PySem.Str.ofString "range")], [], [], [((PySem.Str.ofString "_law_is_pair"), 0), ((PySem.Str.ofString "_law_pairs"), 1)], []⟩
def d_word : He.DefD := ⟨((PySem.Str.ofString "_law_word"), none), (PySem.Str.ofString "_law_word"), (PySem.Str.ofString "_law_word"), defArgs (top 21), defBody (top 21), defScope (top 21), [], []⟩
theorem chk_word : fnB T_word ps_word (defBody (top 21)) ir_word = true := by decide +kernel
theorem bind_word (kV doc pm : Value) (an : Option Addr) (cdv ct : Value) (us : List Value) (hl : us.length = ps_word.length) : bindArgs (PySem.W.fnOf (PySem.Str.ofString "_law_word") (PySem.Str.ofString "_law_word") (defArgs (top 21)) (defBody (top 21)) (defScope (top 21)) .none kV doc pm an cdv ct) ⟨us, []⟩ = pure (ps_word.zip us) := by
  match us, hl with | [_], _ => rfl
def N_law : List Str := [(PySem.Str.ofString "_law_script"), (PySem.Str.ofString "_law_deck_here"), (PySem.Str.ofString "_law_turn"), (PySem.Str.ofString "_law_own"), (PySem.Str.ofString "_law_values"), (PySem.Str.ofString "_law_pair"), (PySem.Str.ofString "_law_again"), (PySem.Str.ofString "_law_value"), (PySem.Str.ofString "_law_at"), (PySem.Str.ofString "_law_to"), (PySem.Str.ofString "_law_row"), (PySem.Str.ofString "_law_bent_here"), (PySem.Str.ofString "_law_shown")]
def ps_law : List Str := [(PySem.Str.ofString "_law_script")]
def T_law : Tab := ⟨N_law, defScope (top 22), defScope (top 22), true, [(PySem.Str.ofString "range"), (PySem.Str.ofString "list"), (PySem.Str.ofString "len"), (PySem.Str.ofString "repr")], [], [], [((PySem.Str.ofString "_law_deck"), 0), ((PySem.Str.ofString "_law_stretches"), 1), ((PySem.Str.ofString "_law_draw"), 2), ((PySem.Str.ofString "_law_bent"), 3), ((PySem.Str.ofString "stretches_error"), 4), ((PySem.Str.ofString "_law_word"), 5)], []⟩
def d_law : He.DefD := ⟨((PySem.Str.ofString "law"), none), (PySem.Str.ofString "law"), (PySem.Str.ofString "law"), defArgs (top 22), defBody (top 22), defScope (top 22), [], []⟩
theorem chk_law : fnB T_law ps_law (defBody (top 22)) ir_law = true := by decide +kernel
theorem bind_law (kV doc pm : Value) (an : Option Addr) (cdv ct : Value) (us : List Value) (hl : us.length = ps_law.length) : bindArgs (PySem.W.fnOf (PySem.Str.ofString "law") (PySem.Str.ofString "law") (defArgs (top 22)) (defBody (top 22)) (defScope (top 22)) .none kV doc pm an cdv ct) ⟨us, []⟩ = pure (ps_law.zip us) := by
  match us, hl with | [_], _ => rfl
def dfs : List He.DefD := [d_deck, d_draw, d_even_rows_k14, d_pairs, d_some_ties, d_pick, d_tuples, d_stretches, d_bent, d_p_is_square, d_p_is_integer, d_p_is_pair, d_p_is_one_way, d_p_stretches_error, d_is_int, d_is_pair, d_word, d_law]
def fas : List He.Fa := [.glo (PySem.Str.ofString "_law_deck"), .glo (PySem.Str.ofString "_law_draw"), .glo (PySem.Str.ofString "_law_even_rows"), .glo (PySem.Str.ofString "_law_pairs"), .glo (PySem.Str.ofString "_law_some_ties"), .glo (PySem.Str.ofString "_law_pick"), .glo (PySem.Str.ofString "_law_tuples"), .glo (PySem.Str.ofString "_law_stretches"), .glo (PySem.Str.ofString "_law_bent"), .glo (PySem.Str.ofString "is_square"), .glo (PySem.Str.ofString "is_integer"), .glo (PySem.Str.ofString "is_pair"), .glo (PySem.Str.ofString "is_one_way"), .glo (PySem.Str.ofString "stretches_error"), .glo (PySem.Str.ofString "_law_is_int"), .glo (PySem.Str.ofString "_law_is_pair"), .glo (PySem.Str.ofString "_law_word"), .glo (PySem.Str.ofString "law"), .free (PySem.Str.ofString "abs"), .free (PySem.Str.ofString "int"), .free (PySem.Str.ofString "len"), .free (PySem.Str.ofString "range"), .free (PySem.Str.ofString "tuple"), .free (PySem.Str.ofString "max"), .free (PySem.Str.ofString "isinstance"), .free (PySem.Str.ofString "list"), .free (PySem.Str.ofString "all"), .free (PySem.Str.ofString "bool"), .free (PySem.Str.ofString "any"), .free (PySem.Str.ofString "enumerate"), .free (PySem.Str.ofString "repr"), .int (PySem.Str.ofString "MAX_PLACES") (6), .int (PySem.Str.ofString "MAX_RATE") (1000000)]
abbrev Ro : PySem.W.OpenRow := PySem.W.OpenLaw.row PySem.Challenge.rw_ringrates_k14_what_are_no_stretches
abbrev hk : PySem.W.Hook := He.hookD 4 fas dfs
def ob (s : PySem.W.SharedT) : He.AlD := He.obsDG 4 fas dfs (HandSHeadRun.getT s)
theorem ob_eq (s : PySem.W.SharedT) : ob s = hk.obs s.abs := He.obsDG_eq (HandSHeadRun.getT_eq s)
def loose : List Str := [(PySem.Str.ofString "MAX_PLACES"), (PySem.Str.ofString "MAX_RATE"), (PySem.Str.ofString "is_integer"), (PySem.Str.ofString "is_square"), (PySem.Str.ofString "is_pair"), (PySem.Str.ofString "is_one_way"), (PySem.Str.ofString "stretches_error"), (PySem.Str.ofString "_law_deck"), (PySem.Str.ofString "_law_draw"), (PySem.Str.ofString "_law_pick"), (PySem.Str.ofString "_law_is_int"), (PySem.Str.ofString "_law_pairs"), (PySem.Str.ofString "_law_tuples"), (PySem.Str.ofString "_law_even_rows"), (PySem.Str.ofString "_law_some_ties"), (PySem.Str.ofString "_law_bent"), (PySem.Str.ofString "_law_stretches"), (PySem.Str.ofString "_law_is_pair"), (PySem.Str.ofString "_law_word")]
theorem run (w : World) : HandSHeadRun.RunEq Ro (PySem.W.view Ro.prog [22]) hk ob 4000 [(PySem.Str.ofString "MAX_PLACES"), (PySem.Str.ofString "MAX_RATE"), (PySem.Str.ofString "is_integer"), (PySem.Str.ofString "is_square"), (PySem.Str.ofString "is_pair"), (PySem.Str.ofString "is_one_way"), (PySem.Str.ofString "stretches_error"), (PySem.Str.ofString "_law_deck"), (PySem.Str.ofString "_law_draw"), (PySem.Str.ofString "_law_pick"), (PySem.Str.ofString "_law_is_int"), (PySem.Str.ofString "_law_pairs"), (PySem.Str.ofString "_law_tuples"), (PySem.Str.ofString "_law_even_rows"), (PySem.Str.ofString "_law_some_ties"), (PySem.Str.ofString "_law_bent"), (PySem.Str.ofString "_law_stretches"), (PySem.Str.ofString "_law_is_pair"), (PySem.Str.ofString "_law_word")] w := by
  intro os
  kernel_rfl
section
variable {P : Program} {w : World} {K : PySem.W.Frag} {mg : Str → Option Value} {base h : Heap} {f : Addr}
theorem def_deck (X : K.In h) (G : h.Ns mainGlobals mg) (c : He.SaysD fas dfs K)  : Def P w K mg base 1 (PySem.Str.ofString "_law_deck") s_deck := by
  obtain ⟨fd, F⟩ := c.def_ 0 (d := d_deck) rfl
  exact def_of (T := T_deck) (ps := ps_deck) F (He.glo_ok X G (c.fact 0 (f := .glo (PySem.Str.ofString "_law_deck")) rfl)) bind_deck rfl chk_deck (all_cons (He.free_ok X G (c.fact 18 (f := .free (PySem.Str.ofString "abs")) rfl)) all_nil) all_nil all_nil fns_nil exc_nil
theorem def_draw (X : K.In h) (G : h.Ns mainGlobals mg) (c : He.SaysD fas dfs K)  : Def P w K mg base 2 (PySem.Str.ofString "_law_draw") s_draw := by
  obtain ⟨fd, F⟩ := c.def_ 1 (d := d_draw) rfl
  exact def_of (T := T_draw) (ps := ps_draw) F (He.glo_ok X G (c.fact 1 (f := .glo (PySem.Str.ofString "_law_draw")) rfl)) bind_draw rfl chk_draw (all_cons (He.free_ok X G (c.fact 19 (f := .free (PySem.Str.ofString "int")) rfl)) (all_cons (He.free_ok X G (c.fact 20 (f := .free (PySem.Str.ofString "len")) rfl)) all_nil)) all_nil all_nil fns_nil exc_nil
theorem def_even_rows_k14 (X : K.In h) (G : h.Ns mainGlobals mg) (c : He.SaysD fas dfs K) (D0 : Def P w K mg base 2 (PySem.Str.ofString "_law_draw") s_draw) : Def P w K mg base 3 (PySem.Str.ofString "_law_even_rows") s_even_rows_k14 := by
  obtain ⟨fd, F⟩ := c.def_ 2 (d := d_even_rows_k14) rfl
  exact def_of (T := T_even_rows_k14) (ps := ps_even_rows_k14) F (He.glo_ok X G (c.fact 2 (f := .glo (PySem.Str.ofString "_law_even_rows")) rfl)) bind_even_rows_k14 rfl chk_even_rows_k14 (all_cons (He.free_ok X G (c.fact 21 (f := .free (PySem.Str.ofString "range")) rfl)) all_nil) all_nil all_nil (fns_cons rfl (D0.mono (by decide)) fns_nil) exc_nil
theorem def_pairs (X : K.In h) (G : h.Ns mainGlobals mg) (c : He.SaysD fas dfs K)  : Def P w K mg base 4 (PySem.Str.ofString "_law_pairs") s_pairs := by
  obtain ⟨fd, F⟩ := c.def_ 3 (d := d_pairs) rfl
  exact def_of (T := T_pairs) (ps := ps_pairs) F (He.glo_ok X G (c.fact 3 (f := .glo (PySem.Str.ofString "_law_pairs")) rfl)) bind_pairs rfl chk_pairs (all_cons (He.free_ok X G (c.fact 21 (f := .free (PySem.Str.ofString "range")) rfl)) all_nil) all_nil all_nil fns_nil exc_nil
theorem def_some_ties (X : K.In h) (G : h.Ns mainGlobals mg) (c : He.SaysD fas dfs K) (D0 : Def P w K mg base 4 (PySem.Str.ofString "_law_pairs") s_pairs) (D1 : Def P w K mg base 2 (PySem.Str.ofString "_law_draw") s_draw) : Def P w K mg base 5 (PySem.Str.ofString "_law_some_ties") s_some_ties := by
  obtain ⟨fd, F⟩ := c.def_ 4 (d := d_some_ties) rfl
  exact def_of (T := T_some_ties) (ps := ps_some_ties) F (He.glo_ok X G (c.fact 4 (f := .glo (PySem.Str.ofString "_law_some_ties")) rfl)) bind_some_ties rfl chk_some_ties all_nil all_nil all_nil (fns_cons rfl (D0.mono (by decide)) (fns_cons rfl (D1.mono (by decide)) fns_nil)) exc_nil
theorem def_pick (X : K.In h) (G : h.Ns mainGlobals mg) (c : He.SaysD fas dfs K) (D0 : Def P w K mg base 2 (PySem.Str.ofString "_law_draw") s_draw) : Def P w K mg base 6 (PySem.Str.ofString "_law_pick") s_pick := by
  obtain ⟨fd, F⟩ := c.def_ 5 (d := d_pick) rfl
  exact def_of (T := T_pick) (ps := ps_pick) F (He.glo_ok X G (c.fact 5 (f := .glo (PySem.Str.ofString "_law_pick")) rfl)) bind_pick rfl chk_pick (all_cons (He.free_ok X G (c.fact 20 (f := .free (PySem.Str.ofString "len")) rfl)) all_nil) all_nil all_nil (fns_cons rfl (D0.mono (by decide)) fns_nil) exc_nil
theorem def_tuples (X : K.In h) (G : h.Ns mainGlobals mg) (c : He.SaysD fas dfs K)  : Def P w K mg base 7 (PySem.Str.ofString "_law_tuples") s_tuples := by
  obtain ⟨fd, F⟩ := c.def_ 6 (d := d_tuples) rfl
  exact def_of (T := T_tuples) (ps := ps_tuples) F (He.glo_ok X G (c.fact 6 (f := .glo (PySem.Str.ofString "_law_tuples")) rfl)) bind_tuples rfl chk_tuples (all_cons (He.free_ok X G (c.fact 22 (f := .free (PySem.Str.ofString "tuple")) rfl)) all_nil) all_nil all_nil fns_nil exc_nil
theorem def_stretches (X : K.In h) (G : h.Ns mainGlobals mg) (c : He.SaysD fas dfs K) (D0 : Def P w K mg base 2 (PySem.Str.ofString "_law_draw") s_draw) (D1 : Def P w K mg base 3 (PySem.Str.ofString "_law_even_rows") s_even_rows_k14) (D2 : Def P w K mg base 5 (PySem.Str.ofString "_law_some_ties") s_some_ties) (D3 : Def P w K mg base 4 (PySem.Str.ofString "_law_pairs") s_pairs) (D4 : Def P w K mg base 6 (PySem.Str.ofString "_law_pick") s_pick) (D5 : Def P w K mg base 7 (PySem.Str.ofString "_law_tuples") s_tuples) : Def P w K mg base 8 (PySem.Str.ofString "_law_stretches") s_stretches := by
  obtain ⟨fd, F⟩ := c.def_ 7 (d := d_stretches) rfl
  exact def_of (T := T_stretches) (ps := ps_stretches) F (He.glo_ok X G (c.fact 7 (f := .glo (PySem.Str.ofString "_law_stretches")) rfl)) bind_stretches rfl chk_stretches (all_cons (He.free_ok X G (c.fact 21 (f := .free (PySem.Str.ofString "range")) rfl)) (all_cons (He.free_ok X G (c.fact 23 (f := .free (PySem.Str.ofString "max")) rfl)) all_nil)) all_nil all_nil (fns_cons rfl (D0.mono (by decide)) (fns_cons rfl (D1.mono (by decide)) (fns_cons rfl (D2.mono (by decide)) (fns_cons rfl (D3.mono (by decide)) (fns_cons rfl (D4.mono (by decide)) (fns_cons rfl (D5.mono (by decide)) fns_nil)))))) exc_nil
theorem lv_bent (X : K.In h) (G : h.Ns mainGlobals mg) (c : He.SaysD fas dfs K) (D0 : Def P w K mg base 2 (PySem.Str.ofString "_law_draw") s_draw) (D1 : Def P w K mg base 6 (PySem.Str.ofString "_law_pick") s_pick) : ∀ n : Nat, Def P w K mg base (8 + n) (PySem.Str.ofString "_law_bent") (n_bent n)
  | 0 => by
    obtain ⟨fd, F⟩ := c.def_ 8 (d := d_bent) rfl
    exact def_bad (ps := ps_bent) F (He.glo_ok X G (c.fact 8 (f := .glo (PySem.Str.ofString "_law_bent")) rfl)) bind_bent
  | n + 1 => by
    obtain ⟨fd, F⟩ := c.def_ 8 (d := d_bent) rfl
    exact def_of (T := T_bent) (ps := ps_bent) F (He.glo_ok X G (c.fact 8 (f := .glo (PySem.Str.ofString "_law_bent")) rfl)) bind_bent rfl chk_bent (all_cons (He.free_ok X G (c.fact 24 (f := .free (PySem.Str.ofString "isinstance")) rfl)) (all_cons (He.free_ok X G (c.fact 22 (f := .free (PySem.Str.ofString "tuple")) rfl)) (all_cons (He.free_ok X G (c.fact 25 (f := .free (PySem.Str.ofString "list")) rfl)) (all_cons (He.free_ok X G (c.fact 20 (f := .free (PySem.Str.ofString "len")) rfl)) all_nil)))) all_nil all_nil (fns_cons rfl (D0.mono (Nat.le_trans (by decide) (Nat.le_add_right 8 n))) (fns_cons rfl (D1.mono (Nat.le_trans (by decide) (Nat.le_add_right 8 n))) (fns_cons rfl (lv_bent X G c D0 D1 n) fns_nil))) exc_nil
theorem def_bent (X : K.In h) (G : h.Ns mainGlobals mg) (c : He.SaysD fas dfs K) (D0 : Def P w K mg base 2 (PySem.Str.ofString "_law_draw") s_draw) (D1 : Def P w K mg base 6 (PySem.Str.ofString "_law_pick") s_pick) : Def P w K mg base 14 (PySem.Str.ofString "_law_bent") s_bent := lv_bent X G c D0 D1 6
theorem def_p_is_square (X : K.In h) (G : h.Ns mainGlobals mg) (c : He.SaysD fas dfs K)  : Def P w K mg base 15 (PySem.Str.ofString "is_square") s_p_is_square := by
  obtain ⟨fd, F⟩ := c.def_ 9 (d := d_p_is_square) rfl
  exact def_of (T := T_p_is_square) (ps := ps_p_is_square) F (He.glo_ok X G (c.fact 9 (f := .glo (PySem.Str.ofString "is_square")) rfl)) bind_p_is_square rfl chk_p_is_square (all_cons (He.free_ok X G (c.fact 24 (f := .free (PySem.Str.ofString "isinstance")) rfl)) (all_cons (He.free_ok X G (c.fact 22 (f := .free (PySem.Str.ofString "tuple")) rfl)) (all_cons (He.free_ok X G (c.fact 20 (f := .free (PySem.Str.ofString "len")) rfl)) (all_cons (He.free_ok X G (c.fact 26 (f := .free (PySem.Str.ofString "all")) rfl)) all_nil)))) (all_cons (He.int_ok X G (c.fact 31 (f := .int (PySem.Str.ofString "MAX_PLACES") (6)) rfl)) all_nil) all_nil fns_nil exc_nil
theorem def_p_is_integer (X : K.In h) (G : h.Ns mainGlobals mg) (c : He.SaysD fas dfs K)  : Def P w K mg base 16 (PySem.Str.ofString "is_integer") s_p_is_integer := by
  obtain ⟨fd, F⟩ := c.def_ 10 (d := d_p_is_integer) rfl
  exact def_of (T := T_p_is_integer) (ps := ps_p_is_integer) F (He.glo_ok X G (c.fact 10 (f := .glo (PySem.Str.ofString "is_integer")) rfl)) bind_p_is_integer rfl chk_p_is_integer (all_cons (He.free_ok X G (c.fact 24 (f := .free (PySem.Str.ofString "isinstance")) rfl)) (all_cons (He.free_ok X G (c.fact 19 (f := .free (PySem.Str.ofString "int")) rfl)) (all_cons (He.free_ok X G (c.fact 27 (f := .free (PySem.Str.ofString "bool")) rfl)) all_nil))) all_nil all_nil fns_nil exc_nil
theorem def_p_is_pair (X : K.In h) (G : h.Ns mainGlobals mg) (c : He.SaysD fas dfs K) (D0 : Def P w K mg base 16 (PySem.Str.ofString "is_integer") s_p_is_integer) : Def P w K mg base 17 (PySem.Str.ofString "is_pair") s_p_is_pair := by
  obtain ⟨fd, F⟩ := c.def_ 11 (d := d_p_is_pair) rfl
  exact def_of (T := T_p_is_pair) (ps := ps_p_is_pair) F (He.glo_ok X G (c.fact 11 (f := .glo (PySem.Str.ofString "is_pair")) rfl)) bind_p_is_pair rfl chk_p_is_pair (all_cons (He.free_ok X G (c.fact 24 (f := .free (PySem.Str.ofString "isinstance")) rfl)) (all_cons (He.free_ok X G (c.fact 22 (f := .free (PySem.Str.ofString "tuple")) rfl)) (all_cons (He.free_ok X G (c.fact 20 (f := .free (PySem.Str.ofString "len")) rfl)) (all_cons (He.free_ok X G (c.fact 26 (f := .free (PySem.Str.ofString "all")) rfl)) all_nil)))) (all_cons (He.int_ok X G (c.fact 32 (f := .int (PySem.Str.ofString "MAX_RATE") (1000000)) rfl)) all_nil) all_nil (fns_cons rfl (D0.mono (by decide)) fns_nil) exc_nil
theorem def_p_is_one_way (X : K.In h) (G : h.Ns mainGlobals mg) (c : He.SaysD fas dfs K)  : Def P w K mg base 18 (PySem.Str.ofString "is_one_way") s_p_is_one_way := by
  obtain ⟨fd, F⟩ := c.def_ 12 (d := d_p_is_one_way) rfl
  exact def_of (T := T_p_is_one_way) (ps := ps_p_is_one_way) F (He.glo_ok X G (c.fact 12 (f := .glo (PySem.Str.ofString "is_one_way")) rfl)) bind_p_is_one_way rfl chk_p_is_one_way (all_cons (He.free_ok X G (c.fact 28 (f := .free (PySem.Str.ofString "any")) rfl)) all_nil) all_nil all_nil fns_nil exc_nil
theorem def_p_stretches_error (X : K.In h) (G : h.Ns mainGlobals mg) (c : He.SaysD fas dfs K) (D0 : Def P w K mg base 15 (PySem.Str.ofString "is_square") s_p_is_square) (D1 : Def P w K mg base 17 (PySem.Str.ofString "is_pair") s_p_is_pair) (D2 : Def P w K mg base 18 (PySem.Str.ofString "is_one_way") s_p_is_one_way) : Def P w K mg base 19 (PySem.Str.ofString "stretches_error") s_p_stretches_error := by
  obtain ⟨fd, F⟩ := c.def_ 13 (d := d_p_stretches_error) rfl
  exact def_of (T := T_p_stretches_error) (ps := ps_p_stretches_error) F (He.glo_ok X G (c.fact 13 (f := .glo (PySem.Str.ofString "stretches_error")) rfl)) bind_p_stretches_error rfl chk_p_stretches_error (all_cons (He.free_ok X G (c.fact 26 (f := .free (PySem.Str.ofString "all")) rfl)) (all_cons (He.free_ok X G (c.fact 28 (f := .free (PySem.Str.ofString "any")) rfl)) (all_cons (He.free_ok X G (c.fact 29 (f := .free (PySem.Str.ofString "enumerate")) rfl)) (all_cons (He.free_ok X G (c.fact 21 (f := .free (PySem.Str.ofString "range")) rfl)) (all_cons (He.free_ok X G (c.fact 20 (f := .free (PySem.Str.ofString "len")) rfl)) all_nil))))) all_nil all_nil (fns_cons rfl (D0.mono (by decide)) (fns_cons rfl (D1.mono (by decide)) (fns_cons rfl (D2.mono (by decide)) fns_nil))) exc_nil
theorem def_is_int (X : K.In h) (G : h.Ns mainGlobals mg) (c : He.SaysD fas dfs K)  : Def P w K mg base 20 (PySem.Str.ofString "_law_is_int") s_is_int := by
  obtain ⟨fd, F⟩ := c.def_ 14 (d := d_is_int) rfl
  exact def_of (T := T_is_int) (ps := ps_is_int) F (He.glo_ok X G (c.fact 14 (f := .glo (PySem.Str.ofString "_law_is_int")) rfl)) bind_is_int rfl chk_is_int (all_cons (He.free_ok X G (c.fact 24 (f := .free (PySem.Str.ofString "isinstance")) rfl)) (all_cons (He.free_ok X G (c.fact 19 (f := .free (PySem.Str.ofString "int")) rfl)) (all_cons (He.free_ok X G (c.fact 27 (f := .free (PySem.Str.ofString "bool")) rfl)) all_nil))) all_nil all_nil fns_nil exc_nil
theorem def_is_pair (X : K.In h) (G : h.Ns mainGlobals mg) (c : He.SaysD fas dfs K) (D0 : Def P w K mg base 20 (PySem.Str.ofString "_law_is_int") s_is_int) : Def P w K mg base 21 (PySem.Str.ofString "_law_is_pair") s_is_pair := by
  obtain ⟨fd, F⟩ := c.def_ 15 (d := d_is_pair) rfl
  exact def_of (T := T_is_pair) (ps := ps_is_pair) F (He.glo_ok X G (c.fact 15 (f := .glo (PySem.Str.ofString "_law_is_pair")) rfl)) bind_is_pair rfl chk_is_pair (all_cons (He.free_ok X G (c.fact 24 (f := .free (PySem.Str.ofString "isinstance")) rfl)) (all_cons (He.free_ok X G (c.fact 22 (f := .free (PySem.Str.ofString "tuple")) rfl)) (all_cons (He.free_ok X G (c.fact 20 (f := .free (PySem.Str.ofString "len")) rfl)) all_nil))) all_nil all_nil (fns_cons rfl (D0.mono (by decide)) fns_nil) exc_nil
theorem def_word (X : K.In h) (G : h.Ns mainGlobals mg) (c : He.SaysD fas dfs K) (D0 : Def P w K mg base 21 (PySem.Str.ofString "_law_is_pair") s_is_pair) (D1 : Def P w K mg base 4 (PySem.Str.ofString "_law_pairs") s_pairs) : Def P w K mg base 22 (PySem.Str.ofString "_law_word") s_word := by
  obtain ⟨fd, F⟩ := c.def_ 16 (d := d_word) rfl
  exact def_of (T := T_word) (ps := ps_word) F (He.glo_ok X G (c.fact 16 (f := .glo (PySem.Str.ofString "_law_word")) rfl)) bind_word rfl chk_word (all_cons (He.free_ok X G (c.fact 24 (f := .free (PySem.Str.ofString "isinstance")) rfl)) (all_cons (He.free_ok X G (c.fact 22 (f := .free (PySem.Str.ofString "tuple")) rfl)) (all_cons (He.free_ok X G (c.fact 20 (f := .free (PySem.Str.ofString "len")) rfl)) (all_cons (He.free_ok X G (c.fact 21 (f := .free (PySem.Str.ofString "range")) rfl)) all_nil)))) all_nil all_nil (fns_cons rfl (D0.mono (by decide)) (fns_cons rfl (D1.mono (by decide)) fns_nil)) exc_nil
theorem my_law (X : K.In h) (G : h.Ns mainGlobals mg) (c : He.SaysD fas dfs K) {fd : FuncData} (F : FunD K d_law.name d_law.qual d_law.params d_law.body d_law.scope (d_law.dvs K) (d_law.kws K) f fd) (D0 : Def P w K mg base 1 (PySem.Str.ofString "_law_deck") s_deck) (D1 : Def P w K mg base 8 (PySem.Str.ofString "_law_stretches") s_stretches) (D2 : Def P w K mg base 2 (PySem.Str.ofString "_law_draw") s_draw) (D3 : Def P w K mg base 14 (PySem.Str.ofString "_law_bent") s_bent) (D4 : Def P w K mg base 19 (PySem.Str.ofString "stretches_error") s_p_stretches_error) (D5 : Def P w K mg base 22 (PySem.Str.ofString "_law_word") s_word) : MyFn P w K mg base 23 f fd ps_law s_law :=
  my_fn (T := T_law) (ps := ps_law) F rfl chk_law (all_cons (He.free_ok X G (c.fact 21 (f := .free (PySem.Str.ofString "range")) rfl)) (all_cons (He.free_ok X G (c.fact 25 (f := .free (PySem.Str.ofString "list")) rfl)) (all_cons (He.free_ok X G (c.fact 20 (f := .free (PySem.Str.ofString "len")) rfl)) (all_cons (He.free_ok X G (c.fact 30 (f := .free (PySem.Str.ofString "repr")) rfl)) all_nil)))) all_nil all_nil (fns_cons rfl (D0.mono (by decide)) (fns_cons rfl (D1.mono (by decide)) (fns_cons rfl (D2.mono (by decide)) (fns_cons rfl (D3.mono (by decide)) (fns_cons rfl (D4.mono (by decide)) (fns_cons rfl (D5.mono (by decide)) fns_nil)))))) exc_nil
theorem facts (X : K.In h) (G : h.Ns mainGlobals mg) (hfa : mg ("law" : Str) = some (.ref f)) (c : He.SaysD fas dfs K) :
    ∃ fd : FuncData, (∀ (s : Shared) (v : Value), BindsTo s fd ⟨[v], []⟩ [((PySem.Str.ofString "_law_script"), v)]) ∧ ∀ base : Heap, K.In base → base.Ns mainGlobals mg → MyFn P w K mg base 23 f fd [(PySem.Str.ofString "_law_script")] s_law := by
  obtain ⟨fd, F⟩ := c.def_ 17 (d := d_law) rfl
  have e := hfa.symm.trans (He.glo_ok X G (c.fact 17 (f := .glo (PySem.Str.ofString "law")) rfl))
  cases e
  refine ⟨fd, fun s v => FunD.bindsA (ps := ps_law) F bind_law s [v] rfl, fun base _ _ => ?_⟩
  have D_deck := def_deck (P := P) (w := w) (base := base) X G c 
  have D_draw := def_draw (P := P) (w := w) (base := base) X G c 
  have D_even_rows_k14 := def_even_rows_k14 (P := P) (w := w) (base := base) X G c D_draw
  have D_pairs := def_pairs (P := P) (w := w) (base := base) X G c 
  have D_some_ties := def_some_ties (P := P) (w := w) (base := base) X G c D_pairs D_draw
  have D_pick := def_pick (P := P) (w := w) (base := base) X G c D_draw
  have D_tuples := def_tuples (P := P) (w := w) (base := base) X G c 
  have D_stretches := def_stretches (P := P) (w := w) (base := base) X G c D_draw D_even_rows_k14 D_some_ties D_pairs D_pick D_tuples
  have D_bent := def_bent (P := P) (w := w) (base := base) X G c D_draw D_pick
  have D_p_is_square := def_p_is_square (P := P) (w := w) (base := base) X G c 
  have D_p_is_integer := def_p_is_integer (P := P) (w := w) (base := base) X G c 
  have D_p_is_pair := def_p_is_pair (P := P) (w := w) (base := base) X G c D_p_is_integer
  have D_p_is_one_way := def_p_is_one_way (P := P) (w := w) (base := base) X G c 
  have D_p_stretches_error := def_p_stretches_error (P := P) (w := w) (base := base) X G c D_p_is_square D_p_is_pair D_p_is_one_way
  have D_is_int := def_is_int (P := P) (w := w) (base := base) X G c 
  have D_is_pair := def_is_pair (P := P) (w := w) (base := base) X G c D_is_int
  have D_word := def_word (P := P) (w := w) (base := base) X G c D_is_pair D_pairs
  exact my_law X G c F D_deck D_stretches D_draw D_bent D_p_stretches_error D_word
end
end RL
open PySem PySem.W PySem.Calls PyProof.Rows
theorem PySem.Challenge.cw_ringrates_k14_what_are_no_stretches_holds : PySem.Challenge.rw_ringrates_k14_what_are_no_stretches.Holds := by
  w_on; o_law
  refine HandSHeadRun.head_any (r := OpenLaw.row PySem.Challenge.rw_ringrates_k14_what_are_no_stretches) (q := view (OpenLaw.row PySem.Challenge.rw_ringrates_k14_what_are_no_stretches).prog [22]) (H := RL.hk) (ob := RL.ob) (M := 4000) (loose := [(PySem.Str.ofString "MAX_PLACES"), (PySem.Str.ofString "MAX_RATE"), (PySem.Str.ofString "is_integer"), (PySem.Str.ofString "is_square"), (PySem.Str.ofString "is_pair"), (PySem.Str.ofString "is_one_way"), (PySem.Str.ofString "stretches_error"), (PySem.Str.ofString "_law_deck"), (PySem.Str.ofString "_law_draw"), (PySem.Str.ofString "_law_pick"), (PySem.Str.ofString "_law_is_int"), (PySem.Str.ofString "_law_pairs"), (PySem.Str.ofString "_law_tuples"), (PySem.Str.ofString "_law_even_rows"), (PySem.Str.ofString "_law_some_ties"), (PySem.Str.ofString "_law_bent"), (PySem.Str.ofString "_law_stretches"), (PySem.Str.ofString "_law_is_pair"), (PySem.Str.ofString "_law_word")]) (d := HandSHeadRun.topDef (OpenLaw.row PySem.Challenge.rw_ringrates_k14_what_are_no_stretches).prog 22) (kwd := []) RL.ob_eq
    (by kernel_rfl) (fun s => by kernel_rfl) RL.run (by kernel_rfl) (by kernel_rfl) (by kernel_rfl) (by rfl) (by first | assumption | decide +kernel) (by decide +kernel) ⟨rfl, rfl, rfl, rfl, rfl, by decide +kernel⟩ ?hw ?hc
  case hw => w_witness2
  case hc =>
    refine RR.walk_my (l := PySem.Challenge.rw_ringrates_k14_what_are_no_stretches) (n := 63) (k := 23) (x := (PySem.Str.ofString "_law_script")) (g := RR.s_law) rfl (by decide) (by kernel_rfl) ⟨rfl, by decide, by decide⟩ ?F ?L
    case F =>
      intro w mg fa h Y G hmg0
      obtain ⟨K, KX, c⟩ := Y
      have hmg : mg ("law" : PySem.Str) = some (.ref fa) := by
        have e : (HandSHeadRun.topDef (OpenLaw.row PySem.Challenge.rw_ringrates_k14_what_are_no_stretches).prog 22).name = ("law" : PySem.Str) := by kernel_rfl
        rw [← e]
        exact hmg0
      obtain ⟨fd, hb, hF⟩ := RL.facts (P := (PySem.Challenge.rw_ringrates_k14_what_are_no_stretches).prog) (w := w) KX G hmg c
      exact ⟨K, fd, KX, hb, hF⟩
    case L => exact RR.law_true

