import PyProof.Rows.All
import Wide.All
import OpenK.AllK
import Wide.FinOn
import PySem.Syntax
import PySem.Str
import HandS.Comp
import HandS.ForMost
import HandS.ForExc
import HandS.Walk
import HandS.Defaults
import HandS.Property
import HandS.Zip
import HandS.Rev
import HandS.TryMany
import HandS.Deep
import HandS.HeadWalk
import HandS.Style
import HandS.IsInst
import HandS.Conv
import HandS.ExcOwn
import HandS.Codes
import HandS.Ends
import HandS.HeadEnd
import HandS.HeadHook1
import HandS.HeadHook2
import KE.KStateDown
import Lean
import HandS.Head0
import HandS.Head1
import HandS.Head2
import PySem.Challenge.RW_nearestword_k74_written_fields_and_words
set_option Elab.async false
set_option linter.all false
section
set_option linter.all false
set_option maxRecDepth 10000
/-! DLa: values without a heap, a small syntax, its evaluator. -/
namespace DL
open PySem

/-- a value without a heap -/
inductive D where
  | non | bl (b : Bool) | int (i : Int) | str (s : Str)
  | lst (xs : List D) | tup (xs : List D)
  | obj (c : Nat) (fs : List (Nat × D))
  | exn (c : Nat) (fs : List (Nat × D))
  deriving Inhabited

abbrev St := List (Option D)

inductive BO where
  | add | sub | mul | fdiv | mod | pow | band
  deriving DecidableEq
inductive CO where
  | eq | ne | lt | le | gt | ge | isin | notin
  deriving DecidableEq
inductive BF where
  | len | abs | int | str | max | min | sum | sorted | list | tuple | lenset
  deriving DecidableEq
inductive BM where
  | join | split | rjust | count
  deriving DecidableEq
inductive Ty where
  | int | bool | list | tuple | str
  deriving DecidableEq
inductive P where
  | nm (i : Nat) | tp (is : List Nat)
  deriving DecidableEq

mutual
inductive E where
  | var (i : Nat)
  | non | bl (b : Bool) | int (i : Int) | str (s : String)
  | glo (k : Nat) (v : Int)
  | bin (o : BO) (a b : E)
  | neg (a : E)
  | cmp (o : CO) (a b : E)
  | isc (n : Bool) (a : E) (c : Option Bool)
  | chn (o p : CO) (a b c : E)
  | and (a b : E) | or (a b : E) | not (a : E)
  | ite (c a b : E)
  | lst (es : Es) | tup (es : Es)
  | idx (a i : E)
  | omit
  | slc (a lo hi : E)
  | att (a : E) (f : Nat)
  | prp (a : E) (f : Nat)
  | call (f : Nat) (es : Es)
  | meth (a : E) (m : Nat) (es : Es)
  | make (c : Nat) (es : Es)
  | blt (f : BF) (es : Es)
  | lsr (a : E)
  | bm (m : BM) (a : E) (es : Es)
  | isi (a : E) (t : Ty)
  | cmpr (x : E) (p : P) (it : I)
  | cmpi (x : E) (p : P) (it : I) (c : E)
  | cmp2 (x : E) (p : P) (it : I) (q : P) (jt : I)
inductive Es where
  | nil | cons (e : E) (es : Es)
inductive I where
  | seq (e : E) | rng1 (a : E) | rng2 (a b : E) | rng3 (a b c : E) | rev (e : E) | zip (a b : E) | enm (e : E)
end

mutual
inductive S where
  | asg (i : Nat) (e : E)
  | asgT (is : List Nat) (e : E)
  | par (i j : Nat) (a b : E)
  | swp (i : Nat) (a b c d : E)
  | sti (i : Nat) (k e : E)
  | stf (i : Nat) (f : Nat) (e : E)
  | aug (i : Nat) (o : BO) (e : E)
  | augi (i : Nat) (k : E) (o : BO) (e : E)
  | app (i : Nat) (e : E)
  | ext (i : Nat) (e : E)
  | pop (i : Nat)
  | exp (e : E)
  | ifs (c : E) (a b : Ss)
  | whl (c : E) (own : List Nat) (b : Ss)
  | forr (p : P) (it : I) (own : List Nat) (b : Ss)
  | ret (e : E)
  | brk | cnt | pas
  | rse (c : Nat)
  | rse1 (c : Nat) (e : E)
  | tri (own : List Nat) (b : Ss) (hs : Hs)
inductive Ss where
  | nil | cons (s : S) (ss : Ss)
inductive Hs where
  | nil | cons (c : Nat) (n : Option Nat) (b : Ss) (hs : Hs)
end

/-! ### results -/
inductive R where
  | ok (d : D) | er (c : Nat) (fs : List (Nat × D)) | bad
  deriving Inhabited
inductive RL where
  | ok (ds : List D) | er (c : Nat) (fs : List (Nat × D)) | bad
  deriving Inhabited
inductive O where
  | nx (st : St) | rt (d : D) | bk (st : St) | ct (st : St) | er (c : Nat) (fs : List (Nat × D)) (st : St) | bad
  deriving Inhabited

@[reducible] def R.bind (r : R) (k : D → R) : R := match r with
  | .ok d => k d
  | .er c fs => .er c fs
  | .bad => .bad
@[reducible] def R.bindL (r : R) (k : D → RL) : RL := match r with
  | .ok d => k d
  | .er c fs => .er c fs
  | .bad => .bad
@[reducible] def RL.bind (r : RL) (k : List D → R) : R := match r with
  | .ok d => k d
  | .er c fs => .er c fs
  | .bad => .bad
@[reducible] def RL.bindL (r : RL) (k : List D → RL) : RL := match r with
  | .ok d => k d
  | .er c fs => .er c fs
  | .bad => .bad
@[reducible] def R.bindO (r : R) (st : St) (k : D → O) : O := match r with
  | .ok d => k d
  | .er c fs => .er c fs st
  | .bad => .bad
@[reducible] def RL.bindO (r : RL) (st : St) (k : List D → O) : O := match r with
  | .ok d => k d
  | .er c fs => .er c fs st
  | .bad => .bad
@[reducible] def O.bind (o : O) (k : St → O) : O := match o with
  | .nx st => k st
  | .rt d => .rt d
  | .bk st => .bk st
  | .ct st => .ct st
  | .er c fs st => .er c fs st
  | .bad => .bad
/-- nothing may be raised here -/
@[reducible] def R.calm (r : R) : R := match r with
  | .ok d => .ok d
  | _ => .bad
def ofO : Option D → R
  | some d => .ok d
  | none => .bad

/-! ### operations -/
def big : Nat := 1000000
def intOk (i : Int) : Bool := decide (-18446744073709551616 < i ∧ i < 18446744073709551616)
def binD (o : BO) (x y : D) : Option D := match o, x, y with
  | .add, .int i, .int j => some (.int (i + j))
  | .add, .lst xs, .lst ys => if xs.length + ys.length ≤ big then some (.lst (xs ++ ys)) else none
  | .add, .str a, .str b => if a.cps.size + b.cps.size ≤ big then some (.str ⟨a.cps ++ b.cps⟩) else none
  | .sub, .int i, .int j => some (.int (i - j))
  | .mul, .int i, .int j => if intOk i || intOk j then some (.int (i * j)) else none
  | .mul, .lst xs, .int k => if xs.length * k.toNat ≤ big ∧ -1000000 ≤ k ∧ k ≤ 1000000 then some (.lst (List.replicate k.toNat xs).flatten) else none
  | .fdiv, .int i, .int j => if 0 < j ∧ j < 1073741824 then some (.int (i / j)) else none
  | .mod, .int i, .int j => if 0 < j then some (.int (i % j)) else none
  | .pow, .int i, .int j => if 0 ≤ j ∧ j ≤ 1000 ∧ intOk i = true then some (.int (i ^ j.toNat)) else none
  | _, _, _ => none

mutual
/-- == of data -/
def eqB : D → D → Bool
  | .non, .non => true
  | .bl a, .bl b => a == b
  | .bl a, .int j => (if a then 1 else 0) == j
  | .int i, .bl b => i == (if b then 1 else 0)
  | .int a, .int b => decide (a = b)
  | .str a, .str b => decide (a = b)
  | .lst xs, .lst ys => eqBs xs ys
  | .tup xs, .tup ys => eqBs xs ys
  | _, _ => false
def eqBs : List D → List D → Bool
  | [], [] => true
  | x :: xs, y :: ys => eqB x y && eqBs xs ys
  | _, _ => false
end
def isSc : D → Bool
  | .non => true
  | .bl _ => true
  | .int _ => true
  | .str _ => true
  | _ => false
/-- scalars, not a truth value beside a number -/
def scB : D → D → Bool
  | .bl _, .int _ => false
  | .int _, .bl _ => false
  | x, y => isSc x && isSc y
mutual
/-- data, at most that deep, its signs in order -/
def okD : Nat → D → Bool
  | _, .non => true
  | _, .bl _ => true
  | _, .int _ => true
  | _, .str s => s.cps.all fun c => decide (c < 1114112)
  | n + 1, .lst xs => okDs n xs
  | n + 1, .tup xs => okDs n xs
  | _, _ => false
def okDs : Nat → List D → Bool
  | _, [] => true
  | n, x :: xs => okD n x && okDs n xs
end
def eqOk (x y : D) : Bool := scB x y || (okD 20 x && okD 20 y)
/-- x in ys, if it is told -/
def memD (x : D) (y : D) : Option Bool := match y with
  | .lst ys => if (isSc x && ys.all isSc) || (okD 20 x && okD 20 (.lst ys)) then some (ys.any fun z => eqB z x) else none
  | .tup ys => if isSc x && ys.all isSc then some (ys.any fun z => eqB z x) else none
  | _ => none
def signIn (x y : D) : Option Bool := match x, y with
  | .str a, .str s => (match a.cps.toList with
    | [c] => some (s.cps.toList.contains c)
    | _ => none)
  | _, _ => none
def cmpD (o : CO) (x y : D) : Option D := match o with
  | .eq => if eqOk x y then some (.bl (eqB x y)) else none
  | .ne => if eqOk x y then some (.bl (!eqB x y)) else none
  | .lt => match x, y with
    | .int i, .int j => some (.bl (decide (i < j)))
    | _, _ => none
  | .le => match x, y with
    | .int i, .int j => some (.bl (decide (i ≤ j)))
    | _, _ => none
  | .gt => match x, y with
    | .int i, .int j => some (.bl (decide (j < i)))
    | _, _ => none
  | .ge => match x, y with
    | .int i, .int j => some (.bl (decide (j ≤ i)))
    | _, _ => none
  | .isin => match signIn x y with
    | some b => some (.bl b)
    | none => (memD x y).map .bl
  | .notin => match signIn x y with
    | some b => some (.bl (!b))
    | none => (memD x y).map fun b => .bl (!b)
def isN : D → Bool
  | .non => true
  | _ => false
def isB (b : Bool) : D → Option Bool
  | .bl c => some (b == c)
  | _ => none
def isD (n : Bool) (x : D) : Option Bool → Option D
  | none => some (.bl (if n then !isN x else isN x))
  | some b => (isB b x).map fun r => .bl (if n then !r else r)
def negD : D → Option D
  | .int i => some (.int (-i))
  | _ => none
/-- the place that an index means -/
def placeOf (n : Nat) (i : Int) : Option Nat :=
  if 0 ≤ i then
    if i < n then some i.toNat else none
  else if -(n : Int) ≤ i then some (i + n).toNat else none
def pick {α : Type} (xs : List α) (i : Int) : Option α := match placeOf xs.length i with
  | some k => xs[k]?
  | none => none
def idxD (x i : D) : Option D := match x, i with
  | .lst xs, .int i => pick xs i
  | .tup xs, .int i => pick xs i
  | .str s, .int i => if s.cps.size ≤ big then (pick s.cps.toList i).map fun c => .str ⟨#[c]⟩ else none
  | _, _ => none
def clip (n d : Nat) : Option Int → Nat
  | none => d
  | some v => if 0 ≤ v then min v.toNat n else (v + (n : Int)).toNat
def cut {α : Type} (xs : List α) (lo hi : Option Int) : List α :=
  (xs.drop (clip xs.length 0 lo)).take (clip xs.length xs.length hi - clip xs.length 0 lo)
def partD : D → Option (Option Int)
  | .int i => some (some i)
  | _ => none
def slcD (x : D) (lo hi : Option Int) : Option D := match x with
  | .lst xs => some (.lst (cut xs lo hi))
  | .tup xs => if clip xs.length 0 lo = 0 ∧ clip xs.length xs.length hi = xs.length then none else some (.tup (cut xs lo hi))
  | _ => none
def fieldOf (f : Nat) : List (Nat × D) → Option D
  | [] => none
  | (g, d) :: r => if g = f then some d else fieldOf f r
def setField (f : Nat) (d : D) : List (Nat × D) → List (Nat × D)
  | [] => [(f, d)]
  | (g, e) :: r => if g = f then (g, d) :: r else (g, e) :: setField f d r
def intsOf : List D → Option (List Int)
  | [] => some []
  | .int i :: r => (intsOf r).map (i :: ·)
  | _ :: _ => none
def strsOf : List D → Option (List Str)
  | [] => some []
  | .str s :: r => (strsOf r).map (s :: ·)
  | _ :: _ => none
def maxL : List Int → Int
  | [] => 0
  | [x] => x
  | x :: y :: r => max x (maxL (y :: r))
def minL : List Int → Int
  | [] => 0
  | [x] => x
  | x :: y :: r => min x (minL (y :: r))
def numText (n : Nat) : Str := Str.ofString (toString (n : Int))
def intText (i : Int) : Str := Str.ofString (toString i)
/-- the number that digits tell -/
def digitsVal (l : List Nat) : Nat := l.foldl (fun a c => a * 10 + (c - 48)) 0
def noDups : List Int → Bool
  | [] => true
  | x :: r => !r.contains x && noDups r
def bltD (f : BF) (ds : List D) : Option D := match f, ds with
  | .len, [.lst xs] => some (.int xs.length)
  | .len, [.tup xs] => some (.int xs.length)
  | .len, [.str s] => if s.cps.size ≤ big then some (.int s.cps.size) else none
  | .abs, [.int i] => some (.int (if i < 0 then -i else i))
  | .int, [.int i] => some (.int i)
  | .int, [.bl b] => some (.int (if b then 1 else 0))
  | .int, [.str s] => if s.cps.size ≤ 640 ∧ numText (digitsVal s.cps.toList) = s then some (.int (digitsVal s.cps.toList)) else none
  | .str, [.int i] => if intOk i then some (.str (intText i)) else none
  | .max, [.int i, .int j] => some (.int (if j > i then j else i))
  | .min, [.int i, .int j] => some (.int (if j < i then j else i))
  | .max, [.lst xs] => match intsOf xs with
    | some (i :: r) => some (.int (maxL (i :: r)))
    | _ => none
  | .min, [.lst xs] => match intsOf xs with
    | some (i :: r) => some (.int (minL (i :: r)))
    | _ => none
  | .sum, [.lst xs] => (intsOf xs).map fun is => .int is.sum
  | .list, [.lst xs] => some (.lst xs)
  | .list, [.tup xs] => some (.lst xs)
  | .tuple, [.lst xs] => some (.tup xs)
  | .tuple, [.tup xs] => some (.tup xs)
  | .lenset, [.lst xs] => match intsOf xs with
    | some is => if noDups is = true ∧ is.length ≤ 4000 then some (.int is.length) else none
    | none => none
  | _, _ => none
/-- the parts between the signs c -/
def splitAt1 (c : Nat) : List Nat → List Nat → List (List Nat)
  | acc, [] => [acc]
  | acc, x :: r => if x = c then acc :: splitAt1 c [] r else splitAt1 c (acc ++ [x]) r
def joinAt : List Nat → List (List Nat) → List Nat
  | _, [] => []
  | _, [x] => x
  | s, x :: y :: r => x ++ s ++ joinAt s (y :: r)
def bmD (m : BM) (x : D) (ds : List D) : Option D := match m, x, ds with
  | .join, .str s, [.lst xs] => match strsOf xs with
    | some ys => if s.cps.size ≤ 1000 ∧ ys.length ≤ 5000 ∧ (ys.all fun y => decide (y.cps.size ≤ 2000)) = true then some (.str ⟨(joinAt s.cps.toList (ys.map fun y => y.cps.toList)).toArray⟩) else none
    | none => none
  | .split, .str s, [.str t] => match t.cps.toList with
    | [c] => if s.cps.size ≤ big ∧ c < 256 then some (.lst ((splitAt1 c [] s.cps.toList).map fun l => .str ⟨l.toArray⟩)) else none
    | _ => none
  | _, _, _ => none
def isiD (t : Ty) (x : D) : Option Bool := match t, x with
  | _, .obj _ _ => none
  | _, .exn _ _ => none
  | .int, .int _ => some true
  | .int, .bl _ => some true
  | .bool, .bl _ => some true
  | .list, .lst _ => some true
  | .tuple, .tup _ => some true
  | .str, .str _ => some true
  | _, _ => some false
def rngOk (lo hi : Int) : Bool := decide (-1000000 ≤ lo ∧ lo ≤ 1000000 ∧ -1000000 ≤ hi ∧ hi ≤ 1000000)
def rngD (lo hi : Int) : List D := (List.range (hi - lo).toNat).map fun k => .int (lo + (k : Nat))
def pairUp : List D → List D → List D
  | x :: xs, y :: ys => .tup [x, y] :: pairUp xs ys
  | _, _ => []
def numbered (k : Nat) : List D → List D
  | [] => []
  | x :: xs => .tup [.int (k : Nat), x] :: numbered (k + 1) xs
def bindIs : List Nat → List D → St → Option St
  | [], [], st => some st
  | i :: is, d :: ds, st => bindIs is ds (st.set i (some d))
  | _, _, _ => none
def bindP (p : P) (d : D) (st : St) : Option St := match p with
  | .nm i => some (st.set i (some d))
  | .tp is => match d with
    | .tup ds => bindIs is ds st
    | _ => none
def P.slots : P → List Nat
  | .nm i => [i]
  | .tp is => is
def wipeD (st : St) : List Nat → St
  | [] => st
  | v :: vs => (wipeD st vs).set v none
def FUEL : Nat := 1000000
def whileL (c : St → R) (b : St → O) : Nat → St → O
  | 0, _ => .bad
  | n + 1, st => match c st with
    | .ok (.bl true) => (match b st with
      | .nx st' => whileL c b n st'
      | .ct st' => whileL c b n st'
      | .bk st' => .nx st'
      | .rt d => .rt d
      | .er c fs st' => .er c fs st'
      | .bad => .bad)
    | .ok (.bl false) => .nx st
    | .ok _ => .bad
    | .er c fs => .er c fs st
    | .bad => .bad
def forL (g : D → St → Option St) (b : St → O) : List D → St → O
  | [], st => .nx st
  | x :: xs, st => match g x st with
    | none => .bad
    | some st1 => match b st1 with
      | .nx st' => forL g b xs st'
      | .ct st' => forL g b xs st'
      | .bk st' => .nx st'
      | .rt d => .rt d
      | .er c fs st' => .er c fs st'
      | .bad => .bad
/-- the items of a comprehension; f: the item that an element gives, if it is kept -/
def mapL (f : D → Option (Option D)) : List D → Option (List D)
  | [] => some []
  | x :: xs => match f x with
    | none => none
    | some none => mapL f xs
    | some (some y) => (mapL f xs).map (y :: ·)
def mapL2 (f : D → Option (List D)) : List D → Option (List D)
  | [] => some []
  | x :: xs => match f x, mapL2 f xs with
    | some a, some b => some (a ++ b)
    | _, _ => none

/-- what is known outside a def -/
structure Tb where
  fn : Nat → List D → R
  me : Nat → Nat → Option Nat
  pr : Nat → Nat → Option Nat
  ini : Nat → Option Nat

def toL (r : R) : Option (Option D) := match r with
  | .ok d => some (some d)
  | _ => none
mutual
def evE (T : Tb) : E → St → R
  | .var i, st => match st[i]? with
    | some (some d) => .ok d
    | _ => .bad
  | .non, _ => .ok .non
  | .bl b, _ => .ok (.bl b)
  | .int i, _ => .ok (.int i)
  | .str s, _ => .ok (.str (Str.ofString s))
  | .glo _ v, _ => .ok (.int v)
  | .bin o a b, st => (evE T a st).bind fun x => (evE T b st).bind fun y => ofO (binD o x y)
  | .neg a, st => (evE T a st).bind fun x => ofO (negD x)
  | .cmp o a b, st => (evE T a st).bind fun x => (evE T b st).bind fun y => ofO (cmpD o x y)
  | .isc n a c, st => (evE T a st).bind fun x => ofO (isD n x c)
  | .chn o p a b c, st => (evE T a st).bind fun x => (evE T b st).bind fun y => (ofO (cmpD o x y)).bind fun r => match r with
    | .bl true => (evE T c st).bind fun z => ofO (cmpD p y z)
    | .bl false => .ok (.bl false)
    | _ => .bad
  | .and a b, st => (evE T a st).bind fun x => match x with
    | .bl true => evE T b st
    | .bl false => .ok (.bl false)
    | _ => .bad
  | .or a b, st => (evE T a st).bind fun x => match x with
    | .bl true => .ok (.bl true)
    | .bl false => evE T b st
    | _ => .bad
  | .not a, st => (evE T a st).bind fun x => match x with
    | .bl b => .ok (.bl (!b))
    | _ => .bad
  | .ite c a b, st => (evE T c st).bind fun x => match x with
    | .bl true => evE T a st
    | .bl false => evE T b st
    | _ => .bad
  | .lst es, st => (evEs T es st).bind fun ds => .ok (.lst ds)
  | .tup es, st => (evEs T es st).bind fun ds => .ok (.tup ds)
  | .idx a i, st => (evE T a st).bind fun x => (evE T i st).bind fun y => ofO (idxD x y)
  | .omit, _ => .bad
  | .slc a .omit .omit, st => (evE T a st).bind fun x => ofO (slcD x none none)
  | .slc a .omit hi, st => (evE T a st).bind fun x => (evE T hi st).bind fun h => match partD h with
    | some h => ofO (slcD x none h)
    | none => .bad
  | .slc a lo .omit, st => (evE T a st).bind fun x => (evE T lo st).bind fun l => match partD l with
    | some l => ofO (slcD x l none)
    | none => .bad
  | .slc a lo hi, st => (evE T a st).bind fun x => (evE T lo st).bind fun l => match partD l with
    | some l => (evE T hi st).bind fun h => (match partD h with
      | some h => ofO (slcD x l h)
      | none => .bad)
    | none => .bad
  | .att a f, st => (evE T a st).bind fun x => match x with
    | .obj _ fs => ofO (fieldOf f fs)
    | .exn _ fs => ofO (fieldOf f fs)
    | _ => .bad
  | .prp a f, st => (evE T a st).bind fun x => match x with
    | .obj c fs => (match T.pr c f with
      | some g => (T.fn g [.obj c fs]).calm
      | none => .bad)
    | _ => .bad
  | .call f es, st => (evEs T es st).bind fun ds => T.fn f ds
  | .meth a m es, st => (evE T a st).bind fun x => match x with
    | .obj c fs => (match T.me c m, fieldOf m fs with
      | some g, none => (evEs T es st).bind fun ds => T.fn g (.obj c fs :: ds)
      | _, _ => .bad)
    | _ => .bad
  | .make c es, st => (evEs T es st).bind fun ds => match T.ini c with
    | some g => T.fn g ds
    | none => .bad
  | .blt f es, st => (evEs T es st).bind fun ds => ofO (bltD f ds)
  | .lsr a, st => (evE T a st).bind fun x => match x with
    | .int n => if rngOk 0 n then .ok (.lst (rngD 0 n)) else .bad
    | _ => .bad
  | .bm m a es, st => (evE T a st).bind fun x => match x with
    | .str s => (evEs T es st).bind fun ds => ofO (bmD m (.str s) ds)
    | _ => .bad
  | .isi a t, st => (evE T a st).bind fun x => match isiD t x with
    | some b => .ok (.bl b)
    | none => .bad
  | .cmpr x p it, st => (evI T it st).bind fun ds => if ds.length ≤ big then
      (match mapL (fun d => match bindP p d (wipeD st p.slots) with
        | some st1 => toL (evE T x st1)
        | none => none) ds with
      | some ys => .ok (.lst ys)
      | none => .bad) else .bad
  | .cmpi x p it c, st => (evI T it st).bind fun ds => if ds.length ≤ big then
      (match mapL (fun d => match bindP p d (wipeD st p.slots) with
        | some st1 => (match evE T c st1 with
          | .ok (.bl true) => toL (evE T x st1)
          | .ok (.bl false) => some none
          | _ => none)
        | none => none) ds with
      | some ys => .ok (.lst ys)
      | none => .bad) else .bad
  | .cmp2 x p it q jt, st => (evI T it st).bind fun ds =>
      match mapL2 (fun d => match bindP p d (wipeD (wipeD st q.slots) p.slots) with
        | some st1 => (match evI T jt st1 with
          | .ok es => mapL (fun e => match bindP q e (wipeD st1 q.slots) with
            | some st2 => toL (evE T x st2)
            | none => none) es
          | _ => none)
        | none => none) ds with
      | some ys => .ok (.lst ys)
      | none => .bad
def evEs (T : Tb) : Es → St → RL
  | .nil, _ => .ok []
  | .cons e es, st => (evE T e st).bindL fun d => (evEs T es st).bindL fun ds => .ok (d :: ds)
def evI (T : Tb) : I → St → RL
  | .seq e, st => (evE T e st).bindL fun x => match x with
    | .lst xs => .ok xs
    | .tup xs => .ok xs
    | .str s => .ok (s.cps.toList.map fun c => .str ⟨#[c]⟩)
    | _ => .bad
  | .rng1 a, st => (evE T a st).bindL fun x => match x with
    | .int n => if rngOk 0 n then .ok (rngD 0 n) else .bad
    | _ => .bad
  | .rng2 a b, st => (evE T a st).bindL fun x => (evE T b st).bindL fun y => match x, y with
    | .int l, .int h => if rngOk l h then .ok (rngD l h) else .bad
    | _, _ => .bad
  | .rng3 a b c, st => (evE T a st).bindL fun x => (evE T b st).bindL fun y => (evE T c st).bindL fun z => match x, y, z with
    | .int l, .int h, .int (-1) => if rngOk l h then .ok ((List.range (l - h).toNat).map fun k => .int (l - (k : Nat))) else .bad
    | _, _, _ => .bad
  | .rev e, st => (evE T e st).bindL fun x => match x with
    | .lst xs => .ok xs.reverse
    | .tup xs => .ok xs.reverse
    | _ => .bad
  | .zip a b, st => (evE T a st).bindL fun x => (evE T b st).bindL fun y => match x, y with
    | .lst xs, .lst ys => .ok (pairUp xs ys)
    | .tup xs, .tup ys => .ok (pairUp xs ys)
    | _, _ => .bad
  | .enm e, st => (evE T e st).bindL fun x => match x with
    | .lst xs => .ok (numbered 0 xs)
    | _ => .bad
end

/-- is the class d the class c, or below it -/
structure Up where
  sub : Nat → Nat → Bool

mutual
def evS (T : Tb) (U : Up) : S → St → O
  | .asg i e, st => (evE T e st).bindO st fun d => .nx (st.set i (some d))
  | .asgT is e, st => (evE T e st).bindO st fun d => match d with
    | .tup ds => (match bindIs is ds st with
      | some st' => .nx st'
      | none => .bad)
    | _ => .bad
  | .par i j a b, st => (evE T a st).bindO st fun x => (evE T b st).bindO st fun y => .nx ((st.set i (some x)).set j (some y))
  | .swp i a b c d, st => (evE T c st).bindO st fun x => (evE T d st).bindO st fun y => match st[i]? with
    | some (some (.lst xs)) => (evE T a st).bindO st fun k => (match k with
      | .int k => (match placeOf xs.length k with
        | some j => (evE T b (st.set i (some (.lst (xs.set j x))))).bindO (st.set i (some (.lst (xs.set j x)))) fun l => (match l with
          | .int l => (match placeOf (xs.set j x).length l with
            | some m => .nx (st.set i (some (.lst ((xs.set j x).set m y))))
            | none => .bad)
          | _ => .bad)
        | none => .bad)
      | _ => .bad)
    | _ => .bad
  | .sti i k e, st => (evE T e st).bindO st fun x => match st[i]? with
    | some (some (.lst xs)) => (evE T k st).bindO st fun y => (match y with
      | .int k => (match placeOf xs.length k with
        | some j => .nx (st.set i (some (.lst (xs.set j x))))
        | none => .bad)
      | _ => .bad)
    | _ => .bad
  | .stf i f e, st => (evE T e st).bindO st fun x => match st[i]? with
    | some (some (.obj c fs)) => if fs.length < 900 then .nx (st.set i (some (.obj c (setField f x fs)))) else .bad
    | _ => .bad
  | .aug i o e, st => match st[i]? with
    | some (some x) => (evE T e st).bindO st fun y => (match o, x, y with
      | .add, .int a, .int b => .nx (st.set i (some (.int (a + b))))
      | .sub, .int a, .int b => .nx (st.set i (some (.int (a - b))))
      | _, _, _ => .bad)
    | _ => .bad
  | .augi i k o e, st => match st[i]? with
    | some (some (.lst xs)) => (evE T k st).bindO st fun y => (match y with
      | .int k => (match placeOf xs.length k with
        | some j => (match xs[j]? with
          | some (.int a) => (evE T e st).bindO st fun z => (match o, z with
            | .add, .int b => .nx (st.set i (some (.lst (xs.set j (.int (a + b))))))
            | _, _ => .bad)
          | _ => .bad)
        | none => .bad)
      | _ => .bad)
    | _ => .bad
  | .app i e, st => match st[i]? with
    | some (some (.lst xs)) => (evE T e st).bindO st fun d => if xs.length < big then .nx (st.set i (some (.lst (xs ++ [d])))) else .bad
    | _ => .bad
  | .ext i e, st => match st[i]? with
    | some (some (.lst xs)) => (evE T e st).bindO st fun d => (match d with
      | .lst ys => if xs.length + ys.length < big then .nx (st.set i (some (.lst (xs ++ ys)))) else .bad
      | _ => .bad)
    | _ => .bad
  | .pop i, st => match st[i]? with
    | some (some (.lst xs)) => if xs.length = 0 then .bad else .nx (st.set i (some (.lst xs.dropLast)))
    | _ => .bad
  | .exp e, st => (evE T e st).bindO st fun _ => .nx st
  | .ifs c a b, st => (evE T c st).bindO st fun x => match x with
    | .bl true => evSs T U a st
    | .bl false => evSs T U b st
    | _ => .bad
  | .whl c _ b, st => whileL (evE T c) (evSs T U b) FUEL st
  | .forr p it _ b, st => (evI T it st).bindO st fun ds => forL (bindP p) (evSs T U b) ds st
  | .ret e, st => (evE T e st).bindO st fun d => .rt d
  | .brk, st => .bk st
  | .cnt, st => .ct st
  | .pas, st => .nx st
  | .rse c, st => .er c [] st
  | .rse1 _ _, _ => .bad
  | .tri _ b hs, st => match evSs T U b st with
    | .er c fs st' => evHs T U hs c fs st'
    | o => o
def evSs (T : Tb) (U : Up) : Ss → St → O
  | .nil, st => .nx st
  | .cons s ss, st => (evS T U s st).bind fun st' => evSs T U ss st'
def evHs (T : Tb) (U : Up) : Hs → Nat → List (Nat × D) → St → O
  | .nil, c, fs, st => .er c fs st
  | .cons k n b hs, c, fs, st => match U.sub c k with
    | true => (match n with
      | none => evSs T U b st
      | some i => match evSs T U b (st.set i (some (.exn c fs))) with
        | .nx st' => .nx (st'.set i none)
        | .bk st' => .bk (st'.set i none)
        | .ct st' => .ct (st'.set i none)
        | .rt d => .rt d
        | .er c fs st' => .er c fs st'
        | .bad => .bad)
    | false => evHs T U hs c fs st
end

/-- a def: its slots' number, its text; fresh: what it hands back is a list of its own; sc: a scalar -/
structure CD where
  np : Nat
  ns : Nat
  body : Ss
  kind : Nat := 0

def startD (c : CD) (ds : List D) : St := ds.map some ++ List.replicate (c.ns - ds.length) none
def outD (o : O) : R := match o with
  | .nx _ => .ok .non
  | .rt d => .ok d
  | .er c fs _ => .er c fs
  | _ => .bad
/-- an __init__: the object that it leaves -/
def selfD (st : St) : R := match st with
  | some (.obj c fs) :: _ => .ok (.obj c fs)
  | _ => .bad
def outI (o : O) : R := match o with
  | .nx st => selfD st
  | .er c fs _ => .er c fs
  | _ => .bad
/-- a def of kind 2 hands back a scalar -/
def kindD (k : Nat) (r : R) : R := if k = 2 then (match r with
    | .ok d => if isSc d then .ok d else .bad
    | .er c fs => if fs.all (fun p => isSc p.2) then .er c fs else .bad
    | .bad => .bad) else r
def evDef (T : Tb) (U : Up) (c : CD) (ds : List D) : R :=
  if ds.length = c.np then kindD c.kind (outD (evSs T U c.body (startD c ds))) else .bad
def evIni (T : Tb) (U : Up) (k : Nat) (c : CD) (ds : List D) : R :=
  if ds.length + 1 = c.np then outI (evSs T U c.body (startD c (.obj k [] :: ds))) else .bad
end DL
end

section
set_option linter.all false
set_option maxRecDepth 100000
set_option maxHeartbeats 1000000
set_option Elab.async false
/-! DLm: is a text of Python that small text (mE, mS); what a text leaves alone in its slots (ownS). -/
namespace DL
open PySem

/-- kinds of the defs: 1 hands back a list of its own, 2 a scalar -/
structure Kd where
  fn : Nat → Nat
  me : Nat → Nat

/-! ### which slots an expression gives away -/
mutual
def lk (z : Kd) : E → List Nat
  | .var i => [i]
  | .non => [] | .bl _ => [] | .int _ => [] | .str _ => [] | .glo _ _ => [] | .omit => []
  | .bin _ a b => (match a with | .var _ => [] | _ => lk z a) ++ (match b with | .var _ => [] | _ => lk z b)
  | .neg a => (match a with | .var _ => [] | _ => lk z a)
  | .cmp _ a b => (match a with | .var _ => [] | _ => lk z a) ++ (match b with | .var _ => [] | _ => lk z b)
  | .isc _ a _ => (match a with | .var _ => [] | _ => lk z a)
  | .chn _ _ a b c => (match a with | .var _ => [] | _ => lk z a) ++ (match b with | .var _ => [] | _ => lk z b) ++ (match c with | .var _ => [] | _ => lk z c)
  | .and a b => lk z a ++ lk z b
  | .or a b => lk z a ++ lk z b
  | .not a => lk z a
  | .ite c a b => lk z c ++ lk z a ++ lk z b
  | .lst es => lkEs z es
  | .tup es => lkEs z es
  | .idx a i => (match a with | .var _ => [] | _ => lk z a) ++ (match i with | .var _ => [] | _ => lk z i)
  | .slc a l h => (match a with | .var _ => [] | _ => lk z a) ++ (match l with | .var _ => [] | _ => lk z l) ++ (match h with | .var _ => [] | _ => lk z h)
  | .att a _ => (match a with | .var _ => [] | _ => lk z a)
  | .prp a _ => lk z a
  | .call f es => if z.fn f == 2 then bwEs z es else lkEs z es
  | .meth a m es => lk z a ++ (if z.me m == 2 then bwEs z es else lkEs z es)
  | .make _ es => lkEs z es
  | .blt _ es => bwEs z es
  | .lsr a => (match a with | .var _ => [] | _ => lk z a)
  | .bm _ a es => (match a with | .var _ => [] | _ => lk z a) ++ bwEs z es
  | .isi a _ => (match a with | .var _ => [] | _ => lk z a)
  | .cmpr x p it => lkI z it ++ (p.slots ++ lk z x)
  | .cmpi x p it c => lkI z it ++ (p.slots ++ (lk z x ++ lk z c))
  | .cmp2 x p it q jt => lkI z it ++ (p.slots ++ (q.slots ++ (lkI z jt ++ lk z x)))
def lkEs (z : Kd) : Es → List Nat
  | .nil => []
  | .cons e es => lk z e ++ lkEs z es
def bwEs (z : Kd) : Es → List Nat
  | .nil => []
  | .cons e es => (match e with | .var _ => [] | _ => lk z e) ++ bwEs z es
def lkI (z : Kd) : I → List Nat
  | .seq e => lk z e
  | .rng1 a => (match a with | .var _ => [] | _ => lk z a)
  | .rng2 a b => (match a with | .var _ => [] | _ => lk z a) ++ (match b with | .var _ => [] | _ => lk z b)
  | .rng3 a b c => (match a with | .var _ => [] | _ => lk z a) ++ (match b with | .var _ => [] | _ => lk z b) ++ (match c with | .var _ => [] | _ => lk z c)
  | .rev e => lk z e
  | .zip a b => lk z a ++ lk z b
  | .enm e => lk z e
end
def bw (z : Kd) (e : E) : List Nat := match e with | .var _ => [] | _ => lk z e

/-- a list that this gives is new -/
def fresh (z : Kd) : E → Bool
  | .lst _ => true | .cmpr _ _ _ => true | .cmpi _ _ _ _ => true | .cmp2 _ _ _ _ _ => true | .lsr _ => true
  | .non => true | .bl _ => true | .int _ => true | .str _ => true | .glo _ _ => true
  | .bin _ _ _ => true | .slc _ _ _ => true | .blt _ _ => true | .bm _ _ _ => true
  | .cmp _ _ _ => true | .isc _ _ _ => true | .chn _ _ _ _ _ => true | .not _ => true | .isi _ _ => true | .neg _ => true
  | .call f _ => z.fn f == 1 || z.fn f == 2
  | .meth _ m _ => z.me m == 1 || z.me m == 2
  | .make _ _ => true
  | _ => false

/-! ### what is held alone -/
abbrev Own' := List Bool
def ownB (O : Own') (i : Nat) : Bool := O.getD i false
def rmO : Own' → List Nat → Own'
  | O, [] => O
  | O, i :: r => rmO (O.set i false) r
def subO (a b : Own') : Bool := (List.range a.length).all fun i => !ownB a i || ownB b i
def mkO (n : Nat) (l : List Nat) : Own' := (List.range n).map fun i => l.contains i
def andO (a b : Own') : Own' := (List.range a.length).map fun i => ownB a i && ownB b i
inductive Wn where
  | no | top | at (O : Own')
def Wn.meet : Wn → Wn → Wn
  | .no, _ => .no
  | _, .no => .no
  | .top, x => x
  | x, .top => x
  | .at a, .at b => .at (andO a b)
/-- behind the evaluation of something that gives l away, xo still stands -/
def gd (xo O : Own') (l : List Nat) (w : Own' → Wn) : Wn := if subO xo (rmO O l) then w (rmO O l) else .no
/-- .. and i is still held alone -/
def gdi (xo O : Own') (l : List Nat) (i : Nat) : Wn := gd xo O l fun O1 => if ownB O1 i then .at O1 else .no
mutual
def ownS (z : Kd) (k : Nat) (lo xo : Own') : S → Own' → Wn
  | .asg i e, O => gd xo O (lk z e) fun O1 => .at (if fresh z e then (rmO O1 [i]).set i true else rmO O1 [i])
  | .asgT is e, O => gd xo O (lk z e) fun O1 => .at (rmO O1 is)
  | .par i j a b, O => gd xo O (lk z a ++ lk z b) fun O1 => .at (rmO O1 [i, j])
  | .swp i a b c d, O => gdi xo O (lk z c ++ lk z d ++ lk z a ++ lk z b) i
  | .sti i a e, O => gdi xo O (lk z e ++ lk z a) i
  | .stf i _ e, O => gdi xo O (lk z e) i
  | .aug i _ e, O => gd xo O (lk z e) .at
  | .augi i a _ e, O => gdi xo O (lk z a ++ lk z e) i
  | .app i e, O => gdi xo O (lk z e) i
  | .ext i e, O => gdi xo O (lk z e) i
  | .pop i, O => gdi xo O [] i
  | .exp e, O => gd xo O (lk z e) .at
  | .ifs c a b, O => gd xo O (lk z c) fun O1 => (ownSs z k lo xo a O1).meet (ownSs z k lo xo b O1)
  | .whl c l b, O => if subO (mkO O.length l) O && (subO (mkO O.length l) (rmO (mkO O.length l) (lk z c)) && subO xo (mkO O.length l)) then
      (match ownSs z k (mkO O.length l) xo b (mkO O.length l) with
      | .no => .no
      | .top => .at (mkO O.length l)
      | .at O' => if subO (mkO O.length l) O' then .at (mkO O.length l) else .no) else .no
  | .forr p it l b, O => if subO (mkO O.length l) (rmO O (lkI z it)) && (p.slots.all (fun i => !l.contains i) && subO xo (mkO O.length l)) then
      (match ownSs z k (mkO O.length l) xo b (mkO O.length l) with
      | .no => .no
      | .top => .at (mkO O.length l)
      | .at O' => if subO (mkO O.length l) O' then .at (mkO O.length l) else .no) else .no
  | .ret e, O => if k == 1 then (match e with
      | .var i => if ownB O i then gd xo O [] fun _ => .top else .no
      | _ => if fresh z e then gd xo O (lk z e) fun _ => .top else .no) else gd xo O (lk z e) fun _ => .top
  | .brk, O => if subO lo O then .top else .no
  | .cnt, O => if subO lo O then .top else .no
  | .pas, O => .at O
  | .rse _, O => gd xo O [] fun _ => .top
  | .rse1 _ _, _ => .top
  | .tri l b hs, O => if subO (mkO O.length l) O && subO xo (mkO O.length l) then (ownSs z k lo (mkO O.length l) b O).meet (ownHs z k lo xo hs (mkO O.length l)) else .no
def ownSs (z : Kd) (k : Nat) (lo xo : Own') : Ss → Own' → Wn
  | .nil, O => .at O
  | .cons s ss, O => match ownS z k lo xo s O with
    | .no => .no
    | .top => .top
    | .at O' => ownSs z k lo xo ss O'
def ownHs (z : Kd) (k : Nat) (lo xo : Own') : Hs → Own' → Wn
  | .nil, _ => .top
  | .cons _ n b hs, O => (ownSs z k lo xo b (match n with
    | none => O
    | some i => rmO O [i])).meet (ownHs z k lo xo hs O)
end

/-! ### is this text of Python that small text -/
/-- a def's names, its scope; of the whole law: names of defs, classes, attributes; what is there -/
structure Zx where
  N : List Str
  sc : Scope
  kd : Kd
  fnN : Nat → Str
  clN : Nat → Str
  atN : Nat → Str
  cst : Str → Option Int
  okF : Nat → Bool
  okM : Nat → Bool
  okP : Nat → Bool
  okK : Nat → Bool
  okX : Nat → Bool
  okY : Nat → Bool
  okA : Nat → Bool
  okH : Nat → Bool
  hot : Str → Bool
def Zx.blk (z : Zx) (scope : Scope) : Zx := { z with sc := L2.relS scope z.sc, hot := fun x => scope.names.lookup x == some .cell }
def isGl (z : Zx) (x : Str) : Bool := decide (z.sc.names.lookup x = some .globalImplicit)
def isVis (z : Zx) (x : Str) : Bool := match z.sc.names.lookup x with
  | some .local => true
  | some .cell => true
  | some .free => true
  | _ => false
def isLoc (z : Zx) (x : Str) : Bool := match z.sc.names.lookup x with
  | some .local => true
  | some .cell => z.hot x
  | _ => false
def plainN (x : Str) : Bool := !(x == ("__debug__" : Str)) && !(x == ("__classdict__" : Str))
def slotIs (z : Zx) (i : Nat) (x : Str) : Bool := decide (z.N[i]? = some x)
def baseOk : Expr → Bool
  | .Call (.Name x _) [] [] _ => !(x == ("super" : Str))
  | _ => true
def opIs : BO → Operator → Bool
  | .add, .Add => true | .sub, .Sub => true | .mul, .Mult => true | .fdiv, .FloorDiv => true | .mod, .Mod => true | .pow, .Pow => true | .band, .BitAnd => true
  | _, _ => false
def coIs : CO → CmpOp → Bool
  | .eq, .Eq => true | .ne, .NotEq => true | .lt, .Lt => true | .le, .LtE => true | .gt, .Gt => true | .ge, .GtE => true | .isin, .In => true | .notin, .NotIn => true
  | _, _ => false
def constIs : Option Bool → Expr → Bool
  | none, .Constant .none _ _ => true
  | some b, .Constant (.bool c) _ _ => b == c
  | _, _ => false
def isIs : Bool → CmpOp → Bool
  | false, .Is => true
  | true, .IsNot => true
  | _, _ => false
def bfN : BF → Str
  | .len => "len" | .abs => "abs" | .int => "int" | .str => "str" | .max => "max" | .min => "min" | .sum => "sum" | .sorted => "sorted" | .list => "list" | .tuple => "tuple" | .lenset => "lenset"
def bmN : BM → Str
  | .join => "join" | .split => "split" | .rjust => "rjust" | .count => "count"
def bmOk : BM → Bool
  | .join => true
  | .split => true
  | _ => false
def tyN : Ty → Str
  | .int => "int" | .bool => "bool" | .list => "list" | .tuple => "tuple" | .str => "str"
def isNon : E → Bool
  | .non => true
  | _ => false
/-- what may stand in a handler -/
def simpE : E → Bool
  | .non => true | .bl _ => true | .int _ => true | .str _ => true | .var _ => true
  | _ => false
def simpS : S → Bool
  | .asg _ e => simpE e && !(match e with | .var _ => true | _ => false)
  | .ret e => simpE e
  | .brk => true | .cnt => true | .pas => true
  | _ => false
def simpSs : Ss → Bool
  | .nil => true
  | .cons s ss => simpS s && simpSs ss
def isOmit : E → Bool
  | .omit => true
  | _ => false
def mNames (z : Zx) : List Nat → List Expr → Bool
  | [], [] => true
  | i :: is, .Name x _ :: es => slotIs z i x && isLoc z x && mNames z is es
  | _, _ => false
def mP (z : Zx) : P → Expr → Bool
  | .nm i, .Name x _ => slotIs z i x && isLoc z x
  | .tp is, .Tuple es _ _ => mNames z is es
  | _, _ => false
def isTup : Expr → Bool
  | .Tuple _ _ _ => true
  | _ => false
def ownN (z : Zx) (is : List Nat) : List (Str × Nat) := is.filterMap fun i => (z.N[i]?).map fun x => (x, i)
mutual
def mE (z : Zx) : E → Expr → Bool
  | .var i, .Name x _ => slotIs z i x && isVis z x && plainN x
  | .non, .Constant .none _ _ => true
  | .bl b, .Constant (.bool c) _ _ => b == c
  | .int i, .Constant (.int j) _ _ => decide (i = j)
  | .str s, .Constant (.str t) _ _ => decide (Str.ofString s = t)
  | .glo _ v, .Name x _ => isGl z x && plainN x && decide (z.cst x = some v)
  | .bin o a b, .BinOp x p y _ => opIs o p && mE z a x && mE z b y
  | .neg a, .UnaryOp .USub x _ => mE z a x
  | .cmp o a b, .Compare x [p] [y] _ => coIs o p && mE z a x && mE z b y
  | .isc n a c, .Compare x [p] [y] _ => isIs n p && constIs c y && mE z a x
  | .chn o q a b c, .Compare x [p, r] [y, w] _ => coIs o p && coIs q r && mE z a x && mE z b y && mE z c w
  | .and a b, .BoolOp .And (x :: y :: r) p => mE z a x && (match r with
    | [] => mE z b y
    | _ :: _ => mE z b (.BoolOp .And (y :: r) p))
  | .or a b, .BoolOp .Or (x :: y :: r) p => mE z a x && (match r with
    | [] => mE z b y
    | _ :: _ => mE z b (.BoolOp .Or (y :: r) p))
  | .not a, .UnaryOp .Not x _ => mE z a x
  | .ite c a b, .IfExp t x y _ => mE z c t && mE z a x && mE z b y
  | .lst es, .List xs _ => decide (xs.length ≤ 1000) && mEs z es xs
  | .tup es, .Tuple xs _ _ => decide (xs.length ≤ 1000) && mEs z es xs
  | .idx a i, .Subscript x y _ => mE z a x && mE z i y
  | .slc a lo hi, .Subscript x (.Slice l h none _) _ => mE z a x && (match l with
      | none => isOmit lo
      | some l => mE z lo l) && (match h with
      | none => isOmit hi
      | some h => mE z hi h)
  | .att a f, .Attribute x s _ => decide (z.atN f = s) && z.okA f && baseOk x && mE z a x
  | .prp a f, .Attribute x s _ => decide (z.atN f = s) && baseOk x && mE z a x && z.okP f
  | .call f es, .Call (.Name x _) (y :: ys) [] _ => decide (z.fnN f = x) && z.okF f && isGl z x && plainN x && mEs z es (y :: ys)
  | .meth a m es, .Call (.Attribute x s ap) ys [] p => decide (z.atN m = s) && z.okM m && baseOk x && (ap.endLine == p.line) && decide (ys.length < 29) && mE z a x && mEs z es ys
  | .make c es, .Call (.Name x _) (y :: ys) [] _ => decide (z.clN c = x) && z.okK c && isGl z x && plainN x && mEs z es (y :: ys)
  | .blt f es, .Call (.Name x _) (y :: ys) [] _ => (match f with
      | .lenset => false
      | _ => decide (bfN f = x) && isGl z x && mEs z es (y :: ys))
  | .lsr a, .Call (.Name x _) [.Call (.Name y _) [w] [] _] [] _ => decide (x = ("list" : Str)) && decide (y = ("range" : Str)) && isGl z x && isGl z y && mE z a w
  | .bm m a es, .Call (.Attribute x s ap) (y :: ys) [] p => bmOk m && decide (bmN m = s) && baseOk x && (ap.endLine == p.line) && decide (ys.length < 28) && mE z a x && mEs z es (y :: ys)
  | .isi a t, .Call (.Name x _) [y, .Name w _] [] _ => decide (x = ("isinstance" : Str)) && isGl z x && decide (w = tyN t) && isGl z w && mE z a y
  | .cmpr x p it, .ListComp e [⟨tg, ie, [], 0⟩] sc _ => L2.blkC z.N z.sc sc (ownN z p.slots) && mI z it tg ie && mP (z.blk sc) p tg && mE (z.blk sc) x e
  | .cmpi x p it c, .ListComp e [⟨tg, ie, [ce], 0⟩] sc _ => L2.blkC z.N z.sc sc (ownN z p.slots) && mI z it tg ie && mP (z.blk sc) p tg && mE (z.blk sc) x e && mE (z.blk sc) c ce
  | _, _ => false
def mEs (z : Zx) : Es → List Expr → Bool
  | .nil, [] => true
  | .cons e es, x :: xs => mE z e x && mEs z es xs
  | _, _ => false
/-- it: what is walked, with the target tg -/
def mI (z : Zx) : I → Expr → Expr → Bool
  | .seq e, _, x => mE z e x
  | .rng1 a, _, .Call (.Name r _) [x] [] _ => decide (r = ("range" : Str)) && isGl z r && mE z a x
  | .rng2 a b, _, .Call (.Name r _) [x, y] [] _ => decide (r = ("range" : Str)) && isGl z r && mE z a x && mE z b y
  | .rng3 a b c, _, .Call (.Name r _) [x, y, w] [] _ => decide (r = ("range" : Str)) && isGl z r && mE z a x && mE z b y && mE z c w
  | .rev e, _, .Call (.Name r _) [x] [] _ => decide (r = ("reversed" : Str)) && isGl z r && mE z e x
  | .zip a b, tg, .Call (.Name r _) [x, y] [] _ => decide (r = ("zip" : Str)) && isGl z r && isTup tg && mE z a x && mE z b y
  | .enm e, tg, .Call (.Name r _) [x] [] _ => decide (r = ("enumerate" : Str)) && isGl z r && isTup tg && mE z e x
  | _, _, _ => false
end
/-- a comprehension that is swapped with the name it goes to: the name a local, not the comprehension's own -/
def nameSets (z : Zx) (x : Str) : Expr → Bool
  | .ListComp _ _ _ _ => true
  | .SetComp _ _ _ _ => false
  | .DictComp _ _ _ _ _ => false
  | _ => true
mutual
def mS (z : Zx) (cf : Bool) : S → Stmt → Bool
  | .asg i e, st => (match st with
    | .Assign [.Name x _] v _ => slotIs z i x && isLoc z x && mE z e v
    | _ => false)
  | .asgT is e, st => (match st with
    | .Assign [.Tuple ts _ _] v _ => mNames z is ts && !isTup v && mE z e v
    | _ => false)
  | .par i j a b, st => (match st with
    | .Assign [.Tuple [.Name x px, .Name y py] _ _] (.Tuple [v, w] _ _) _ => slotIs z i x && slotIs z j y && decide (i ≠ j) && decide (z.sc.names.lookup x = some .local) && decide (z.sc.names.lookup y = some .local) && (py.line == px.line) &&
      !([v, w].all (foldedForSure 8)) && !([v, w].all (constantsAlone 8)) && mE z a v && mE z b w
    | _ => false)
  | .swp i a b c d, st => (match st with
    | .Assign [.Tuple [.Subscript (.Name x _) k _, .Subscript (.Name y _) l _] _ _] (.Tuple [v, w] _ _) _ => slotIs z i x && slotIs z i y && isVis z x && plainN x && mE z c v && mE z d w && mE z a k && mE z b l
    | _ => false)
  | .sti i a e, st => (match st with
    | .Assign [.Subscript (.Name x _) k _] v _ => slotIs z i x && isVis z x && plainN x && mE z a k && mE z e v
    | _ => false)
  | .stf i f e, st => (match st with
    | .Assign [.Attribute (.Name x _) s _] v _ => slotIs z i x && isVis z x && plainN x && decide (z.atN f = s) && z.okA f && mE z e v
    | _ => false)
  | .aug i o e, st => (match st with
    | .AugAssign (.Name x _) p v _ => slotIs z i x && isLoc z x && opIs o p && mE z e v
    | _ => false)
  | .augi i a o e, st => (match st with
    | .AugAssign (.Subscript (.Name x _) k _) p v _ => slotIs z i x && isVis z x && plainN x && opIs o p && mE z a k && mE z e v
    | _ => false)
  | .app i e, st => (match st with
    | .Expr (.Call (.Attribute (.Name x _) s ap) [v] [] p) _ => slotIs z i x && isVis z x && plainN x && decide (s = ("append" : Str)) && (ap.endLine == p.line) && mE z e v
    | _ => false)
  | .ext i e, st => (match st with
    | .Expr (.Call (.Attribute (.Name x _) s ap) [v] [] p) _ => slotIs z i x && isVis z x && plainN x && decide (s = ("extend" : Str)) && (ap.endLine == p.line) && mE z e v
    | _ => false)
  | .pop i, st => (match st with
    | .Expr (.Call (.Attribute (.Name x _) s ap) [] [] p) _ => slotIs z i x && isVis z x && plainN x && decide (s = ("pop" : Str)) && (ap.endLine == p.line)
    | _ => false)
  | .exp e, st => (match st with
    | .Expr (.Call f as [] p) _ => mE z e (.Call f as [] p)
    | _ => false)
  | .ifs c a b, st => (match st with
    | .If t x y _ => mE z c t && mSs z cf a x && mSs z cf b y
    | _ => false)
  | .whl c _ b, st => (match st with
    | .While t x [] _ => mE z c t && mSs z cf b x
    | _ => false)
  | .forr p it _ b, st => (match st with
    | .For tg ie x [] _ => mI z it tg ie && mP z p tg && mSs z cf b x
    | _ => false)
  | .ret e, st => (match st with
    | .Return (some x) _ => mE z e x
    | .Return none _ => isNon e
    | _ => false)
  | .brk, st => (match st with
    | .Break _ => true
    | _ => false)
  | .cnt, st => (match st with
    | .Continue _ => true
    | _ => false)
  | .pas, st => (match st with
    | .Pass _ => true
    | _ => false)
  | .rse c, st => (match st with
    | .Raise (some (.Call (.Name x _) [.Constant (.str _) _ _] [] _)) none _ => decide (z.clN c = x) && z.okX c && isGl z x && plainN x
    | _ => false)
  | .rse1 _ _, _ => true
  | .tri _ b hs, st => (match st with
    | .Try x hds [] [] _ => mSs z cf b x && mHs z cf hs hds && (match hds with | [] => false | _ :: _ => true)
    | _ => false)
def mSs (z : Zx) (cf : Bool) : Ss → List Stmt → Bool
  | .nil, [] => true
  | .cons s ss, x :: xs => mS z cf s x && mSs z cf ss xs
  | _, _ => false
def mHs (z : Zx) (cf : Bool) : Hs → List ExceptHandler → Bool
  | .nil, [] => true
  | .cons c n b hs, .ExceptHandler (some (.Name x _)) m (s :: ss) _ :: r => decide (z.clN c = x) && z.okH c && isGl z x && plainN x && n.isNone && m.isNone && simpSs b && mSs z true b (s :: ss) && mHs z cf hs r
  | _, _ => false
end
end DL
end

section
set_option linter.all false
set_option maxRecDepth 100000
set_option maxHeartbeats 1000000
set_option Elab.async false
/-! DLr: how values in the heap stand for values without it; the state's relation. -/
namespace DL
open PySem PySem.Spec PyProof.Rows L2

/-- of a whole law: the written part, the classes' places, the attributes' names -/
structure Cn where
  K : PySem.W.Frag
  cl : Nat → Addr
  cx : Nat → Addr
  an : Nat → Str

def Ext (H H' : Hp) : Prop := ∀ a o, H a = some o → H' a = some o
theorem Ext.rfl' (H : Hp) : Ext H H := fun _ _ h => h
theorem Ext.trans {H1 H2 H3 : Hp} (a : Ext H1 H2) (b : Ext H2 H3) : Ext H1 H3 := fun x o h => b x o (a x o h)
theorem Ext.new {H : Hp} {p : Addr} {o : HO} (h : H p = none) : Ext H (upd H p o) := fun a u e => by
  rw [upd_ne (ne_of_none e h)]; exact e
theorem Ext.none {H H' : Hp} (e : Ext H H') {p : Addr} (h : H' p = none) : H p = none := by
  cases q : H p with
  | none => rfl
  | some o => rw [e p o q] at h; cases h
/-- a change at a place that the lower heap does not know -/
theorem Ext.mut {H H' : Hp} {p : Addr} {o : HO} (e : Ext H H') (h : H p = Option.none) : Ext H (upd H' p o) := fun a u q => by
  rw [upd_ne (ne_of_none q h)]; exact e a u q
theorem Ext.rd {H H' : Hp} (e : Ext H H') {a : Addr} {u : HO} (h : Rd H a u) : Rd H' a u := by
  rcases h with h | ⟨o, h⟩
  · exact .inl (e a _ h)
  · exact .inr ⟨o, e a _ h⟩
theorem Ext.sqt {K : PySem.W.Frag} {H H' : Hp} (e : Ext H H') {a : Addr} {xs : List V} (h : SqT K H a xs) : SqT K H' a xs := by
  rcases h with h | h
  · exact .inl (e.rd h)
  · exact .inr h

/-- a list: tracked, locked, or one of the module's own -/
def LsK (K : PySem.W.Frag) (H : Hp) (a : Addr) (xs : List V) : Prop :=
  Rd H a (.lst xs) ∨ ∃ (its : Array Value) (n : Nat), K.lookup a = some { cls := .type "list", data := .seq its n } ∧ its.size ≤ sizeLine ∧ Vals xs its.toList
theorem LsK.sql {K : PySem.W.Frag} {H : Hp} {a : Addr} {xs : List V} (h : LsK K H a xs) : SqL K H a xs := by
  rcases h with h | ⟨its, n, h1, h2, h3⟩
  · exact .inl h
  · exact .inr ⟨_, its, n, h1, rfl, rfl, rfl, h2, h3⟩
theorem Ext.lsk {K : PySem.W.Frag} {H H' : Hp} (e : Ext H H') {a : Addr} {xs : List V} (h : LsK K H a xs) : LsK K H' a xs := by
  rcases h with h | h
  · exact .inl (e.rd h)
  · exact .inr h
mutual
inductive Rep (C : Cn) (S : Hp) : V → D → Prop
  | non : Rep C S .non .non
  | bl (b : Bool) : Rep C S (.bl b) (.bl b)
  | int (i : Int) : Rep C S (.int i) (.int i)
  | str (x : Str) : Rep C S (.str x) (.str x)
  | lst {a : Addr} {vs : List V} {ds : List D} : LsK C.K S a vs → Reps C S vs ds → Rep C S (.ref a) (.lst ds)
  | tup {a : Addr} {vs : List V} {ds : List D} : SqT C.K S a vs → Reps C S vs ds → Rep C S (.ref a) (.tup ds)
  | obj {a dx : Addr} {c : Nat} {vs : List (Str × V)} {fs : List (Nat × D)} : S a = some (.ins (C.cl c) dx vs) → RepF C S vs fs → Rep C S (.ref a) (.obj c fs)
inductive Reps (C : Cn) (S : Hp) : List V → List D → Prop
  | nil : Reps C S [] []
  | cons {v : V} {vs : List V} {d : D} {ds : List D} : Rep C S v d → Reps C S vs ds → Reps C S (v :: vs) (d :: ds)
inductive RepF (C : Cn) (S : Hp) : List (Str × V) → List (Nat × D) → Prop
  | nil : RepF C S [] []
  | cons {f : Nat} {v : V} {vs : List (Str × V)} {d : D} {fs : List (Nat × D)} : Rep C S v d → RepF C S vs fs → RepF C S ((C.an f, v) :: vs) ((f, d) :: fs)
end

section
variable {C : Cn} {S S' : Hp}
mutual
theorem Rep.mono (e : Ext S S') {v : V} {d : D} (h : Rep C S v d) : Rep C S' v d :=
  match h with
  | .non => .non
  | .bl b => .bl b
  | .int i => .int i
  | .str x => .str x
  | .lst r rs => .lst (e.lsk r) (Reps.mono e rs)
  | .tup r rs => .tup (e.sqt r) (Reps.mono e rs)
  | .obj r rs => .obj (e _ _ r) (RepF.mono e rs)
theorem Reps.mono (e : Ext S S') {vs : List V} {ds : List D} (h : Reps C S vs ds) : Reps C S' vs ds :=
  match h with
  | .nil => .nil
  | .cons r rs => .cons (Rep.mono e r) (Reps.mono e rs)
theorem RepF.mono (e : Ext S S') {vs : List (Str × V)} {fs : List (Nat × D)} (h : RepF C S vs fs) : RepF C S' vs fs :=
  match h with
  | .nil => .nil
  | .cons r rs => .cons (Rep.mono e r) (RepF.mono e rs)
end
theorem Reps.length : ∀ {vs : List V} {ds : List D}, Reps C S vs ds → vs.length = ds.length
  | _, _, .nil => rfl
  | _, _, .cons _ rs => congrArg Nat.succ (Reps.length rs)
theorem Reps.get : ∀ {vs : List V} {ds : List D} {i : Nat} {v : V}, Reps C S vs ds → vs[i]? = some v → ∃ d, ds[i]? = some d ∧ Rep C S v d
  | _, _, _, _, .nil, h => by simp at h
  | _, _, 0, _, .cons r _, h => by simp at h; subst h; exact ⟨_, rfl, r⟩
  | _, _, i + 1, v, .cons _ rs, h => by
    obtain ⟨d, h1, h2⟩ := Reps.get (i := i) (v := v) rs (by simpa using h)
    exact ⟨d, by simpa using h1, h2⟩
theorem Reps.get' : ∀ {vs : List V} {ds : List D} {i : Nat} {d : D}, Reps C S vs ds → ds[i]? = some d → ∃ v, vs[i]? = some v ∧ Rep C S v d
  | _, _, _, _, .nil, h => by simp at h
  | _, _, 0, _, .cons r _, h => by simp at h; subst h; exact ⟨_, rfl, r⟩
  | _, _, i + 1, v, .cons _ rs, h => by
    obtain ⟨d, h1, h2⟩ := Reps.get' (i := i) (d := v) rs (by simpa using h)
    exact ⟨d, by simpa using h1, h2⟩
theorem Reps.append : ∀ {vs ws : List V} {ds es : List D}, Reps C S vs ds → Reps C S ws es → Reps C S (vs ++ ws) (ds ++ es)
  | _, _, _, _, .nil, s => s
  | _, _, _, _, .cons r rs, s => .cons r (Reps.append rs s)
theorem Reps.set {v : V} {d : D} (r : Rep C S v d) : ∀ {vs : List V} {ds : List D} (i : Nat), Reps C S vs ds → Reps C S (vs.set i v) (ds.set i d)
  | _, _, _, .nil => .nil
  | _, _, 0, .cons _ rs => .cons r rs
  | _, _, i + 1, .cons q rs => .cons q (Reps.set r i rs)
theorem Reps.drop : ∀ {vs : List V} {ds : List D} (n : Nat), Reps C S vs ds → Reps C S (vs.drop n) (ds.drop n)
  | _, _, 0, r => r
  | _, _, _ + 1, .nil => .nil
  | _, _, n + 1, .cons _ rs => Reps.drop n rs
theorem Reps.take : ∀ {vs : List V} {ds : List D} (n : Nat), Reps C S vs ds → Reps C S (vs.take n) (ds.take n)
  | _, _, 0, _ => .nil
  | _, _, _ + 1, .nil => .nil
  | _, _, n + 1, .cons r rs => .cons r (Reps.take n rs)
theorem Reps.dropLast {vs : List V} {ds : List D} (r : Reps C S vs ds) : Reps C S vs.dropLast ds.dropLast := by
  rw [List.dropLast_eq_take, List.dropLast_eq_take, r.length]; exact r.take _
theorem Reps.reverse : ∀ {vs : List V} {ds : List D}, Reps C S vs ds → Reps C S vs.reverse ds.reverse
  | _, _, .nil => .nil
  | _, _, .cons r rs => by rw [List.reverse_cons, List.reverse_cons]; exact Reps.append (Reps.reverse rs) (.cons r .nil)
theorem Reps.rep {vs : List V} {ds : List D} (r : Reps C S vs ds) : ∀ k : Nat, Reps C S (List.replicate k vs).flatten (List.replicate k ds).flatten
  | 0 => .nil
  | k + 1 => by rw [List.replicate_succ, List.replicate_succ, List.flatten_cons, List.flatten_cons]; exact Reps.append r (Reps.rep r k)
theorem Reps.ints : ∀ {vs : List V} {ds : List D} {ns : List Int}, Reps C S vs ds → intsOf ds = some ns → vs = ns.map V.int
  | _, _, ns, .nil, h => by cases h; rfl
  | _, _, ns, .cons (d := d) r rs, h => by
    cases r with
    | int i =>
      unfold intsOf at h
      obtain ⟨ms, h1, rfl⟩ := Option.map_eq_some_iff.mp h
      rw [Reps.ints rs h1]; rfl
    | _ => cases h
theorem Reps.strs : ∀ {vs : List V} {ds : List D} {ns : List Str}, Reps C S vs ds → strsOf ds = some ns → vs = ns.map V.str
  | _, _, ns, .nil, h => by cases h; rfl
  | _, _, ns, .cons (d := d) r rs, h => by
    cases r with
    | str i =>
      unfold strsOf at h
      obtain ⟨ms, h1, rfl⟩ := Option.map_eq_some_iff.mp h
      rw [Reps.strs rs h1]; rfl
    | _ => cases h
theorem Rep.sc {v : V} {d : D} (h : Rep C S v d) (hs : isSc d = true) : Rep C S' v d := by
  cases h with
  | non => exact .non
  | bl b => exact .bl b
  | int i => exact .int i
  | str x => exact .str x
  | _ => cases hs
end

/-! ### the state -/
abbrev Own := List Bool
def own (O : Own) (i : Nat) : Bool := O.getD i false
/-- a list or an object that a slot holds alone -/
def isMu : D → Bool
  | .lst _ => true
  | .obj _ _ => true
  | _ => false
/-- held alone: it stands in H, neither in S nor in B -/
def Alone (C : Cn) (B S H : Hp) (l : Addr) (d : D) : Prop :=
  S l = none ∧ B l = none ∧ match d with
    | .lst ds => ∃ vs, H l = some (.lst vs) ∧ Reps C S vs ds
    | .obj c fs => ∃ dx vs, H l = some (.ins (C.cl c) dx vs) ∧ RepF C S vs fs
    | _ => False
def SlotOk (C : Cn) (B S H : Hp) (o : Bool) (v : V) (d : D) : Prop :=
  (o = true ∧ isMu d = true ∧ ∃ l, v = .ref l ∧ Alone C B S H l d) ∨ ((o = true → isMu d = false) ∧ Rep C S v d)
/-- the slot i holds the thing at l alone -/
def Holds (O : Own) (st : St) (σ : L2.St) (i : Nat) (l : Addr) : Prop := own O i = true ∧ σ[i]? = some (some (.ref l)) ∧ ∃ d, st[i]? = some (some d) ∧ isMu d = true
structure Rel (C : Cn) (B S0 S : Hp) (O : Own) (st : St) (σ : L2.St) (H : Hp) : Prop where
  bh : Ext B H
  s0 : Ext S0 S
  sh : Ext S H
  nw : ∀ a, S a ≠ none → S0 a ≠ none ∨ B a = none
  len : σ.length = st.length
  slot : ∀ i d, st[i]? = some (some d) → ∃ v, σ[i]? = some (some v) ∧ SlotOk C B S H (own O i) v d
  dj : ∀ i j l, Holds O st σ i l → Holds O st σ j l → i = j

section
variable {C : Cn} {B S0 S S' H H' : Hp} {O O' : Own} {st st' : St} {σ σ' : L2.St}
theorem Alone.mono {l : Addr} {d : D} (h : Alone C B S H l d) (e : Ext S S') (h' : Ext H H') (n : S' l = none) : Alone C B S' H' l d := by
  obtain ⟨h1, h2, h3⟩ := h
  refine ⟨n, h2, ?_⟩
  cases d with
  | lst ds => obtain ⟨vs, a, b⟩ := h3; exact ⟨vs, h' _ _ a, b.mono e⟩
  | obj c fs => obtain ⟨dx, vs, a, b⟩ := h3; exact ⟨dx, vs, h' _ _ a, b.mono e⟩
  | _ => exact h3
theorem Alone.there {l : Addr} {d : D} (h : Alone C B S H l d) : H l ≠ none := by
  obtain ⟨h1, h2, h3⟩ := h
  cases d with
  | lst ds => obtain ⟨vs, a, b⟩ := h3; rw [a]; simp
  | obj c fs => obtain ⟨dx, vs, a, b⟩ := h3; rw [a]; simp
  | _ => exact h3.elim
theorem Alone.mu {l : Addr} {d : D} (h : Alone C B S H l d) : isMu d = true := by
  obtain ⟨h1, h2, h3⟩ := h
  cases d with
  | lst ds => rfl
  | obj c fs => rfl
  | _ => exact h3.elim
theorem Rel.alone (R : Rel C B S0 S O st σ H) {i : Nat} {l : Addr} (h : Holds O st σ i l) : ∃ d, st[i]? = some (some d) ∧ Alone C B S H l d := by
  obtain ⟨h1, h2, d, h3, h4⟩ := h
  obtain ⟨v, hv, hs⟩ := R.slot i d h3
  rw [h2] at hv; cases hv
  rcases hs with ⟨_, _, l', e, a⟩ | ⟨n, _⟩
  · cases e; exact ⟨d, h3, a⟩
  · rw [n h1] at h4; cases h4
/-- a step: the stable part grows by what is new (to H), the heap grows -/
theorem Rel.grow (R : Rel C B S0 S O st σ H) (e : Ext S S') (h : Ext H H') (sh : Ext S' H') (nw : ∀ a, S' a ≠ none → S a ≠ none ∨ H a = none) : Rel C B S0 S' O st σ H' := by
  refine ⟨R.bh.trans h, R.s0.trans e, sh, fun a ha => ?_, R.len, fun i d hd => ?_, R.dj⟩
  · rcases nw a ha with q | q
    · exact R.nw a q
    · exact .inr (R.bh.none q)
  · obtain ⟨v, hv, hs⟩ := R.slot i d hd
    refine ⟨v, hv, ?_⟩
    rcases hs with ⟨o, m, l, e1, a⟩ | ⟨n, r⟩
    · refine .inl ⟨o, m, l, e1, a.mono e h ?_⟩
      cases q : S' l with
      | none => rfl
      | some u =>
        rcases nw l (by rw [q]; simp) with z | z
        · exact absurd a.1 z
        · exact absurd z a.there
    · exact .inr ⟨n, r.mono e⟩
/-- the heap alone grows -/
theorem Rel.heap (R : Rel C B S0 S O st σ H) (h : Ext H H') : Rel C B S0 S O st σ H' :=
  R.grow (Ext.rfl' S) h (R.sh.trans h) fun a ha => .inl ha
/-- a new thing is laid, and it stands still -/
theorem Rel.laid (R : Rel C B S0 S O st σ H) {p : Addr} {o : HO} (n : H p = none) : Rel C B S0 (upd S p o) O st σ (upd H p o) := by
  have ns : S p = none := R.sh.none n
  refine R.grow (Ext.new ns) (Ext.new n) (fun a u q => ?_) fun a ha => ?_
  · by_cases e : a = p
    · subst e; rw [upd_same] at q ⊢; exact q
    · rw [upd_ne e] at q ⊢; exact R.sh a u q
  · by_cases e : a = p
    · subst e; exact .inr n
    · rw [upd_ne e] at ha; exact .inl ha
open Classical in
noncomputable def still (O O' : Own) (st : St) (σ : L2.St) (S H : Hp) : Hp := fun a =>
  if (∃ i, Holds O st σ i a ∧ own O' i = false) then H a else S a
theorem still_in {i : Nat} {a : Addr} (h : Holds O st σ i a) (h' : own O' i = false) : still O O' st σ S H a = H a := by
  unfold still; exact if_pos ⟨i, h, h'⟩
theorem Rel.freeze (R : Rel C B S0 S O st σ H) (O' : Own) (hO : ∀ i, own O' i = true → own O i = true) : ∃ S', Ext S S' ∧ Rel C B S0 S' O' st σ H ∧ (∀ a, S' a ≠ none → S a ≠ none ∨ ∃ i, Holds O st σ i a ∧ own O' i = false) := by
  have hx : Ext S (still O O' st σ S H) := fun a o q => by
    unfold still
    by_cases z : ∃ i, Holds O st σ i a ∧ own O' i = false
    · obtain ⟨i, h, _⟩ := z
      obtain ⟨d, _, al⟩ := R.alone h
      rw [al.1] at q; cases q
    · rw [if_neg z]; exact q
  have hs : ∀ a, still O O' st σ S H a ≠ none → S a ≠ none ∨ ∃ i, Holds O st σ i a ∧ own O' i = false := fun a ha => by
    unfold still at ha
    by_cases z : ∃ i, Holds O st σ i a ∧ own O' i = false
    · exact .inr z
    · rw [if_neg z] at ha; exact .inl ha
  refine ⟨still O O' st σ S H, hx, ⟨R.bh, R.s0.trans hx, fun a o q => ?_, fun a ha => ?_, R.len, fun i d hd => ?_, fun i j l h1 h2 => R.dj i j l ⟨hO _ h1.1, h1.2⟩ ⟨hO _ h2.1, h2.2⟩⟩, hs⟩
  · unfold still at q
    by_cases z : ∃ i, Holds O st σ i a ∧ own O' i = false
    · rw [if_pos z] at q; exact q
    · rw [if_neg z] at q; exact R.sh a o q
  · rcases hs a ha with q | ⟨i, h, _⟩
    · exact R.nw a q
    · obtain ⟨d, _, al⟩ := R.alone h
      exact .inr al.2.1
  · obtain ⟨v, hv, hs2⟩ := R.slot i d hd
    refine ⟨v, hv, ?_⟩
    rcases hs2 with ⟨o, m, l, e1, al⟩ | ⟨n, r⟩
    · cases q : own O' i with
      | true =>
        refine .inl ⟨rfl, m, l, e1, al.mono hx (Ext.rfl' H) ?_⟩
        unfold still
        refine (if_neg ?_).trans al.1
        rintro ⟨j, hj, hj'⟩
        have e := R.dj i j l ⟨o, by rw [hv, e1], d, hd, m⟩ hj
        subst e
        rw [q] at hj'; cases hj'
      | false =>
        refine .inr ⟨fun z => (nomatch z), ?_⟩
        have hl : still O O' st σ S H l = H l := still_in (i := i) ⟨o, by rw [hv, e1], d, hd, m⟩ q
        subst e1
        obtain ⟨_, _, al3⟩ := al
        cases d with
        | lst ds => obtain ⟨vs, a1, b1⟩ := al3; exact .lst (.inl (.inl (hl.trans a1))) (b1.mono hx)
        | obj c fs => obtain ⟨dx, vs, a1, b1⟩ := al3; exact .obj (hl.trans a1) (b1.mono hx)
        | _ => exact al3.elim
    · exact .inr ⟨fun z => n (hO _ z), r.mono hx⟩
end
end DL
end

section
set_option linter.all false
set_option maxRecDepth 100000
set_option maxHeartbeats 1000000
set_option Elab.async false
/-! DLs: what the evaluator gives, the machine gives: expressions. -/
namespace DL
open PySem PySem.Spec PyProof.Rows L2

/-! ### what may be borrowed: a list or an object as it stands now -/
def Bor (C : Cn) (S H : Hp) (v : V) (d : D) : Prop := Rep C S v d ∨ ∃ l, v = .ref l ∧ match d with
  | .lst ds => ∃ vs, H l = some (.lst vs) ∧ Reps C S vs ds
  | .obj c fs => ∃ dx vs, H l = some (.ins (C.cl c) dx vs) ∧ RepF C S vs fs
  | _ => False
/-- a value that is new, or stands still -/
def RepX (C : Cn) (B S H : Hp) (O : Own) (st : St) (σ : L2.St) (fr : Bool) (v : V) (d : D) : Prop :=
  SlotOk C B S H fr v d ∧ (fr = true → isMu d = true → ∀ i l, v = .ref l → ¬ Holds O st σ i l)
section
variable {C : Cn} {B S S' H H' : Hp} {O : Own} {st : St} {σ : L2.St} {v : V} {d : D} {fr : Bool}
theorem Bor.mono (h : Bor C S H v d) (e : Ext S S') (h' : Ext H H') : Bor C S' H' v d := by
  rcases h with h | ⟨l, e1, h⟩
  · exact .inl (h.mono e)
  · refine .inr ⟨l, e1, ?_⟩
    cases d with
    | lst ds => obtain ⟨vs, a, b⟩ := h; exact ⟨vs, h' _ _ a, b.mono e⟩
    | obj c fs => obtain ⟨dx, vs, a, b⟩ := h; exact ⟨dx, vs, h' _ _ a, b.mono e⟩
    | _ => exact h
theorem SlotOk.bor (h : SlotOk C B S H fr v d) : Bor C S H v d := by
  rcases h with ⟨_, _, l, e, a⟩ | ⟨_, r⟩
  · exact .inr ⟨l, e, a.2.2⟩
  · exact .inl r
theorem Bor.lst {ds : List D} (h : Bor C S H v (.lst ds)) (e : Ext S H) : ∃ a vs, v = .ref a ∧ LsK C.K H a vs ∧ Reps C S vs ds := by
  rcases h with h | ⟨l, e1, vs, a, b⟩
  · cases h with
    | lst r rs => exact ⟨_, _, rfl, e.lsk r, rs⟩
  · exact ⟨l, vs, e1, .inl (.inl a), b⟩
theorem Bor.tup {ds : List D} (h : Bor C S H v (.tup ds)) (e : Ext S H) : ∃ a vs, v = .ref a ∧ SqT C.K H a vs ∧ Reps C S vs ds := by
  rcases h with h | ⟨l, e1, h⟩
  · cases h with
    | tup r rs => exact ⟨_, _, rfl, e.sqt r, rs⟩
  · exact h.elim
theorem Bor.obj {c : Nat} {fs : List (Nat × D)} (h : Bor C S H v (.obj c fs)) (e : Ext S H) : ∃ a dx vs, v = .ref a ∧ H a = some (.ins (C.cl c) dx vs) ∧ RepF C S vs fs := by
  rcases h with h | ⟨l, e1, dx, vs, a, b⟩
  · cases h with
    | obj r rs => exact ⟨_, _, _, rfl, e _ _ r, rs⟩
  · exact ⟨l, dx, vs, e1, a, b⟩
theorem Bor.int {i : Int} (h : Bor C S H v (.int i)) : v = .int i := by
  rcases h with h | ⟨l, e1, h⟩
  · cases h; rfl
  · exact h.elim
theorem Bor.bl {b : Bool} (h : Bor C S H v (.bl b)) : v = .bl b := by
  rcases h with h | ⟨l, e1, h⟩
  · cases h; rfl
  · exact h.elim
theorem Bor.str {x : Str} (h : Bor C S H v (.str x)) : v = .str x := by
  rcases h with h | ⟨l, e1, h⟩
  · cases h; rfl
  · exact h.elim
theorem Bor.non (h : Bor C S H v .non) : v = .non := by
  rcases h with h | ⟨l, e1, h⟩
  · cases h; rfl
  · exact h.elim
theorem Rep.bl' {b : Bool} (h : Rep C S v (.bl b)) : v = .bl b := by cases h; rfl
theorem Rep.int' {b : Int} (h : Rep C S v (.int b)) : v = .int b := by cases h; rfl
theorem isMu_sc (h : isSc d = true) : isMu d = false := by cases d <;> first | rfl | cases h
theorem RepX.sc (h : isSc d = true) (r : Rep C S v d) : RepX C B S H O st σ fr v d :=
  ⟨.inr ⟨fun _ => isMu_sc h, r⟩, fun _ z => by rw [isMu_sc h] at z; cases z⟩
theorem RepX.still (r : Rep C S v d) : RepX C B S H O st σ false v d := ⟨.inr ⟨fun z => (nomatch z), r⟩, fun z => nomatch z⟩
theorem RepX.imm (n : isMu d = false) (r : Rep C S v d) : RepX C B S H O st σ fr v d := ⟨.inr ⟨fun _ => n, r⟩, fun _ z => by rw [n] at z; cases z⟩
theorem RepX.bor (h : RepX C B S H O st σ fr v d) : Bor C S H v d := h.1.bor
end

/-! ### an exception's own dict -/
def XRep (C : Cn) (S H : Hp) (dx : Option Addr) (fs : List (Nat × D)) : Prop := match dx with
  | none => fs = []
  | some d => ∃ vs, H d = some (.xd vs) ∧ RepF C S vs fs

/-! ### readings -/
abbrev Pv := St → L2.St → Hp → Hp → V → D → Prop
def pF (C : Cn) : Pv := fun _ _ S _ v d => Rep C S v d
def pB (C : Cn) : Pv := fun _ _ S H v d => Bor C S H v d
def pX (C : Cn) (B : Hp) (O : Own) (fr : Bool) : Pv := fun st σ S H v d => RepX C B S H O st σ fr v d
/-- it holds on, as the heaps grow -/
def Pv.Grows (P : Pv) : Prop := ∀ st σ S S' H H' v d, Ext S S' → Ext H H' → P st σ S H v d → P st σ S' H' v d
theorem pF_grows {C : Cn} : (pF C).Grows := fun _ _ _ _ _ _ _ _ e _ h => Rep.mono e h
theorem pB_grows {C : Cn} : (pB C).Grows := fun _ _ _ _ _ _ _ _ e h' h => Bor.mono h e h'

/-- one run of a def: what must not change, what stands still at its start, the wish about exceptions -/
structure Rn where
  C : Cn
  B : Hp
  S0 : Hp
  W : WX
variable {ρ : Rn} {T : Tb}
/-- what follows a result -/
def Kt (ρ : Rn) (O : Own) (st : St) (σ : L2.St) (P : Pv) (S H : Hp) (Q : VK) : R → Prop
  | .ok d => ∀ S' v H', Ext S S' → Ext H H' → Rel ρ.C ρ.B ρ.S0 S' O st σ H' → P st σ S' H' v d → Q v H'
  | .er c fs => ∀ S' H' dx, Ext S S' → Ext H H' → Rel ρ.C ρ.B ρ.S0 S' O st σ H' → XRep ρ.C S' H' dx fs → ρ.W (.ref (ρ.C.cx c)) dx σ H'
  | .bad => False
theorem Kt.mono {O : Own} {st : St} {σ : L2.St} {P : Pv} {S S1 H H1 : Hp} {Q : VK} {r : R} (h : Kt ρ O st σ P S H Q r) (e : Ext S S1) (h' : Ext H H1) : Kt ρ O st σ P S1 H1 Q r := by
  cases r with
  | ok d => exact fun S' v H' a b R p => h S' v H' (e.trans a) (h'.trans b) R p
  | er c fs => exact fun S' H' dx a b R p => h S' H' dx (e.trans a) (h'.trans b) R p
  | bad => exact h
theorem Kt.imp {O : Own} {st : St} {σ : L2.St} {P P' : Pv} {S H : Hp} {Q Q' : VK} {r : R} (h : Kt ρ O st σ P S H Q r)
    (hp : ∀ S' v H' d, r = .ok d → Ext S S' → Ext H H' → Rel ρ.C ρ.B ρ.S0 S' O st σ H' → P' st σ S' H' v d → (∃ S2, Ext S' S2 ∧ Rel ρ.C ρ.B ρ.S0 S2 O st σ H' ∧ P st σ S2 H' v d)) (hq : ∀ v H', Q v H' → Q' v H') : Kt ρ O st σ P' S H Q' r := by
  cases r with
  | ok d =>
    intro S' v H' a b R p
    obtain ⟨S2, e2, R2, p2⟩ := hp S' v H' d rfl a b R p
    exact hq _ _ (h S2 v H' (a.trans e2) b R2 p2)
  | er c fs => exact h
  | bad => exact h
/-- an expression's reading: the small text m, its value as P says -/
def tG (ρ : Rn) (T : Tb) (O : Own) (m : E) (P : Pv) : TE := fun σ H Q => ∃ S st, Rel ρ.C ρ.B ρ.S0 S O st σ H ∧ Kt ρ O st σ P S H Q (evE T m st)
def tGT (ρ : Rn) (T : Tb) (O : Own) (m : E) : TT := fun σ H Q => ∃ S st, Rel ρ.C ρ.B ρ.S0 S O st σ H ∧ (match evE T m st with
  | .ok (.bl b) => ∀ S' H', Ext S S' → Ext H H' → Rel ρ.C ρ.B ρ.S0 S' O st σ H' → Q b H'
  | .ok _ => False
  | .er c fs => ∀ S' H' dx, Ext S S' → Ext H H' → Rel ρ.C ρ.B ρ.S0 S' O st σ H' → XRep ρ.C S' H' dx fs → ρ.W (.ref (ρ.C.cx c)) dx σ H'
  | .bad => False)
/-- .. of an argument list -/
def KtL (ρ : Rn) (O : Own) (st : St) (σ : L2.St) (P : Hp → Hp → List V → List D → Prop) (S H : Hp) (Q : List V → Hp → Prop) : RL → Prop
  | .ok d => ∀ S' v H', Ext S S' → Ext H H' → Rel ρ.C ρ.B ρ.S0 S' O st σ H' → P S' H' v d → Q v H'
  | .er c fs => ∀ S' H' dx, Ext S S' → Ext H H' → Rel ρ.C ρ.B ρ.S0 S' O st σ H' → XRep ρ.C S' H' dx fs → ρ.W (.ref (ρ.C.cx c)) dx σ H'
  | .bad => False
theorem KtL.mono {O : Own} {st : St} {σ : L2.St} {P : Hp → Hp → List V → List D → Prop} {S S1 H H1 : Hp} {Q : List V → Hp → Prop} {r : RL} (h : KtL ρ O st σ P S H Q r) (e : Ext S S1) (h' : Ext H H1) : KtL ρ O st σ P S1 H1 Q r := by
  cases r with
  | ok d => exact fun S' v H' a b R p => h S' v H' (e.trans a) (h'.trans b) R p
  | er c fs => exact fun S' H' dx a b R p => h S' H' dx (e.trans a) (h'.trans b) R p
  | bad => exact h
inductive Bors (C : Cn) (S H : Hp) : List V → List D → Prop
  | nil : Bors C S H [] []
  | cons {v : V} {vs : List V} {d : D} {ds : List D} : Bor C S H v d → Bors C S H vs ds → Bors C S H (v :: vs) (d :: ds)
theorem Bors.mono {C : Cn} {S S' H H' : Hp} (e : Ext S S') (h' : Ext H H') : ∀ {vs : List V} {ds : List D}, Bors C S H vs ds → Bors C S' H' vs ds
  | _, _, .nil => .nil
  | _, _, .cons r rs => .cons (r.mono e h') (Bors.mono e h' rs)
def tGL (ρ : Rn) (T : Tb) (O : Own) (es : Es) (P : Hp → Hp → List V → List D → Prop) : TA := fun σ H Q => ∃ S st, Rel ρ.C ρ.B ρ.S0 S O st σ H ∧ KtL ρ O st σ P S H Q (evEs T es st)

section
variable {O : Own} {P Pa Pb : Pv} {σ : L2.St} {H : Hp} {Q : VK} {m a b : E}
theorem PEof {X : Cx} {e : Expr} {t t' : TE} (h : PE X e t') (i : ∀ σ H Q, t σ H Q → t' σ H Q) : PE X e t := ⟨fun pins s σ H Q I q => h.run pins s σ H Q I (i σ H Q q)⟩
theorem PTof {X : Cx} {e : Expr} {t t' : TT} (h : PT X e t') (i : ∀ σ H Q, t σ H Q → t' σ H Q) : PT X e t := ⟨fun pins s σ H Q I q => h.run pins s σ H Q I (i σ H Q q)⟩
theorem PWof {X : Cx} {e : Expr} {t t' : TT} (h : PW X e t') (i : ∀ σ H Q, t σ H Q → t' σ H Q) : PW X e t := ⟨fun w pins s σ H Q I q => h.run w pins s σ H Q I (i σ H Q q)⟩
theorem PAof {X : Cx} {es : List Expr} {t t' : TA} (h : PA X es t') (i : ∀ σ H Q, t σ H Q → t' σ H Q) : PA X es t := ⟨fun pos pins s σ H Q I q => h.run pos pins s σ H Q I (i σ H Q q)⟩
/-- one operand -/
theorem un_r {f : D → R} {r : V → Hp → Prop} (hm : ∀ st, evE T m st = (evE T a st).bind f) (h : tG ρ T O m P σ H Q)
    (k : ∀ st S' H' x dx, Rel ρ.C ρ.B ρ.S0 S' O st σ H' → Pa st σ S' H' x dx → Kt ρ O st σ P S' H' Q (f dx) → r x H') : tG ρ T O a Pa σ H r := by
  obtain ⟨S, st, R, q⟩ := h
  refine ⟨S, st, R, ?_⟩
  rw [hm] at q
  cases e : evE T a st with
  | ok d =>
    rw [e] at q
    exact fun S' v H' a1 a2 R' p => k st S' H' v d R' p (Kt.mono q a1 a2)
  | er c fs => rw [e] at q; exact q
  | bad => rw [e] at q; exact q
/-- two operands, from the left -/
theorem bin_r {f : D → D → R} {r : V → V → Hp → Prop} (ga : Pa.Grows) (hm : ∀ st, evE T m st = (evE T a st).bind fun x => (evE T b st).bind fun y => f x y) (h : tG ρ T O m P σ H Q)
    (k : ∀ st S' H' x y dx dy, Rel ρ.C ρ.B ρ.S0 S' O st σ H' → Pa st σ S' H' x dx → Pb st σ S' H' y dy → Kt ρ O st σ P S' H' Q (f dx dy) → r x y H') :
    tG ρ T O a Pa σ H fun x H1 => tG ρ T O b Pb σ H1 fun y H2 => r x y H2 := by
  obtain ⟨S, st, R, q⟩ := h
  refine ⟨S, st, R, ?_⟩
  rw [hm] at q
  cases e : evE T a st with
  | ok d =>
    rw [e] at q
    refine fun S' v H' a1 a2 R' p => ⟨S', st, R', ?_⟩
    have q : Kt ρ O st σ P S H Q ((evE T b st).bind fun y => f d y) := q
    cases e2 : evE T b st with
    | ok d2 =>
      rw [e2] at q
      exact fun S2 v2 H2 b1 b2 R2 p2 => k st S2 H2 v v2 d d2 R2 (ga _ _ _ _ _ _ _ _ b1 b2 p) p2 (Kt.mono q (a1.trans b1) (a2.trans b2))
    | er c fs => rw [e2] at q; exact Kt.mono (r := .er c fs) (P := Pb) (Q := fun _ _ => True) (S := S) (H := H) q a1 a2
    | bad => rw [e2] at q; exact q
  | er c fs => rw [e] at q; exact q
  | bad => rw [e] at q; exact q
end

/-- what is new and held by nobody else, made to stand still -/
theorem Rel.stand {C : Cn} {B S0 S H : Hp} {O : Own} {st : St} {σ : L2.St} {fr : Bool} {v : V} {d : D} (R : Rel C B S0 S O st σ H) (h : RepX C B S H O st σ fr v d) :
    ∃ S2, Ext S S2 ∧ Rel C B S0 S2 O st σ H ∧ Rep C S2 v d := by
  obtain ⟨h1, h2⟩ := h
  rcases h1 with ⟨hf, m, l, e, al⟩ | ⟨_, r⟩
  · obtain ⟨o, ho⟩ : ∃ o, H l = some o := by
      cases q : H l with
      | none => exact absurd q al.there
      | some o => exact ⟨o, rfl⟩
    have nh := fun i => h2 hf m i l e
    have x1 : Ext S (upd S l o) := Ext.new al.1
    refine ⟨upd S l o, x1, ⟨R.bh, R.s0.trans x1, fun a u q => ?_, fun a ha => ?_, R.len, fun i d' hd => ?_, R.dj⟩, ?_⟩
    · by_cases z : a = l
      · subst z; rw [upd_same] at q; rw [ho]; exact q
      · rw [upd_ne z] at q; exact R.sh a u q
    · by_cases z : a = l
      · subst z; exact .inr al.2.1
      · rw [upd_ne z] at ha; exact R.nw a ha
    · obtain ⟨w, hw, hs⟩ := R.slot i d' hd
      refine ⟨w, hw, ?_⟩
      rcases hs with ⟨o1, m1, l1, e1, a1⟩ | ⟨n, r⟩
      · refine .inl ⟨o1, m1, l1, e1, a1.mono x1 (Ext.rfl' H) ?_⟩
        rw [upd_ne]
        · exact a1.1
        · rintro rfl
          exact nh i ⟨o1, by rw [hw, e1], d', hd, m1⟩
      · exact .inr ⟨n, r.mono x1⟩
    · subst e
      obtain ⟨_, _, a3⟩ := al
      cases d with
      | lst ds =>
        obtain ⟨vs, q1, q2⟩ := a3
        rw [ho] at q1; cases q1
        exact .lst (.inl (.inl upd_same)) (q2.mono x1)
      | obj c fs =>
        obtain ⟨dx, vs, q1, q2⟩ := a3
        rw [ho] at q1; cases q1
        exact .obj upd_same (q2.mono x1)
      | _ => exact a3.elim
  · exact ⟨S, Ext.rfl' S, R, r⟩

section
variable {O : Own} {σ : L2.St} {H : Hp} {Q : VK} {m a b : E} {X : Cx} {e : Expr} {fr : Bool}
theorem PEb (h : PE X e (tG ρ T O m (pX ρ.C ρ.B O fr))) : PE X e (tG ρ T O m (pB ρ.C)) :=
  PEof h fun σ H Q ⟨S, st, R, q⟩ => ⟨S, st, R, Kt.imp q (fun S' v H' d _ _ _ R' p => ⟨S', Ext.rfl' S', R', p.bor⟩) fun _ _ z => z⟩
theorem PEf (h : PE X e (tG ρ T O m (pX ρ.C ρ.B O fr))) : PE X e (tG ρ T O m (pF ρ.C)) :=
  PEof h fun σ H Q ⟨S, st, R, q⟩ => ⟨S, st, R, Kt.imp q (fun S' v H' d _ _ _ R' p => R'.stand p) fun _ _ z => z⟩
theorem PEx (h : PE X e (tG ρ T O m (pF ρ.C))) : PE X e (tG ρ T O m (pX ρ.C ρ.B O false)) :=
  PEof h fun σ H Q ⟨S, st, R, q⟩ => ⟨S, st, R, Kt.imp q (fun S' v H' d _ _ _ R' p => ⟨S', Ext.rfl' S', R', RepX.still p⟩) fun _ _ z => z⟩
/-- a test: the value is a truth value -/
theorem tGT_val {P : Pv} (hP : ∀ st σ S H v b, P st σ S H v (.bl b) → v = .bl b) {Q : Bool → Hp → Prop} (h : tGT ρ T O m σ H Q) : tG ρ T O m P σ H fun x H1 => ∃ c, x = .bl c ∧ Q c H1 := by
  obtain ⟨S, st, R, q⟩ := h
  refine ⟨S, st, R, ?_⟩
  cases e : evE T m st with
  | ok d =>
    rw [e] at q
    cases d with
    | bl b => exact fun S' v H' a1 a2 R' p => ⟨b, hP _ _ _ _ _ _ p, q S' H' a1 a2 R'⟩
    | _ => exact q.elim
  | er c fs => rw [e] at q; exact q
  | bad => rw [e] at q; exact q
theorem pX_bl {C : Cn} {B : Hp} {O : Own} {fr : Bool} : ∀ st σ S H v b, pX C B O fr st σ S H v (.bl b) → v = .bl b := fun _ _ _ _ _ _ h => by
  rcases h.1 with ⟨_, m, _⟩ | ⟨_, r⟩
  · cases m
  · exact r.bl'
theorem pB_bl {C : Cn} : ∀ st σ S H v b, pB C st σ S H v (.bl b) → v = .bl b := fun _ _ _ _ _ _ h => Bor.bl h
theorem PTval (h : PE X e (tG ρ T O m (pX ρ.C ρ.B O fr))) (he : ∀ whole, isTrue e X.env whole = (do let v ← whole; standAt e.pos; holding [v] (truthy v))) : PT X e (tGT ρ T O m) :=
  PTof (pt_val h he) fun σ H Q q => tGT_val pX_bl q
theorem PTtest {t' : TE} (h : PT X e (tTest t')) (i : ∀ σ H Q, tG ρ T O m (pX ρ.C ρ.B O fr) σ H Q → t' σ H Q) : PT X e (tGT ρ T O m) :=
  PTof h fun σ H Q q => i σ H _ (tGT_val pX_bl q)

/-! ### ends of an operation -/
variable {st : St} {S : Hp}
theorem Kt.sc {d : D} {v : V} (h : Kt ρ O st σ (pX ρ.C ρ.B O fr) S H Q (.ok d)) (R : Rel ρ.C ρ.B ρ.S0 S O st σ H) (hs : isSc d = true) (r : Rep ρ.C S v d) : Q v H :=
  h S v H (Ext.rfl' S) (Ext.rfl' H) R (RepX.sc hs r)
theorem Kt.imm {d : D} {v : V} (h : Kt ρ O st σ (pX ρ.C ρ.B O fr) S H Q (.ok d)) (R : Rel ρ.C ρ.B ρ.S0 S O st σ H) (hs : isMu d = false) (r : Rep ρ.C S v d) : Q v H :=
  h S v H (Ext.rfl' S) (Ext.rfl' H) R (RepX.imm hs r)
theorem Kt.newL {ds : List D} {vs : List V} {p : Addr} (h : Kt ρ O st σ (pX ρ.C ρ.B O true) S H Q (.ok (.lst ds))) (R : Rel ρ.C ρ.B ρ.S0 S O st σ H) (n : H p = none) (r : Reps ρ.C S vs ds) : Q (.ref p) (upd H p (.lst vs)) := by
  have e := Ext.new (o := .lst vs) n
  refine h S (.ref p) _ (Ext.rfl' S) e (R.heap e) ⟨.inl ⟨rfl, rfl, p, rfl, R.sh.none n, R.bh.none n, vs, upd_same, r⟩, fun _ _ i l q hh => ?_⟩
  cases q
  obtain ⟨d, _, al⟩ := R.alone hh
  exact al.there n
theorem Kt.newT {ds : List D} {vs : List V} {p : Addr} (h : Kt ρ O st σ (pX ρ.C ρ.B O fr) S H Q (.ok (.tup ds))) (R : Rel ρ.C ρ.B ρ.S0 S O st σ H) (n : H p = none) (r : Reps ρ.C S vs ds) : Q (.ref p) (upd H p (.tup vs)) := by
  have e := Ext.new (o := .tup vs) n
  have ns := R.sh.none n
  exact h (upd S p (.tup vs)) (.ref p) _ (Ext.new ns) e (R.laid n) (RepX.imm rfl (.tup (.inl (.inl upd_same)) (r.mono (Ext.new ns))))
end
end DL
end

section
set_option linter.all false
set_option maxRecDepth 100000
set_option maxHeartbeats 2000000
set_option Elab.async false
/-! DLo: operations on values, as the evaluator says them. -/
namespace DL
open PySem PySem.Spec PyProof.Rows L2

section
variable {X : Cx}
theorem rdL {pins : List (Addr × Obj)} {σ : L2.St} {H : Hp} {s : Shared} {a : Addr} {vs : List V} (I : Inv X pins σ H s) (h : LsK X.K H a vs) :
    vs.length ≤ sizeLine ∧ ∃ (us : List Value) (k : Nat), Vals vs us ∧ vs.length = us.length ∧ s.heap.get? a = some { cls := .type "list", data := .seq us.toArray k } := by
  rcases h with h | ⟨its, n, h1, h2, h3⟩
  · obtain ⟨c1, us, k, c2, c3⟩ := h.ok I.hok
    exact ⟨c1, us, k, c2, c2.length, c3⟩
  · refine ⟨?_, its.toList, n, h3, h3.length, ?_⟩
    · rw [h3.length]; simpa using h2
    · exact I.kIn _ _ h1
/-- list + list, of lists that may be locked -/
def rCatR (K : PySem.W.Frag) : R2 := fun x y H Q => ∃ a1 a2 vs ws, x = .ref a1 ∧ y = .ref a2 ∧ LsK K H a1 vs ∧ LsK K H a2 ws ∧ vs.length + ws.length ≤ sizeLine ∧ ∀ q, H q = none → Q (.ref q) (upd H q (.lst (vs ++ ws)))
theorem op_catR : OpR X (binaryOp .Add) (rCatR X.K) := by
  rintro pins s σ H x y u1 u2 Q I h1 h2 ⟨a1, a2, vs, ws, rfl, rfl, r1, r2, sz, hq⟩
  cases h1
  cases h2
  obtain ⟨_, us1, k1, p1, l1, g1⟩ := rdL I r1
  obtain ⟨_, us2, k2, p2, l2, g2⟩ := rdL I r2
  have hs : us1.toArray.size + us2.toArray.size ≤ sizeLine := by simp only [List.size_toArray]; omega
  have ee : us1.toArray ++ us2.toArray = (us1 ++ us2).toArray := List.append_toArray us1 us2
  refine PySem.P.add_list g1 g2 ?_ hs
  rw [ee]
  have hz : (vs ++ ws).length ≤ sizeLine := by rw [List.length_append]; exact sz
  exact ⟨.ref _, _, I.lnew (t' := s.toks) (p1.append p2) hz, rfl, hq _ I.fresh⟩
/-- list * int, of a list that may be locked -/
def rRepR (K : PySem.W.Frag) : R2 := fun x y H Q => ∃ a1 k vs, x = .ref a1 ∧ y = .int k ∧ LsK K H a1 vs ∧ -(2 ^ 63) ≤ k ∧ k < 2 ^ 63 ∧ vs.length * k.toNat ≤ sizeLine ∧
  ∀ q, H q = none → Q (.ref q) (upd H q (.lst (List.replicate k.toNat vs).flatten))
theorem op_repR : OpR X (binaryOp .Mult) (rRepR X.K) := by
  rintro pins s σ H x y u1 u2 Q I h1 h2 ⟨a1, k, vs, rfl, rfl, r1, b1, b2, sz, hq⟩
  cases h1
  obtain ⟨tk, rfl⟩ := h2
  obtain ⟨_, us, m, p1, l1, g1⟩ := rdL I r1
  have c1 : us.toArray.size * k.toNat ≤ sizeLine := by simp only [List.size_toArray]; rw [← l1]; exact sz
  have c2 : ¬ us.toArray.size * k.toNat > (2 ^ 63 - 1) / 8 := fun hh => by
    have hb : (sizeLine : Nat) ≤ (2 ^ 63 - 1) / 8 := by decide
    omega
  have c3 : ¬ (!Builtin.List.listFitsIndex k) = true := by rw [fitsIndex_both b1 b2]; exact Bool.false_ne_true
  have c4 : ¬ Builtin.List.listTooLong (us.toArray.size * k.toNat) = true := by rw [notLongL c1]; exact Bool.false_ne_true
  have fl : ∀ j : Nat, List.foldl (fun x1 x2 => x1 ++ x2) #[] (List.replicate j us.toArray) = (List.replicate j us).flatten.toArray := fun j => by
    have h0 := foldl_rep us j []
    rwa [List.nil_append] at h0
  have c5 : List.foldl (fun x1 x2 => x1 ++ x2) #[] (List.replicate (if us.toArray.isEmpty = true then 0 else k.toNat) us.toArray) = (List.replicate k.toNat us).flatten.toArray := by
    rw [fl]
    cases us with
    | nil => simp
    | cons y0 y1 => rw [if_neg (by simp)]
  refine wpAny_binaryOp_repeat_ref (T := "list") (U := "int") (by decide) ⟨_, g1, rfl⟩ (fun s2 => typeIs_int s2 k tk) noFill_list_mul F.fills_int_mul F.slot_int_rmul repeat_list F.slot_int_index.lookup ?_
  refine call_meets F.slot_int_rmul (typeIs_int s k tk) F.entry_int_rmul (F.args_int_rmul_2 _ _) (int___rmul___int_list k tk a1 us.toArray m) ⟨g1, rfl, ⟨_, g1, rfl⟩, ?_⟩
  refine call_meets F.slot_list_mul ⟨_, g1, rfl⟩ F.entry_list_mul (F.args_list_mul_2 _ _) (AutoListH.list___mul___list_int_3 a1 us.toArray m k tk c3 c2 c4) ⟨g1, ?_⟩
  rw [c5]
  have hz : (List.replicate k.toNat vs).flatten.length ≤ sizeLine := by rw [PyProof.Rows.lm_len_rep_flat, Nat.mul_comm]; exact sz
  exact ⟨.ref _, _, I.lnew (t' := s.toks) (p1.rep k.toNat) hz, rfl, hq _ I.fresh⟩
end

theorem intOk_iff {i : Int} (h : intOk i = true) : -(2 ^ 64) < i ∧ i < 2 ^ 64 := by
  have h2 : -18446744073709551616 < i ∧ i < 18446744073709551616 := of_decide_eq_true h
  omega
theorem big_line : big ≤ sizeLine := by rw [sizeLine_eq]; decide
variable {ρ : Rn} {O : Own} {st : St} {σ : L2.St} {S H : Hp} {Q : VK} {x y : V} {dx dy : D}
/-! ### + - * // % ** -/
def rBin (K : PySem.W.Frag) : BO → R2
  | .add => fun x y H Q => rI0 (fun i j => .int (i + j)) x y H Q ∨ rCatR K x y H Q ∨ (∃ i j, x = .str i ∧ y = .str j ∧ i.length + j.length ≤ sizeLine ∧ Q (.str (i ++ j)) H)
  | .sub => rI0 fun i j => .int (i - j)
  | .mul => fun x y H Q => rI CMul (fun i j => .int (i * j)) x y H Q ∨ rRepR K x y H Q
  | .fdiv => rI CDiv fun i j => .int (i / j)
  | .mod => rI (fun _ j => 0 < j) fun i j => .int (i % j)
  | .pow => rI CPow fun i j => .int (i ^ j.toNat)
  | .band => fun _ _ _ _ => False
theorem op_bin {X : Cx} {o : BO} {p : Operator} (h : opIs o p = true) : OpR X (binaryOp p) (rBin X.K o) := by
  cases o <;> cases p <;> first
    | exact absurd h Bool.false_ne_true
    | exact op_add.or (op_catR.or op_add_str)
    | exact op_sub
    | exact op_mul.or op_repR
    | exact op_fdiv
    | exact op_mod
    | exact op_pow
    | (intro pins s σ H x y v u Q I rx ry h; exact h.elim)
theorem bin_ok {o : BO} (R : Rel ρ.C ρ.B ρ.S0 S O st σ H) (hx : Bor ρ.C S H x dx) (hy : Bor ρ.C S H y dy) (h : Kt ρ O st σ (pX ρ.C ρ.B O true) S H Q (ofO (binD o dx dy))) : rBin ρ.C.K o x y H Q := by
  cases e : binD o dx dy with
  | none => rw [e] at h; exact h.elim
  | some d =>
    rw [e] at h
    have h : Kt ρ O st σ (pX ρ.C ρ.B O true) S H Q (.ok d) := h
    unfold binD at e
    split at e
    · cases e
      exact .inl ⟨_, _, hx.int, hy.int, h.sc R rfl (.int _)⟩
    · split at e
      · rename_i hl
        cases e
        obtain ⟨a1, vs, rfl, r1, q1⟩ := hx.lst R.sh
        obtain ⟨a2, ws, rfl, r2, q2⟩ := hy.lst R.sh
        exact .inr (.inl ⟨a1, a2, vs, ws, rfl, rfl, r1, r2, by rw [q1.length, q2.length]; exact Nat.le_trans hl big_line, fun p hp => h.newL R hp (q1.append q2)⟩)
      · cases e
    · split at e
      · rename_i hl
        cases e
        exact .inr (.inr ⟨_, _, hx.str, hy.str, Nat.le_trans hl big_line, h.sc R rfl (.str _)⟩)
      · cases e
    · cases e
      exact ⟨_, _, hx.int, hy.int, h.sc R rfl (.int _)⟩
    · split at e
      · rename_i hl
        cases e
        refine .inl ⟨_, _, hx.int, hy.int, ?_, h.sc R rfl (.int _)⟩
        rcases Bool.or_eq_true_iff.mp hl with z | z
        · exact .inl (intOk_iff z)
        · exact .inr (intOk_iff z)
      · cases e
    · split at e
      · rename_i hl
        cases e
        obtain ⟨a1, vs, rfl, r1, q1⟩ := hx.lst R.sh
        exact .inr ⟨a1, _, vs, rfl, hy.int, r1, by omega, by omega, by rw [q1.length]; exact Nat.le_trans hl.1 big_line, fun p hp => h.newL R hp (q1.rep _)⟩
      · cases e
    · split at e
      · rename_i hl
        cases e
        exact ⟨_, _, hx.int, hy.int, hl, h.sc R rfl (.int _)⟩
      · cases e
    · split at e
      · rename_i hl
        cases e
        exact ⟨_, _, hx.int, hy.int, hl, h.sc R rfl (.int _)⟩
      · cases e
    · split at e
      · rename_i hl
        cases e
        have z := intOk_iff hl.2.2
        exact ⟨_, _, hx.int, hy.int, ⟨hl.1, by omega, by omega⟩, h.sc R rfl (.int _)⟩
      · cases e
    · cases e
/-! ### comparisons -/
mutual
/-- as data -/
def pdOf : D → PyData
  | .non => .none
  | .bl b => .bool b
  | .int i => .int i
  | .str s => .str s
  | .lst xs => .list (pdOfs xs)
  | .tup xs => .tuple (pdOfs xs)
  | .obj _ _ => .none
  | .exn _ _ => .none
def pdOfs : List D → List PyData
  | [] => []
  | x :: xs => pdOf x :: pdOfs xs
end
mutual
theorem eqv_pd : ∀ (m n : Nat) (x y : D), okD m x = true → okD n y = true → PyData.eqv (pdOf x) (pdOf y) = eqB x y
  | m, n, x, y, hx, hy => by
    cases x with
    | lst xs =>
      cases y with
      | lst ys =>
        cases m with
        | zero => cases hx
        | succ m =>
          cases n with
          | zero => cases hy
          | succ n =>
            have := eqv_pds m n xs ys hx hy
            simpa only [pdOf, PyData.eqv, eqB] using this
      | obj _ _ => cases n <;> cases hy
      | exn _ _ => cases n <;> cases hy
      | _ => simp only [pdOf, PyData.eqv, eqB]
    | tup xs =>
      cases y with
      | tup ys =>
        cases m with
        | zero => cases hx
        | succ m =>
          cases n with
          | zero => cases hy
          | succ n =>
            have := eqv_pds m n xs ys hx hy
            simpa only [pdOf, PyData.eqv, eqB] using this
      | obj _ _ => cases n <;> cases hy
      | exn _ _ => cases n <;> cases hy
      | _ => simp only [pdOf, PyData.eqv, eqB]
    | obj _ _ => cases m <;> cases hx
    | exn _ _ => cases m <;> cases hx
    | _ =>
      cases y with
      | obj _ _ => cases n <;> cases hy
      | exn _ _ => cases n <;> cases hy
      | _ => simp only [pdOf, PyData.eqv, eqB, Bool.beq_eq_decide_eq]
theorem eqv_pds : ∀ (m n : Nat) (xs ys : List D), okDs m xs = true → okDs n ys = true → PyData.eqvAll (pdOfs xs) (pdOfs ys) = eqBs xs ys
  | m, n, [], ys, hx, hy => by cases ys <;> simp only [pdOfs, PyData.eqvAll, eqBs]
  | m, n, x :: xs, [], hx, hy => by simp only [pdOfs, PyData.eqvAll, eqBs]
  | m, n, x :: xs, y :: ys, hx, hy => by
    have hx : (okD m x && okDs m xs) = true := by simpa only [okDs] using hx
    have hy : (okD n y && okDs n ys) = true := by simpa only [okDs] using hy
    rw [Bool.and_eq_true] at hx hy
    have h1 := eqv_pd m n x y hx.1 hy.1
    have h2 := eqv_pds m n xs ys hx.2 hy.2
    simp only [pdOfs, PyData.eqvAll, eqBs, h1, h2]
end

mutual
theorem dp_of {C : Cn} {S H : Hp} (e : Ext S H) : ∀ (n : Nat) (v : V) (d : D), Rep C S v d → okD n d = true → Dp C.K H v (pdOf d)
  | n, v, d, r, h => by
    cases r with
    | non => unfold pdOf; exact .non
    | bl b => unfold pdOf; exact .bl b
    | int i => unfold pdOf; exact .int i
    | str x => unfold pdOf; exact .str x
    | lst r rs =>
      cases n with
      | zero => cases h
      | succ n => unfold pdOf; exact .lst (e.lsk r).sql (dps_of e n _ _ rs h)
    | tup r rs =>
      cases n with
      | zero => cases h
      | succ n => unfold pdOf; exact .tup (e.sqt r) (dps_of e n _ _ rs h)
    | obj r rs => cases n <;> cases h
theorem dps_of {C : Cn} {S H : Hp} (e : Ext S H) : ∀ (n : Nat) (vs : List V) (ds : List D), Reps C S vs ds → okDs n ds = true → DpAll C.K H vs (pdOfs ds)
  | n, vs, ds, r, h => by
    cases r with
    | nil => unfold pdOfs; exact .nil
    | cons r rs =>
      unfold okDs at h
      rw [Bool.and_eq_true] at h
      unfold pdOfs
      exact .cons (dp_of e n _ _ r h.1) (dps_of e n _ _ rs h.2)
end
theorem dp_bor {C : Cn} {S H : Hp} {v : V} {d : D} (e : Ext S H) (n : Nat) (h : Bor C S H v d) (hd : okD n d = true) : Dp C.K H v (pdOf d) := by
  rcases h with h | ⟨l, rfl, h⟩
  · exact dp_of e n v d h hd
  · cases d with
    | lst ds =>
      obtain ⟨vs, a, b⟩ := h
      cases n with
      | zero => cases hd
      | succ n => unfold pdOf; exact .lst (.inl (.inl a)) (dps_of e n _ _ b hd)
    | obj c fs => cases n <;> cases hd
    | _ => exact h.elim
mutual
theorem depth_ok : ∀ (n : Nat) (d : D), okD n d = true → (pdOf d).depth ≤ n
  | n, d, h => by
    cases d with
    | lst xs =>
      cases n with
      | zero => cases h
      | succ n => unfold pdOf PyData.depth; exact Nat.succ_le_succ (depths_ok n xs h)
    | tup xs =>
      cases n with
      | zero => cases h
      | succ n => unfold pdOf PyData.depth; exact Nat.succ_le_succ (depths_ok n xs h)
    | _ => unfold pdOf PyData.depth; exact Nat.zero_le _
theorem depths_ok : ∀ (n : Nat) (ds : List D), okDs n ds = true → PyData.depthAll (pdOfs ds) ≤ n
  | n, [], _ => by unfold pdOfs PyData.depthAll; exact Nat.zero_le _
  | n, x :: xs, h => by
    unfold okDs at h
    rw [Bool.and_eq_true] at h
    unfold pdOfs PyData.depthAll
    have h1 := depth_ok n x h.1
    have h2 := depths_ok n xs h.2
    omega
end
mutual
theorem lay_ok : ∀ (n : Nat) (d : D), okD n d = true → (pdOf d).canLay0 = true
  | n, d, h => by
    cases d with
    | lst xs =>
      cases n with
      | zero => cases h
      | succ n => unfold pdOf PyData.canLay0; exact lays_ok n xs h
    | tup xs =>
      cases n with
      | zero => cases h
      | succ n => unfold pdOf PyData.canLay0; exact lays_ok n xs h
    | str s =>
      unfold pdOf PyData.canLay0 PyData.strOk
      cases n <;> exact h
    | _ => unfold pdOf PyData.canLay0; rfl
theorem lays_ok : ∀ (n : Nat) (ds : List D), okDs n ds = true → PyData.canLayAll0 (pdOfs ds) = true
  | n, [], _ => by unfold pdOfs PyData.canLayAll0; rfl
  | n, x :: xs, h => by
    unfold okDs at h
    rw [Bool.and_eq_true] at h
    unfold pdOfs PyData.canLayAll0
    rw [lay_ok n x h.1, lays_ok n xs h.2]; rfl
end
theorem shaped_ok {d : D} (h : okD 20 d = true) : SeqAt.shaped (pdOf d) = true := by
  unfold SeqAt.shaped
  rw [lay_ok 20 d h, Bool.true_and]
  exact decide_eq_true (Nat.le_trans (depth_ok 20 d h) (by decide))
theorem sc_val {C : Cn} {S H : Hp} {x y : V} {dx dy : D} (hx : Bor C S H x dx) (hy : Bor C S H y dy) (h : scB dx dy = true) : scal x y = true ∧ decide (x = y) = eqB dx dy := by
  unfold scB at h
  split at h
  · cases h
  · cases h
  · rename_i n1 n2
    rw [Bool.and_eq_true] at h
    cases dx with
    | non =>
      cases hx.non
      cases dy with
      | non => cases hy.non; exact ⟨rfl, by simp [eqB]⟩
      | bl b => cases hy.bl; exact ⟨rfl, by simp [eqB]⟩
      | int b => cases hy.int; exact ⟨rfl, by simp [eqB]⟩
      | str b => cases hy.str; exact ⟨rfl, by simp [eqB]⟩
      | _ => exact absurd h.2 Bool.false_ne_true
    | bl a =>
      cases hx.bl
      cases dy with
      | non => cases hy.non; exact ⟨rfl, by simp [eqB]⟩
      | bl b => cases hy.bl; exact ⟨rfl, by simp [eqB]; cases a <;> cases b <;> rfl⟩
      | int b => exact (n1 _ _ rfl rfl).elim
      | str b => cases hy.str; exact ⟨rfl, by simp [eqB]⟩
      | _ => exact absurd h.2 Bool.false_ne_true
    | int a =>
      cases hx.int
      cases dy with
      | non => cases hy.non; exact ⟨rfl, by simp [eqB]⟩
      | bl b => exact (n2 _ _ rfl rfl).elim
      | int b => cases hy.int; exact ⟨rfl, by simp [eqB]⟩
      | str b => cases hy.str; exact ⟨rfl, by simp [eqB]⟩
      | _ => exact absurd h.2 Bool.false_ne_true
    | str a =>
      cases hx.str
      cases dy with
      | non => cases hy.non; exact ⟨rfl, by simp [eqB]⟩
      | bl b => cases hy.bl; exact ⟨rfl, by simp [eqB]⟩
      | int b => cases hy.int; exact ⟨rfl, by simp [eqB]⟩
      | str b => cases hy.str; exact ⟨rfl, by simp [eqB]⟩
      | _ => exact absurd h.2 Bool.false_ne_true
    | _ => exact absurd h.1 Bool.false_ne_true

theorem flat_of {C : Cn} {S H : Hp} {v : V} {d : D} (h : Bor C S H v d) (hs : isSc d = true) : flatV v = true ∧ Rep C S v d := by
  rcases h with h | ⟨l, rfl, h⟩
  · cases h <;> first | exact ⟨rfl, by constructor⟩ | cases hs
  · cases d <;> first | exact h.elim | cases hs
theorem eqV_of {C : Cn} {S : Hp} {v w : V} {d e : D} (hv : Rep C S v d) (hw : Rep C S w e) (h1 : isSc d = true) (h2 : isSc e = true) : eqV v w = eqB d e := by
  cases hv <;> first
    | exact absurd h1 Bool.false_ne_true
    | (cases hw <;> first | exact absurd h2 Bool.false_ne_true | simp [eqV, eqB, Bool.beq_eq_decide_eq])
theorem any_of {C : Cn} {S : Hp} {v : V} {d : D} (hv : Rep C S v d) (h1 : isSc d = true) : ∀ {vs : List V} {ds : List D}, Reps C S vs ds → ds.all isSc = true → vs.all flatV = true ∧ inV v vs = ds.any fun z => eqB z d
  | _, _, .nil, _ => ⟨rfl, rfl⟩
  | w :: vs, e :: ds, .cons r rs, h => by
    rw [List.all_cons, Bool.and_eq_true] at h
    obtain ⟨a1, a2⟩ := any_of hv h1 rs h.2
    have a3 := (flat_of (H := S) (.inl r) h.1).1
    refine ⟨by rw [List.all_cons, a3, a1]; rfl, ?_⟩
    unfold inV at a2 ⊢
    rw [List.any_cons, List.any_cons, a2, eqV_of r hv h.1 h1]
theorem pdOfs_any {x : D} (hx : okD 20 x = true) : ∀ (n : Nat) (ds : List D), okDs n ds = true → ((pdOfs ds).any fun z => PyData.eqv z (pdOf x)) = ds.any fun z => eqB z x
  | n, [], _ => by unfold pdOfs; rfl
  | n, y :: ys, h => by
    unfold okDs at h
    rw [Bool.and_eq_true] at h
    unfold pdOfs
    rw [List.any_cons, List.any_cons, pdOfs_any hx n ys h.2, eqv_pd n 20 y x h.1 hx]
def rSign (n : Bool) : R2 := fun x y H Q => ∃ (c : Nat) (z : Str), x = .str ⟨#[c]⟩ ∧ y = .str z ∧ Q (.bl (if n then !decide (c ∈ z.cps.toList) else decide (c ∈ z.cps.toList))) H
def rCmp (K : PySem.W.Frag) : CO → R2
  | .eq => fun x y H Q => rEq x y H Q ∨ rEqD K x y H Q
  | .ne => fun x y H Q => rNe x y H Q ∨ rNeD K x y H Q
  | .lt => rI0 fun i j => .bl (decide (i < j))
  | .le => rI0 fun i j => .bl (decide (i ≤ j))
  | .gt => rI0 fun i j => .bl (decide (j < i))
  | .ge => rI0 fun i j => .bl (decide (j ≤ i))
  | .isin => fun x y H Q => rSign false x y H Q ∨ rIn K false x y H Q ∨ rInD K x y H Q
  | .notin => fun x y H Q => rSign true x y H Q ∨ rIn K true x y H Q ∨ rNotInD K x y H Q
theorem op_sign {X : Cx} : OpR X (compareOp .In) (rSign false) := fun pins s σ H x y v u Q I rx ry ⟨c, z, e1, e2, q⟩ => op_in_sign pins s σ H x y v u Q I rx ry ⟨c, z, e1, e2, q⟩
theorem op_nsign {X : Cx} : OpR X (compareOp .NotIn) (rSign true) := fun pins s σ H x y v u Q I rx ry ⟨c, z, e1, e2, q⟩ => op_notIn_sign pins s σ H x y v u Q I rx ry ⟨c, z, e1, e2, q⟩
theorem op_cmp {X : Cx} {k : Nat} (hr : Room k X.A) {o : CO} {p : CmpOp} (h : coIs o p = true) : OpR X (compareOp p) (rCmp X.K o) := by
  have h1 := hr.units
  have h2 : X.A.units + 65 < cLine := by have := hr.un; omega
  cases o <;> cases p <;> first
    | exact absurd h Bool.false_ne_true
    | exact op_eq.or (op_eqD h1)
    | exact op_ne.or (op_neD h1)
    | exact op_lt
    | exact op_le
    | exact op_gt
    | exact op_ge
    | exact op_sign.or (op_in_seq.or (op_inD h2))
    | exact op_nsign.or (op_notIn_seq.or (op_notInD h2))
section
variable {ρ : Rn} {O : Own} {st : St} {σ : L2.St} {S H : Hp} {Q : VK} {x y : V} {dx dy : D} {fr : Bool}
theorem sign_ok {b : Bool} (hx : Bor ρ.C S H x dx) (hy : Bor ρ.C S H y dy) (h : signIn dx dy = some b) : ∃ (c : Nat) (z : Str), x = .str ⟨#[c]⟩ ∧ y = .str z ∧ b = decide (c ∈ z.cps.toList) := by
  unfold signIn at h
  split at h
  · rename_i a s
    split at h
    · rename_i c hc
      cases h
      refine ⟨c, s, ?_, hy.str, List.contains_eq_mem c s.cps.toList⟩
      rw [hx.str]
      obtain ⟨⟨l⟩⟩ := a
      have hl : l = [c] := hc
      rw [hl]
    · cases h
  · cases h
theorem mem_ok (K : PySem.W.Frag) (hK : K = ρ.C.K) {b : Bool} (R : Rel ρ.C ρ.B ρ.S0 S O st σ H) (hx : Bor ρ.C S H x dx) (hy : Bor ρ.C S H y dy) (h : memD dx dy = some b) :
    (∃ p xs, y = .ref p ∧ (SqL K H p xs ∨ SqT K H p xs) ∧ flatV x = true ∧ xs.all flatV = true ∧ b = inV x xs) ∨
    (∃ d ds, Dp K H x d ∧ Dp K H y (.list ds) ∧ SeqAt.shaped d = true ∧ SeqAt.shaped (.list ds) = true ∧ b = ds.any fun z => PyData.eqv z d) := by
  subst hK
  unfold memD at h
  split at h
  · rename_i ys
    split at h
    · rename_i hc
      cases h
      rcases Bool.or_eq_true_iff.mp hc with z | z
      · rw [Bool.and_eq_true] at z
        obtain ⟨a, vs, e1, r1, q1⟩ := hy.lst R.sh
        obtain ⟨f1, r2⟩ := flat_of hx z.1
        obtain ⟨f2, f3⟩ := any_of r2 z.1 q1 z.2
        exact .inl ⟨a, vs, e1, .inl r1.sql, f1, f2, f3.symm⟩
      · rw [Bool.and_eq_true] at z
        refine .inr ⟨pdOf dx, pdOfs ys, dp_bor R.sh 20 hx z.1, ?_, shaped_ok z.1, ?_, (pdOfs_any z.1 19 ys z.2).symm⟩
        · have := dp_bor R.sh 20 hy z.2
          rwa [pdOf] at this
        · have := shaped_ok z.2
          rwa [pdOf] at this
    · cases h
  · rename_i ys
    split at h
    · rename_i z
      cases h
      rw [Bool.and_eq_true] at z
      obtain ⟨a, vs, e1, r1, q1⟩ := hy.tup R.sh
      obtain ⟨f1, r2⟩ := flat_of hx z.1
      obtain ⟨f2, f3⟩ := any_of r2 z.1 q1 z.2
      exact .inl ⟨a, vs, e1, .inr r1, f1, f2, f3.symm⟩
    · cases h
  · cases h
theorem cmp_ok {K : PySem.W.Frag} (hK : K = ρ.C.K) {o : CO} (R : Rel ρ.C ρ.B ρ.S0 S O st σ H) (hx : Bor ρ.C S H x dx) (hy : Bor ρ.C S H y dy) (h : Kt ρ O st σ (pX ρ.C ρ.B O fr) S H Q (ofO (cmpD o dx dy))) : rCmp K o x y H Q := by
  cases e : cmpD o dx dy with
  | none => rw [e] at h; exact h.elim
  | some d =>
    rw [e] at h
    have h : Kt ρ O st σ (pX ρ.C ρ.B O fr) S H Q (.ok d) := h
    have eqs : ∀ {P : Prop}, eqOk dx dy = true → (scal x y = true ∧ decide (x = y) = eqB dx dy → P) →
        ((∃ d1 d2, Dp K H x d1 ∧ Dp K H y d2 ∧ SeqAt.shaped d1 = true ∧ SeqAt.shaped d2 = true ∧ PyData.eqv d1 d2 = eqB dx dy) → P) → P := fun hk a1 a2 => by
      subst hK
      unfold eqOk at hk
      rcases Bool.or_eq_true_iff.mp hk with z | z
      · exact a1 (sc_val hx hy z)
      · rw [Bool.and_eq_true] at z
        exact a2 ⟨_, _, dp_bor R.sh 20 hx z.1, dp_bor R.sh 20 hy z.2, shaped_ok z.1, shaped_ok z.2, eqv_pd 20 20 dx dy z.1 z.2⟩
    cases o with
    | eq =>
      unfold cmpD at e
      dsimp only at e
      split at e
      · rename_i hk
        cases e
        refine eqs hk (fun z => .inl ⟨z.1, ?_⟩) fun ⟨d1, d2, p1, p2, p3, p4, p5⟩ => .inr ⟨d1, d2, p1, p2, p3, p4, ?_⟩
        · rw [z.2]; exact h.sc R rfl (.bl _)
        · rw [p5]; exact h.sc R rfl (.bl _)
      · cases e
    | ne =>
      unfold cmpD at e
      dsimp only at e
      split at e
      · rename_i hk
        cases e
        refine eqs hk (fun z => .inl ⟨z.1, ?_⟩) fun ⟨d1, d2, p1, p2, p3, p4, p5⟩ => .inr ⟨d1, d2, p1, p2, p3, p4, ?_⟩
        · rw [z.2]; exact h.sc R rfl (.bl _)
        · rw [p5]; exact h.sc R rfl (.bl _)
      · cases e
    | isin =>
      unfold cmpD at e
      dsimp only at e
      split at e
      · rename_i b hb
        cases e
        obtain ⟨c, z, e1, e2, e3⟩ := sign_ok hx hy hb
        refine .inl ⟨c, z, e1, e2, ?_⟩
        rw [e3] at h
        exact h.sc R rfl (.bl _)
      · obtain ⟨b, hb, rfl⟩ := Option.map_eq_some_iff.mp e
        rcases mem_ok K hK R hx hy hb with ⟨p, xs, e1, e2, e3, e4, e5⟩ | ⟨d1, ds, e1, e2, e3, e4, e5⟩
        · refine .inr (.inl ⟨p, xs, e1, e2, e3, e4, ?_⟩)
          rw [e5] at h
          exact h.sc R rfl (.bl _)
        · refine .inr (.inr ⟨d1, ds, e1, e2, e3, e4, ?_⟩)
          rw [e5] at h
          exact h.sc R rfl (.bl _)
    | notin =>
      unfold cmpD at e
      dsimp only at e
      split at e
      · rename_i b hb
        cases e
        obtain ⟨c, z, e1, e2, e3⟩ := sign_ok hx hy hb
        refine .inl ⟨c, z, e1, e2, ?_⟩
        rw [e3] at h
        exact h.sc R rfl (.bl _)
      · obtain ⟨b, hb, rfl⟩ := Option.map_eq_some_iff.mp e
        rcases mem_ok K hK R hx hy hb with ⟨p, xs, e1, e2, e3, e4, e5⟩ | ⟨d1, ds, e1, e2, e3, e4, e5⟩
        · refine .inr (.inl ⟨p, xs, e1, e2, e3, e4, ?_⟩)
          rw [e5] at h
          exact h.sc R rfl (.bl _)
        · refine .inr (.inr ⟨d1, ds, e1, e2, e3, e4, ?_⟩)
          rw [e5] at h
          exact h.sc R rfl (.bl _)
    | _ =>
      unfold cmpD at e
      dsimp only at e
      split at e
      · cases e
        exact ⟨_, _, hx.int, hy.int, h.sc R rfl (.bl _)⟩
      · cases e
end
end DL
end

section
set_option linter.all false
set_option maxRecDepth 100000
set_option maxHeartbeats 2000000
set_option Elab.async false
/-! DLp: items, slices, is, built-in functions and methods. -/
namespace DL
open PySem PySem.Spec PyProof.Rows L2
variable {ρ : Rn} {O : Own} {st : St} {σ : L2.St} {S H : Hp} {Q : VK} {x y : V} {dx dy : D} {fr : Bool}

/-! ### items -/
theorem place_ix (n : Nat) (i : Int) : placeOf n i = ixN n i := rfl
theorem pick_at {α : Type} (xs : List α) (i : Int) : pick xs i = atI xs i := by
  unfold pick atI
  rw [place_ix]
  cases ixN xs.length i <;> rfl
theorem pick_rep {C : Cn} {S : Hp} {vs : List V} {ds : List D} {i : Int} {d : D} (r : Reps C S vs ds) (h : pick ds i = some d) : ∃ v, atI vs i = some v ∧ Rep C S v d := by
  rw [pick_at] at h
  unfold atI at h ⊢
  rw [r.length]
  cases e : ixN ds.length i with
  | none => rw [e] at h; cases h
  | some k =>
    rw [e] at h
    exact r.get' (i := k) h
theorem idx_ok (R : Rel ρ.C ρ.B ρ.S0 S O st σ H) (hx : Bor ρ.C S H x dx) (hy : Bor ρ.C S H y dy) (h : Kt ρ O st σ (pF ρ.C) S H Q (ofO (idxD dx dy))) : rIx ρ.C.K x y H Q := by
  have go : ∀ {d : D} {v : V}, Kt ρ O st σ (pF ρ.C) S H Q (.ok d) → Rep ρ.C S v d → Q v H := fun h r => h S _ H (Ext.rfl' S) (Ext.rfl' H) R r
  cases e : idxD dx dy with
  | none => rw [e] at h; exact h.elim
  | some d =>
    rw [e] at h
    unfold idxD at e
    split at e
    · obtain ⟨a, vs, rfl, r1, q1⟩ := hx.lst R.sh
      obtain ⟨v, e1, r2⟩ := pick_rep q1 e
      exact .inl ⟨a, vs, _, v, rfl, hy.int, r1.sql, e1, go h r2⟩
    · obtain ⟨a, vs, rfl, r1, q1⟩ := hx.tup R.sh
      obtain ⟨v, e1, r2⟩ := pick_rep q1 e
      exact .inr (.inl ⟨a, vs, _, v, rfl, hy.int, r1, e1, go h r2⟩)
    · split at e
      · rename_i hb
        obtain ⟨c, e1, rfl⟩ := Option.map_eq_some_iff.mp e
        rw [pick_at] at e1
        exact .inr (.inr ⟨_, _, c, hx.str, hy.int, Nat.le_trans hb big_line, e1, go h (.str _)⟩)
      · cases e
    · cases e
/-! ### slices -/
theorem clip_sIx (n d : Nat) (o : Option Int) : clip n d o = HT.sIx n d o := by
  cases o with
  | none => rfl
  | some v =>
    show (if 0 ≤ v then min v.toNat n else (v + (n : Int)).toNat) = (if v < 0 then (v + (n : Int)).toNat else min v.toNat n)
    by_cases h : 0 ≤ v
    · rw [if_pos h, if_neg (by omega)]
    · rw [if_neg h, if_pos (by omega)]
theorem cut_rep {C : Cn} {S : Hp} {vs : List V} {ds : List D} (r : Reps C S vs ds) (lo hi : Option Int) : Reps C S (cutV vs lo hi) (cut ds lo hi) := by
  unfold cutV cut
  rw [clip_sIx, clip_sIx, r.length]
  exact (r.drop _).take _
theorem slc_ok {lo hi : Option Int} (R : Rel ρ.C ρ.B ρ.S0 S O st σ H) (hx : Bor ρ.C S H x dx) (h : Kt ρ O st σ (pX ρ.C ρ.B O true) S H Q (ofO (slcD dx lo hi))) : rSlL ρ.C.K x lo hi H Q ∨ rSlT ρ.C.K x lo hi H Q := by
  cases e : slcD dx lo hi with
  | none => rw [e] at h; exact h.elim
  | some d =>
    rw [e] at h
    unfold slcD at e
    split at e
    · cases e
      obtain ⟨a, vs, rfl, r1, q1⟩ := hx.lst R.sh
      exact .inl ⟨a, vs, rfl, r1.sql, fun p hp => Kt.newL h R hp (cut_rep q1 lo hi)⟩
    · split at e
      · cases e
      · rename_i hn
        cases e
        obtain ⟨a, vs, rfl, r1, q1⟩ := hx.tup R.sh
        refine .inr ⟨a, vs, rfl, r1, ?_, fun p hp => Kt.newT h R hp (cut_rep q1 lo hi)⟩
        rw [clip_sIx, clip_sIx] at hn
        rw [q1.length]
        exact hn
    · cases e
/-! ### is -/
def rIs (n : Bool) : Option Bool → R2
  | none => fun x y H Q => y = .non ∧ Q (.bl (if n then !decide (x = .non) else decide (x = .non))) H
  | some b => fun x y H Q => ∃ a : Bool, x = .bl a ∧ y = .bl b ∧ Q (.bl (if n then !decide (a = b) else decide (a = b))) H
theorem op_is {X : Cx} {n : Bool} {c : Option Bool} {p : CmpOp} (h : isIs n p = true) : OpR X (compareOp p) (rIs n c) := by
  cases n <;> cases p <;> first
    | exact absurd h Bool.false_ne_true
    | (cases c with
      | none => exact op_isN
      | some b => exact fun pins s σ H x y v u Q I rx ry ⟨a, e1, e2, q⟩ => op_isBl pins s σ H x y v u Q I rx ry ⟨a, b, e1, e2, q⟩)
    | (cases c with
      | none => exact op_notN
      | some b => exact fun pins s σ H x y v u Q I rx ry ⟨a, e1, e2, q⟩ => op_notBl pins s σ H x y v u Q I rx ry ⟨a, b, e1, e2, q⟩)
theorem isN_bor {C : Cn} {S H : Hp} {v : V} {d : D} (h : Bor C S H v d) : decide (v = .non) = isN d := by
  rcases h with h | ⟨l, rfl, h⟩
  · cases h <;> simp [isN]
  · cases d <;> first | exact h.elim | simp [isN]
theorem is_ok {n : Bool} {c : Option Bool} (R : Rel ρ.C ρ.B ρ.S0 S O st σ H) (hx : Bor ρ.C S H x dx) (hc : y = match c with | none => V.non | some b => .bl b) (h : Kt ρ O st σ (pX ρ.C ρ.B O fr) S H Q (ofO (isD n dx c))) : rIs n c x y H Q := by
  cases c with
  | none =>
    refine ⟨hc, ?_⟩
    rw [isN_bor hx]
    exact Kt.sc h R rfl (.bl _)
  | some b =>
    cases e : isD n dx (some b) with
    | none => rw [e] at h; exact h.elim
    | some d =>
      rw [e] at h
      obtain ⟨r, h1, rfl⟩ := Option.map_eq_some_iff.mp e
      unfold isB at h1
      split at h1
      · rename_i a
        cases h1
        refine ⟨a, hx.bl, hc, ?_⟩
        have e2 : (b == a) = decide (a = b) := by cases a <;> cases b <;> rfl
        rw [e2] at h
        exact Kt.sc h R rfl (.bl _)
      · cases h1
/-! ### built-in functions -/
theorem Bors.one {C : Cn} {S H : Hp} {vs : List V} {d : D} (h : Bors C S H vs [d]) : ∃ v, vs = [v] ∧ Bor C S H v d := by
  cases h with
  | cons r rs => cases rs; exact ⟨_, rfl, r⟩
theorem Bors.two {C : Cn} {S H : Hp} {vs : List V} {d e : D} (h : Bors C S H vs [d, e]) : ∃ v w, vs = [v, w] ∧ Bor C S H v d ∧ Bor C S H w e := by
  cases h with
  | cons r rs => cases rs with
    | cons r2 rs => cases rs; exact ⟨_, _, rfl, r, r2⟩
def rLen (K : PySem.W.Frag) : List V → Hp → VK → Prop := fun xs H Q => (∃ p ys, xs = [.ref p] ∧ (SqL K H p ys ∨ SqT K H p ys) ∧ Q (.int ys.length) H) ∨ (∃ z, xs = [.str z] ∧ z.length ≤ sizeLine ∧ Q (.int z.length) H)
def rBlt (K : PySem.W.Frag) : BF → List V → Hp → VK → Prop
  | .len => rLen K
  | .abs => fun xs H Q => ∃ i, xs = [.int i] ∧ Q (.int (if i < 0 then -i else i)) H
  | .int => fun xs H Q => ((∃ i, xs = [.int i] ∧ Q (.int i) H) ∨ ∃ k, xs = [.bl k] ∧ Q (.int (if k then 1 else 0)) H) ∨ (∃ a n, xs = [.str a] ∧ PySem.intText? a = some n ∧ a.length ≤ 640 ∧ Q (.int n) H)
  | .str => fun xs H Q => ∃ i, xs = [.int i] ∧ i.natAbs.log2 < 1920 ∧ Q (.str (toString i)) H
  | .max => fun xs H Q => (∃ i j, xs = [.int i, .int j] ∧ Q (.int (if j > i then j else i)) H) ∨ rMax K xs H Q
  | .min => fun xs H Q => (∃ i j, xs = [.int i, .int j] ∧ Q (.int (if j < i then j else i)) H) ∨ rMin K xs H Q
  | .sum => rSum K
  | .list => fun xs H Q => ∃ p ys, xs = [.ref p] ∧ (SqL K H p ys ∨ SqT K H p ys) ∧ ∀ l, H l = none → Q (.ref l) (upd H l (.lst ys))
  | .tuple => fun xs H Q => ∃ p ys, xs = [.ref p] ∧ ((SqL K H p ys ∧ ∀ l, H l = none → Q (.ref l) (upd H l (.tup ys))) ∨ (SqT K H p ys ∧ Q (.ref p) H))
  | _ => fun _ _ _ => False
theorem maxL_mem : ∀ (l : List Int), l ≠ [] → maxL l ∈ l ∧ ∀ y ∈ l, y ≤ maxL l
  | [], h => absurd rfl h
  | [x], _ => ⟨by simp [maxL], fun y hy => by simp at hy; subst hy; exact Int.le_refl _⟩
  | x :: y :: r, _ => by
    obtain ⟨h1, h2⟩ := maxL_mem (y :: r) (by simp)
    unfold maxL
    refine ⟨?_, fun z hz => ?_⟩
    · rcases Int.le_total x (maxL (y :: r)) with h | h
      · rw [Int.max_eq_right h]; exact List.mem_cons_of_mem _ h1
      · rw [Int.max_eq_left h]; exact List.mem_cons_self
    · rcases List.mem_cons.mp hz with rfl | hz
      · exact Int.le_max_left _ _
      · exact Int.le_trans (h2 z hz) (Int.le_max_right _ _)
theorem minL_mem : ∀ (l : List Int), l ≠ [] → minL l ∈ l ∧ ∀ y ∈ l, minL l ≤ y
  | [], h => absurd rfl h
  | [x], _ => ⟨by simp [minL], fun y hy => by simp at hy; subst hy; exact Int.le_refl _⟩
  | x :: y :: r, _ => by
    obtain ⟨h1, h2⟩ := minL_mem (y :: r) (by simp)
    unfold minL
    refine ⟨?_, fun z hz => ?_⟩
    · rcases Int.le_total x (minL (y :: r)) with h | h
      · rw [Int.min_eq_left h]; exact List.mem_cons_self
      · rw [Int.min_eq_right h]; exact List.mem_cons_of_mem _ h1
    · rcases List.mem_cons.mp hz with rfl | hz
      · exact Int.min_le_left _ _
      · exact Int.le_trans (Int.min_le_right _ _) (h2 z hz)
theorem log_ok {i : Int} (h : intOk i = true) : i.natAbs.log2 < 1920 := by
  have h2 := intOk_iff h
  have h3 : i.natAbs < 2 ^ 64 := by omega
  by_cases z : i.natAbs = 0
  · rw [z]; decide
  · exact Nat.lt_of_lt_of_le ((Nat.log2_lt z).mpr h3) (by decide)
theorem blt_ok {f : BF} {xs : List V} {ds : List D} {K : PySem.W.Frag} (hK : K = ρ.C.K) (R : Rel ρ.C ρ.B ρ.S0 S O st σ H) (hx : Bors ρ.C S H xs ds) (h : Kt ρ O st σ (pX ρ.C ρ.B O true) S H Q (ofO (bltD f ds))) (hf : f ≠ .lenset) : rBlt K f xs H Q := by
  subst hK
  cases e : bltD f ds with
  | none => rw [e] at h; exact h.elim
  | some d =>
    rw [e] at h
    have h : Kt ρ O st σ (pX ρ.C ρ.B O true) S H Q (.ok d) := h
    unfold bltD at e
    split at e
    · cases e
      obtain ⟨v, rfl, b⟩ := hx.one
      obtain ⟨a, vs, rfl, r1, q1⟩ := b.lst R.sh
      refine .inl ⟨a, vs, rfl, .inl r1.sql, ?_⟩
      rw [q1.length]
      exact h.sc R rfl (.int _)
    · cases e
      obtain ⟨v, rfl, b⟩ := hx.one
      obtain ⟨a, vs, rfl, r1, q1⟩ := b.tup R.sh
      refine .inl ⟨a, vs, rfl, .inr r1, ?_⟩
      rw [q1.length]
      exact h.sc R rfl (.int _)
    · split at e
      · rename_i hb
        cases e
        obtain ⟨v, rfl, b⟩ := hx.one
        cases b.str
        exact .inr ⟨_, rfl, Nat.le_trans hb big_line, h.sc R rfl (.int _)⟩
      · cases e
    · cases e
      obtain ⟨v, rfl, b⟩ := hx.one
      cases b.int
      exact ⟨_, rfl, h.sc R rfl (.int _)⟩
    · cases e
      obtain ⟨v, rfl, b⟩ := hx.one
      cases b.int
      exact .inl (.inl ⟨_, rfl, h.sc R rfl (.int _)⟩)
    · cases e
      obtain ⟨v, rfl, b⟩ := hx.one
      cases b.bl
      exact .inl (.inr ⟨_, rfl, h.sc R rfl (.int _)⟩)
    · split at e
      · rename_i s hb
        cases e
        obtain ⟨v, rfl, b⟩ := hx.one
        cases b.str
        have hl : s.length ≤ 640 := hb.1
        have e1 : TL.tl s = TL.numL (digitsVal s.cps.toList) := by
          have := TL.tl_num (digitsVal s.cps.toList)
          rw [show Str.ofString (toString ((digitsVal s.cps.toList : Nat) : Int)) = s from hb.2] at this
          exact this
        have h2 := TL.int_num (n := digitsVal s.cps.toList) (by rw [← e1, ← TL.len_tl]; omega)
        rw [show Str.ofString (toString ((digitsVal s.cps.toList : Nat) : Int)) = s from hb.2] at h2
        exact .inr ⟨s, _, rfl, h2, hl, h.sc R rfl (.int _)⟩
      · cases e
    · split at e
      · rename_i hb
        cases e
        obtain ⟨v, rfl, b⟩ := hx.one
        cases b.int
        exact ⟨_, rfl, log_ok hb, h.sc R rfl (.str _)⟩
      · cases e
    · cases e
      obtain ⟨v, w, rfl, b, b2⟩ := hx.two
      cases b.int
      cases b2.int
      exact .inl ⟨_, _, rfl, h.sc R rfl (.int _)⟩
    · cases e
      obtain ⟨v, w, rfl, b, b2⟩ := hx.two
      cases b.int
      cases b2.int
      exact .inl ⟨_, _, rfl, h.sc R rfl (.int _)⟩
    · rename_i xs0
      split at e
      · rename_i i r hi
        cases e
        obtain ⟨v, rfl, b⟩ := hx.one
        obtain ⟨a, vs, rfl, r1, q1⟩ := b.lst R.sh
        have e1 := q1.ints hi
        subst e1
        obtain ⟨m1, m2⟩ := maxL_mem (i :: r) (by simp)
        refine .inr ⟨a, i :: r, rfl, r1.sql, by simp, fun m g1 g2 => ?_⟩
        have : m = maxL (i :: r) := Int.le_antisymm (m2 m g1) (g2 _ m1)
        subst this
        exact h.sc R rfl (.int _)
      · cases e
    · rename_i xs0
      split at e
      · rename_i i r hi
        cases e
        obtain ⟨v, rfl, b⟩ := hx.one
        obtain ⟨a, vs, rfl, r1, q1⟩ := b.lst R.sh
        have e1 := q1.ints hi
        subst e1
        obtain ⟨m1, m2⟩ := minL_mem (i :: r) (by simp)
        refine .inr ⟨a, i :: r, rfl, r1.sql, by simp, fun m g1 g2 => ?_⟩
        have : m = minL (i :: r) := Int.le_antisymm (g2 _ m1) (m2 m g1)
        subst this
        exact h.sc R rfl (.int _)
      · cases e
    · obtain ⟨is, hi, rfl⟩ := Option.map_eq_some_iff.mp e
      obtain ⟨v, rfl, b⟩ := hx.one
      obtain ⟨a, vs, rfl, r1, q1⟩ := b.lst R.sh
      have e1 := q1.ints hi
      subst e1
      exact ⟨a, is, rfl, r1.sql, h.sc R rfl (.int _)⟩
    · cases e
      obtain ⟨v, rfl, b⟩ := hx.one
      obtain ⟨a, vs, rfl, r1, q1⟩ := b.lst R.sh
      exact ⟨a, vs, rfl, .inl r1.sql, fun l hl => h.newL R hl q1⟩
    · cases e
      obtain ⟨v, rfl, b⟩ := hx.one
      obtain ⟨a, vs, rfl, r1, q1⟩ := b.tup R.sh
      exact ⟨a, vs, rfl, .inr r1, fun l hl => h.newL R hl q1⟩
    · cases e
      obtain ⟨v, rfl, b⟩ := hx.one
      obtain ⟨a, vs, rfl, r1, q1⟩ := b.lst R.sh
      exact ⟨a, vs, rfl, .inl ⟨r1.sql, fun l hl => h.newT R hl q1⟩⟩
    · cases e
      obtain ⟨v, rfl, b⟩ := hx.one
      rcases b with b | ⟨_, _, z⟩
      · cases b with
        | tup r1 q1 => exact ⟨_, _, rfl, .inr ⟨R.sh.sqt r1, h.imm R rfl (.tup r1 q1)⟩⟩
      · exact z.elim
    · exact absurd rfl hf
    · cases e
end DL
end

section
set_option linter.all false
set_option maxRecDepth 100000
set_option maxHeartbeats 2000000
set_option Elab.async false
/-! DLq: methods of texts, isinstance, what is walked. -/
namespace DL
open PySem PySem.Spec PyProof.Rows L2
variable {ρ : Rn} {O : Own} {st : St} {σ : L2.St} {S H : Hp} {Q : VK} {x y : V} {dx dy : D} {fr : Bool}

/-! ### texts -/
theorem split_spl1 (c : Nat) : ∀ (l acc : List Nat), TL.spl [c] 0 acc l = splitAt1 c acc l
  | [], acc => by unfold TL.spl splitAt1; rfl
  | x :: r, acc => by
    unfold splitAt1
    by_cases h : x = c
    · subst h
      rw [if_pos rfl, TL.spl_hit (by simp [TL.pre])]
      exact congrArg (acc :: ·) (split_spl1 x r [])
    · rw [if_neg h, TL.spl_miss (by simp [TL.pre, h])]
      exact split_spl1 c r (acc ++ [x])
theorem join_joinL (s : List Nat) : ∀ l : List (List Nat), TL.joinL s l = joinAt s l
  | [] => rfl
  | [x] => rfl
  | x :: y :: r => by
    unfold TL.joinL joinAt
    rw [join_joinL s (y :: r), List.append_assoc]
theorem strOf_tl (s : Str) : (⟨s.cps.toList.toArray⟩ : Str) = s := by simp
theorem sum_le (k : Nat) : ∀ l : List Str, (l.all fun y => decide (y.cps.size ≤ k)) = true → (l.map (·.length)).sum ≤ l.length * k
  | [], _ => by simp
  | y :: r, h => by
    rw [List.all_cons, Bool.and_eq_true] at h
    have h1 := sum_le k r h.2
    have h2 : y.length ≤ k := of_decide_eq_true h.1
    rw [List.map_cons, List.sum_cons, List.length_cons, Nat.succ_mul]
    omega
def rBm (K : PySem.W.Frag) : BM → V → List V → Hp → VK → Prop
  | .join => fun x xs H Q => ∃ a p, ∃ ys : List Str, x = .str a ∧ xs = [.ref p] ∧ (SqL K H p (ys.map V.str) ∨ SqT K H p (ys.map V.str)) ∧
      (ys.map (·.length)).sum + ys.length * a.length ≤ 16777216 ∧ Q (.str (Txt.join a ys)) H
  | .split => fun x xs H Q => ∃ a b, x = .str a ∧ xs = [.str b] ∧ (b.length == 0) = false ∧ a.length + 2 ≤ sizeLine ∧ rNewStrs (Txt.split a b) H Q
  | _ => fun _ _ _ _ => False
theorem bm_str {m : BM} {ds : List D} {r : D} (h : bmD m dx ds = some r) : ∃ s, dx = .str s := by
  unfold bmD at h
  split at h
  · exact ⟨_, rfl⟩
  · exact ⟨_, rfl⟩
  · cases h
theorem reps_strs {C : Cn} {S : Hp} : ∀ l : List (List Nat), Reps C S ((l.map fun y => (⟨y.toArray⟩ : Str)).map V.str) (l.map fun y => D.str ⟨y.toArray⟩)
  | [] => .nil
  | y :: r => .cons (.str _) (reps_strs r)
theorem bm_ok {m : BM} {xs : List V} {ds : List D} {K : PySem.W.Frag} (hK : K = ρ.C.K) (R : Rel ρ.C ρ.B ρ.S0 S O st σ H) (hx : Bor ρ.C S H x dx) (hs : Bors ρ.C S H xs ds) (h : Kt ρ O st σ (pX ρ.C ρ.B O true) S H Q (ofO (bmD m dx ds))) : rBm K m x xs H Q := by
  subst hK
  cases e : bmD m dx ds with
  | none => rw [e] at h; exact h.elim
  | some d =>
    rw [e] at h
    have h : Kt ρ O st σ (pX ρ.C ρ.B O true) S H Q (.ok d) := h
    unfold bmD at e
    split at e
    · rename_i s xs0
      split at e
      · rename_i ys hy
        split at e
        · rename_i hc
          cases e
          obtain ⟨v, rfl, b⟩ := hs.one
          obtain ⟨a, vs, rfl, r1, q1⟩ := b.lst R.sh
          have e1 := q1.strs hy
          subst e1
          cases hx.str
          refine ⟨s, a, ys, rfl, rfl, .inl r1.sql, ?_, ?_⟩
          · have h1 := sum_le 2000 ys hc.2.2
            have h2 : ys.length * s.length ≤ 5000 * 1000 := Nat.mul_le_mul hc.2.1 hc.1
            have h3 : ys.length * 2000 ≤ 5000 * 2000 := Nat.mul_le_mul hc.2.1 (Nat.le_refl _)
            omega
          · have e2 : Txt.join s ys = ⟨(joinAt s.cps.toList (ys.map fun y => y.cps.toList)).toArray⟩ := by
              rw [TL.join_eq]
              refine TL.ext_tl ?_
              rw [TL.tl_join, join_joinL]
            rw [e2]
            exact h.sc R rfl (.str _)
        · cases e
      · cases e
    · rename_i s t
      split at e
      · rename_i c hc
        split at e
        · rename_i hb
          cases e
          obtain ⟨v, rfl, b⟩ := hs.one
          cases b.str
          cases hx.str
          have ht : t.length = 1 := by
            rw [TL.len_tl]
            show t.cps.toList.length = 1
            rw [hc]; rfl
          refine ⟨s, t, rfl, rfl, by rw [ht]; rfl, ?_, fun p hp => ?_⟩
          · have h1 : s.length ≤ big := hb.1
            have : big + 2 ≤ sizeLine := by rw [sizeLine_eq]; decide
            omega
          · have hk : ¬ Builtin.Str.strKind s < Builtin.Str.strKind t := by
              refine TL.kind_ok ?_
              rw [← Array.all_toList, hc]
              simp [hb.2]
            have e1 : (Txt.split s t).map TL.tl = splitAt1 c [] s.cps.toList := by
              rw [TL.split_spl s t (by show t.cps.toList ≠ []; rw [hc]; simp) hk]
              show TL.spl t.cps.toList 0 [] s.cps.toList = _
              rw [hc, split_spl1]
            have e2 : Txt.split s t = (splitAt1 c [] s.cps.toList).map fun y => (⟨y.toArray⟩ : Str) := by
              rw [← e1, List.map_map]
              have : ((fun y : List Nat => (⟨y.toArray⟩ : Str)) ∘ TL.tl) = id := by
                funext z; exact TL.mk_tl z
              rw [this, List.map_id]
            rw [e2]
            exact h.newL R hp (reps_strs _)
        · cases e
      · cases e
    · cases e
/-! ### isinstance -/
def tyS : Ty → String
  | .int => "int" | .bool => "bool" | .list => "list" | .tuple => "tuple" | .str => "str"
def tyD : D → String
  | .non => "NoneType" | .bl _ => "bool" | .int _ => "int" | .str _ => "str" | .lst _ => "list" | .tup _ => "tuple" | _ => ""
theorem tyx_of {C : Cn} {S H : Hp} {v : V} {d : D} (e : Ext S H) (h : Bor C S H v d) (n1 : ∀ c fs, d ≠ .obj c fs) (n2 : ∀ c fs, d ≠ .exn c fs) :
    TyX C.K H v (.type (tyD d)) := by
  cases d with
  | non => cases h.non; exact .base .non
  | bl b => cases h.bl; exact .base (.bl _)
  | int b => cases h.int; exact .base (.int _)
  | str b => cases h.str; exact .base (.str _)
  | lst ds =>
    obtain ⟨a, vs, rfl, r, _⟩ := h.lst e
    rcases r with (r | ⟨o, r⟩) | ⟨its, n, r, _⟩
    · exact .base (.lst r)
    · exact .base (.frz r)
    · exact .kList r rfl
  | tup ds =>
    obtain ⟨a, vs, rfl, r, _⟩ := h.tup e
    rcases r with (r | ⟨o, r⟩) | ⟨o, its, n, r, c, _⟩
    · exact .base (.tup r)
    · exact .fTuple r
    · exact .kTuple r c
  | obj c fs => exact absurd rfl (n1 c fs)
  | exn c fs => exact absurd rfl (n2 c fs)
theorem isi_ok {t : Ty} {K : PySem.W.Frag} (hK : K = ρ.C.K) (R : Rel ρ.C ρ.B ρ.S0 S O st σ H) (hx : Bor ρ.C S H x dx) (h : Kt ρ O st σ (pX ρ.C ρ.B O true) S H Q (match isiD t dx with | some b => .ok (.bl b) | none => .bad)) :
    rIsi K [x, .ty (tyS t)] H Q := by
  subst hK
  cases e : isiD t dx with
  | none => rw [e] at h; exact h.elim
  | some b =>
    rw [e] at h
    have n1 : ∀ c fs, dx ≠ .obj c fs := fun c fs z => by subst z; cases t <;> cases e
    have n2 : ∀ c fs, dx ≠ .exn c fs := fun c fs z => by subst z; cases t <;> cases e
    refine ⟨x, .ty (tyS t), _, _, b, rfl, .ty _, tyx_of R.sh hx n1 n2, kit_ty ?_, Kt.sc h R rfl (.bl _)⟩
    cases t <;> cases dx <;> first
      | exact absurd rfl (n1 _ _)
      | exact absurd rfl (n2 _ _)
      | (cases e; simp only [tyD, tyS]; decide +kernel)
/-! ### what is walked -/
/-- a walk over the items ds: what it asks of the heap holds wherever the stable part is S or more -/
def Wk (ρ : Rn) (J : It) (S : Hp) (ds : List D) : Prop := ∃ (G : Hp → Prop) (Y : Nat → Hp → V → Hp → Prop), Walk J ds.length G Y ∧ (∀ S' H, Ext S S' → Ext S' H → G H) ∧
  ∀ (B : Hp) (O : Own) S' st σ H i x H', Ext S S' → Rel ρ.C B ρ.S0 S' O st σ H → Y i H x H' → ∃ d S2, ds[i]? = some d ∧ Ext S' S2 ∧ Ext H H' ∧ Rel ρ.C B ρ.S0 S2 O st σ H' ∧ Rep ρ.C S2 x d
theorem wk_at {J : It} {vs : List V} {ds : List D} {G : Hp → Prop} (w : Walk J ds.length G (YAt vs)) (r : Reps ρ.C S vs ds) (g : ∀ S' H, Ext S S' → Ext S' H → G H) : Wk ρ J S ds :=
  ⟨G, _, w, g, fun B O S' st σ H i x H' e R y => by
    obtain ⟨rfl, hy⟩ := y
    obtain ⟨d, h1, h2⟩ := r.get hy
    exact ⟨d, S', h1, Ext.rfl' S', Ext.rfl' _, R, h2.mono e⟩⟩
theorem wk_list {a : Addr} {vs : List V} {ds : List D} (h : LsK ρ.C.K S a vs) (r : Reps ρ.C S vs ds) : Wk ρ (Itl ρ.C.K a) S ds := by
  refine wk_at (G := fun H => SqL ρ.C.K H a vs) ?_ r fun S' H e1 e2 => ((e1.trans e2).lsk h).sql
  rw [← r.length]; exact walk_list
theorem wk_tup {a : Addr} {vs : List V} {ds : List D} (h : SqT ρ.C.K S a vs) (r : Reps ρ.C S vs ds) : Wk ρ (Itt ρ.C.K a) S ds := by
  refine wk_at (G := fun H => SqT ρ.C.K H a vs) ?_ r fun S' H e1 e2 => (e1.trans e2).sqt h
  rw [← r.length]; exact walk_tup
theorem wk_rev {a : Addr} {vs : List V} {ds : List D} (h : LsK ρ.C.K S a vs) (r : Reps ρ.C S vs ds) : Wk ρ (Itv ρ.C.K a vs.length) S ds.reverse := by
  refine wk_at (vs := vs.reverse) (G := fun H => SqL ρ.C.K H a vs) ?_ r.reverse fun S' H e1 e2 => ((e1.trans e2).lsk h).sql
  rw [List.length_reverse, ← r.length]
  refine Walk.mono walk_rev (fun _ z => z) fun i H x H' hi _ y => ⟨y.1, ?_⟩
  rw [List.getElem?_reverse hi]; exact y.2
theorem wk_revT {a : Addr} {vs : List V} {ds : List D} (h : SqT ρ.C.K S a vs) (r : Reps ρ.C S vs ds) : Wk ρ (RT.ItvT ρ.C.K a vs.length) S ds.reverse := by
  refine wk_at (vs := vs.reverse) (G := fun H => SqT ρ.C.K H a vs) ⟨fun i H hi g => ?_, fun H g => ?_, fun i H x H' hi g y => ?_⟩ r.reverse fun S' H e1 e2 => (e1.trans e2).sqt h
  · rw [List.length_reverse, ← r.length] at hi
    exact ⟨hi, vs, vs[vs.length - 1 - i]'(by omega), g, by simp [show vs.length - 1 - i < vs.length by omega]⟩
  · rw [List.length_reverse, ← r.length]; exact Nat.le_refl _
  · rw [List.length_reverse, ← r.length] at hi
    refine ⟨y.1, ?_⟩
    rw [List.getElem?_reverse hi]; exact y.2 vs g
theorem wk_fn {J : It} {f : Nat → V} {g : Nat → D} {n : Nat} (w : Walk J n (fun _ => True) (YFn f)) (r : ∀ i S, Rep ρ.C S (f i) (g i)) : Wk ρ J S ((List.range n).map g) := by
  refine ⟨fun _ => True, fun i H x H' => i < n ∧ YFn f i H x H', ?_, fun _ _ _ _ => trivial, fun B O S' st σ H i x H' e R y => ?_⟩
  · rw [List.length_map, List.length_range]
    exact ⟨w.goes, w.stops, fun i H x H' hi z y => ⟨hi, w.yields i H x H' hi z y⟩⟩
  · obtain ⟨hi, rfl, rfl⟩ := y
    exact ⟨g i, S', by simp [hi], Ext.rfl' S', Ext.rfl' _, R, r i S'⟩
theorem wk_rng {lo hi : Int} : Wk ρ (Itr lo (hi - lo).toNat) S (rngD lo hi) := wk_fn walk_range fun i S => .int _
theorem wk_down {lo : Int} {n : Nat} : Wk ρ (Itc lo (-1) n) S ((List.range n).map fun k => .int (lo - (k : Nat))) := by
  refine wk_fn walk_rangeC fun i S => ?_
  have e : lo - (i : Int) = lo + (i : Int) * -1 := by omega
  rw [e]
  exact .int _
theorem wk_str {z : Str} : Wk ρ (Its z) S (z.cps.toList.map fun c => .str ⟨#[c]⟩) := by
  refine ⟨fun _ => True, fun i H v H' => H' = H ∧ ∃ c, z.cps[i]? = some c ∧ v = .str ⟨#[c]⟩, ?_, fun _ _ _ _ => trivial, fun B O S' st σ H i x H' e R y => ?_⟩
  · have e : (z.cps.toList.map fun c => D.str ⟨#[c]⟩).length = z.cps.size := by simp
    rw [e]; exact walk_str
  · obtain ⟨rfl, c, h1, rfl⟩ := y
    exact ⟨.str ⟨#[c]⟩, S', by simp [h1], Ext.rfl' S', Ext.rfl' _, R, .str _⟩
theorem pairUp_get : ∀ (xs ys : List D) (i : Nat), (pairUp xs ys)[i]? = match xs[i]?, ys[i]? with | some x, some y => some (D.tup [x, y]) | _, _ => none
  | [], ys, i => by simp [pairUp]
  | x :: xs, [], i => by cases i <;> simp [pairUp] <;> split <;> simp_all
  | x :: xs, y :: ys, 0 => by simp [pairUp]
  | x :: xs, y :: ys, i + 1 => by simpa [pairUp] using pairUp_get xs ys i
theorem pairUp_len : ∀ (xs ys : List D), (pairUp xs ys).length = min xs.length ys.length
  | [], ys => by simp [pairUp]
  | x :: xs, [] => by simp [pairUp]
  | x :: xs, y :: ys => by simp [pairUp, pairUp_len xs ys]
theorem numbered_get : ∀ (xs : List D) (k i : Nat), (numbered k xs)[i]? = (xs[i]?).map fun x => D.tup [.int ((k + i : Nat) : Int), x]
  | [], k, i => by simp [numbered]
  | x :: xs, k, 0 => by simp [numbered]
  | x :: xs, k, i + 1 => by
    have := numbered_get xs (k + 1) i
    simp only [numbered, List.getElem?_cons_succ, this]
    rw [show k + 1 + i = k + (i + 1) by omega]
theorem numbered_len : ∀ (xs : List D) (k : Nat), (numbered k xs).length = xs.length
  | [], _ => rfl
  | _ :: xs, k => by simp [numbered, numbered_len xs (k + 1)]
/-- new pairs -/
theorem wk_pair {J : It} {f g : Nat → Option V} {ds : List D} {G : Hp → Prop} (w : Walk J ds.length G (YPair f g)) (gG : ∀ S' H, Ext S S' → Ext S' H → G H)
    (r : ∀ i x y, f i = some x → g i = some y → ∃ d e, ds[i]? = some (.tup [d, e]) ∧ Rep ρ.C S x d ∧ Rep ρ.C S y e) : Wk ρ J S ds :=
  ⟨G, _, w, gG, fun B O S' st σ H i v H' e R yy => by
    obtain ⟨p, x, y, rfl, n, rfl, h1, h2⟩ := yy
    obtain ⟨d, d2, h3, r1, r2⟩ := r i x y h1 h2
    have ns := R.sh.none n
    have x1 : Ext S' (upd S' p (.tup [x, y])) := Ext.new ns
    exact ⟨_, upd S' p (.tup [x, y]), h3, x1, Ext.new n, R.laid n, .tup (.inl (.inl upd_same)) (.cons (r1.mono (e.trans x1)) (.cons (r2.mono (e.trans x1)) .nil))⟩⟩
theorem wk_zip {a b : Addr} {vs ws : List V} {ds es : List D} (h1 : LsK ρ.C.K S a vs) (r1 : Reps ρ.C S vs ds) (h2 : LsK ρ.C.K S b ws) (r2 : Reps ρ.C S ws es) : Wk ρ (Itz ρ.C.K a b) S (pairUp ds es) := by
  refine wk_pair (f := fun i => vs[i]?) (g := fun i => ws[i]?) (G := fun H => SqL ρ.C.K H a vs ∧ SqL ρ.C.K H b ws) (walk_zip ?_) (fun S' H e1 e2 => ⟨((e1.trans e2).lsk h1).sql, ((e1.trans e2).lsk h2).sql⟩) fun i x y e1 e2 => ?_
  · rw [pairUp_len, r1.length, r2.length]
  · obtain ⟨d, q1, p1⟩ := r1.get e1
    obtain ⟨d2, q2, p2⟩ := r2.get e2
    exact ⟨d, d2, by rw [pairUp_get, q1, q2], p1, p2⟩
theorem wk_enum {a : Addr} {vs : List V} {ds : List D} (h1 : LsK ρ.C.K S a vs) (r1 : Reps ρ.C S vs ds) : Wk ρ (Ite ρ.C.K a) S (numbered 0 ds) := by
  refine wk_pair (f := fun i => some (.int (i : Nat))) (g := fun i => vs[i]?) (G := fun H => SqL ρ.C.K H a vs) ?_ (fun S' H e1 e2 => ((e1.trans e2).lsk h1).sql) fun i x y e1 e2 => ?_
  · rw [numbered_len, ← r1.length]; exact walk_enum
  · obtain ⟨d, q1, p1⟩ := r1.get e2
    cases e1
    exact ⟨_, d, by rw [numbered_get, q1]; rfl, by rw [Nat.zero_add]; exact .int _, p1⟩
end DL
end

section
set_option linter.all false
set_option maxRecDepth 100000
set_option maxHeartbeats 1000000
set_option Elab.async false
/-! DLt: what a def promises, what is known in a def, inversions of the matching. -/
namespace DL
open PySem PySem.Spec PyProof.Rows L2

/-! ### slots that are not held alone -/
def fr (O : Own) (l : List Nat) : Prop := ∀ i ∈ l, own O i = false
theorem fr.app {O : Own} {l m : List Nat} (h : fr O (l ++ m)) : fr O l ∧ fr O m := ⟨fun i hi => h i (List.mem_append_left _ hi), fun i hi => h i (List.mem_append_right _ hi)⟩

/-! ### what a def promises -/
def newOf (S S' H : Hp) : Prop := ∀ a, S' a ≠ none → S a ≠ none ∨ H a = none
def scF (fs : List (Nat × D)) : Bool := fs.all fun p => isSc p.2
def KD (C : Cn) (kd : Nat) (S H : Hp) (Q : VK) (E : XK) : R → Prop
  | .ok d => ∀ S' v H', Ext S S' → Ext H H' → Ext S' H' → newOf S S' H → SlotOk C H S' H' (kd == 1) v d → (kd = 2 → isSc d = true) → Q v H'
  | .er c fs => ∀ S' H' dx, Ext S S' → Ext H H' → Ext S' H' → newOf S S' H → XRep C S' H' dx fs → (kd = 2 → scF fs = true) → E (.ref (C.cx c)) dx H'
  | .bad => False
def spD (C : Cn) (g : List D → R) (kd : Nat) : Sp := fun vs H Q E => ∃ S ds, Ext S H ∧ Reps C S vs ds ∧ KD C kd S H Q E (g ds)
def KI (C : Cn) (x : Addr) (S H0 : Hp) (Q : VK) (E : XK) : R → Prop
  | .ok d => ∀ S' H', Ext S S' → Ext H0 H' → Ext S' H' → newOf S S' H0 → SlotOk C H0 S' H' true (.ref x) d → Q .non H'
  | .er c fs => ∀ S' H' dx, Ext S S' → Ext H0 H' → Ext S' H' → newOf S S' H0 → XRep C S' H' dx fs → E (.ref (C.cx c)) dx H'
  | .bad => False
def spI (C : Cn) (c : Nat) (g : List D → R) : Sp := fun vs H Q E => ∃ x dx ws S ds H0, vs = .ref x :: ws ∧ H = upd (upd H0 dx (.own x)) x (.ins (C.cl c) dx []) ∧ H0 x = none ∧ H0 dx = none ∧ dx ≠ x ∧
  Ext S H0 ∧ Reps C S ws ds ∧ KI C x S H0 Q E (g ds)

/-! ### what is known -/
structure GF (z : Zx) (C : Cn) (T : Tb) (k : Nat) (P : Program) (w : World) (mg : Str → Option Value) (base : Heap) : Prop where
  cst : ∀ x v, z.cst x = some v → ∃ u, mg x = some u ∧ RelV (.int v) u
  blt : ∀ x ∈ (["len", "abs", "int", "str", "max", "min", "sum", "sorted", "list", "tuple", "range", "reversed", "zip", "enumerate", "isinstance", "bool", "set", "dict"] : List Str), mg x = none
  fn : ∀ i, z.okF i = true → ∃ f fd ps, FnOk P w C.K mg base (L2.CX P w) k f fd ps (spD C (T.fn i) (z.kd.fn i)) ∧ mg (z.fnN i) = some (.ref f) ∧ PySem.W.keepIn C.K (.ref f) = true ∧ Binds C.K fd ps []
  cls : ∀ c, Cls C.K (C.cl c)
  fld : ∀ f, z.okA f = true → ∀ c, NoAttr C.K (C.cl c) (C.an f)
  me : ∀ m, z.okM m = true → ∀ c i, T.me c m = some i → ∃ f fd ps, Meth C.K (C.cl c) (C.an m) f ∧ FnOk P w C.K mg base (L2.CX P w) k f fd ps (spD C (T.fn i) (z.kd.me m)) ∧ Binds C.K fd ps []
  pr : ∀ f, z.okP f = true → ∀ c i, T.pr c f = some i → ∃ p g fd ps, PropOf C.K (C.cl c) (C.an f) p g ∧ FnOk P w C.K mg base (L2.CX P w) k g fd ps (spD C (T.fn i) 0) ∧ Binds C.K fd ps []
  mkc : ∀ c, z.okK c = true → ∃ i, T.ini c = some i ∧ ∃ f fd ps, Mk C.K (C.cl c) f ∧ FnOk P w C.K mg base (L2.CX P w) k f fd ps (spI C c (T.fn i)) ∧ Binds C.K fd ps [] ∧ mg (z.clN c) = some (.ref (C.cl c))
  rx : ∀ c, z.okX c = true → ∃ B newId initId bmB, ExcBaseFacts B newId initId bmB ∧ PySem.W.excIn C.K (C.cx c) bmB newId = true ∧ mg (z.clN c) = some (.ref (C.cx c)) ∧ PySem.W.keepIn C.K (.ref (C.cx c)) = true ∧ (∀ X : Cx, X.K = C.K → Raises X (.ref (C.cx c)))
  hx : ∀ c, z.okH c = true → mg (z.clN c) = some (.ref (C.cx c))
  atn : ∀ f, z.atN f = C.an f
  inj : ∀ f g, C.an f = C.an g → f = g
structure XF (z : Zx) (ρ : Rn) (T : Tb) (k : Nat) (X : Cx) : Prop where
  N : X.N = z.N
  nd : z.N.Nodup
  sc : X.env.scope = z.sc
  K : X.K = ρ.C.K
  calm : X.calm = true
  hot : ∀ x, z.sc.names.lookup x = some .cell → z.hot x = true → X.fn x = true
  room : Room (k + 1) X.A
  tk : Takes X ρ.W
  gf : GF z ρ.C T k X.prog X.w X.mg X.base

variable {z : Zx} {ρ : Rn} {T : Tb} {k : Nat} {X : Cx} {O : Own} {x y : Expr} {m a b c : E} {es : Es}
/-- the block of a comprehension -/
def Rn.nox (ρ : Rn) : Rn := { ρ with W := fun _ _ _ _ => False }
theorem XF.blk (F : XF z ρ T k X) (s : Shared) (H : Hp) (scope : Scope) (C : Addr) (cl : List (Str × Addr)) (fp : List Addr) : XF (z.blk scope) ρ.nox T k (X.blk s H scope (compEnvC scope cl C X.env) fp) where
  N := F.N
  nd := F.nd
  sc := by
    show relS scope X.env.scope = relS scope z.sc
    rw [F.sc]
  K := F.K
  calm := F.calm
  hot := fun x _ h => h
  room := F.room
  tk := fun u s' ⟨a, B, sI, pins, σ, H, cls, d, e, I, nb, up, sky, na, os, ag, w⟩ => w.elim
  gf := ⟨F.gf.cst, F.gf.blt, F.gf.fn, F.gf.cls, F.gf.fld, F.gf.me, F.gf.pr, F.gf.mkc, F.gf.rx, F.gf.hx, F.gf.atn, F.gf.inj⟩
theorem XF.gl (F : XF z ρ T k X) {x : Str} (h : isGl z x = true) : Gl X x := by
  unfold Gl Env.kindOf
  rw [F.sc]
  exact of_decide_eq_true h
theorem XF.vis (F : XF z ρ T k X) {x : Str} (h : isVis z x = true) : Vis X.env.scope x := by
  unfold Vis
  rw [F.sc]
  unfold isVis at h
  split at h
  · exact .inl (by assumption)
  · exact .inr (.inl (by assumption))
  · exact .inr (.inr (by assumption))
  · cases h
theorem XF.loc (F : XF z ρ T k X) {x : Str} (h : isLoc z x = true) : L2.Loc X.env.scope x ∧ (X.fn x = true ∨ X.env.scope.names.lookup x = some .local) := by
  unfold L2.Loc
  rw [F.sc]
  unfold isLoc at h
  split at h
  · rename_i e; exact ⟨.inl e, .inr e⟩
  · rename_i e; exact ⟨.inr e, .inl (F.hot x e h)⟩
  · cases h
theorem XF.slot (F : XF z ρ T k X) {i : Nat} {x : Str} (h : slotIs z i x = true) : X.N[i]? = some x := by
  rw [F.N]; exact of_decide_eq_true h
theorem plainN_d {x : Str} (h : plainN x = true) : (x == ("__debug__" : Str)) = false ∧ (x == ("__classdict__" : Str)) = false := by
  unfold plainN at h
  simp only [Bool.and_eq_true, Bool.not_eq_true'] at h
  exact h
theorem XF.mgn (F : XF z ρ T k X) {x : Str} (h : x ∈ (["len", "abs", "int", "str", "max", "min", "sum", "sorted", "list", "tuple", "range", "reversed", "zip", "enumerate", "isinstance", "bool", "set", "dict"] : List Str)) : X.mg x = none := F.gf.blt x h

/-! ### no starred item, no set display, no slice -/
theorem mE_star {p : Pos} (h : mE z m (.Starred x p) = true) : False := by cases m <;> cases h
theorem mE_set {l : List Expr} {j : Nat} {p : Pos} (h : mE z m (.Set l j p) = true) : False := by cases m <;> cases h
theorem mE_slice {l u s : Option Expr} {p : Pos} (h : mE z m (.Slice l u s p) = true) : False := by cases m <;> cases h
theorem star1 {xs : List Expr} {env : Env} (h : mE z m x = true) : starEach (x :: xs) env = (false, eval x env) :: starEach xs env := by
  cases x <;> first | rfl | exact (mE_star h).elim
theorem stars : ∀ {es : Es} {xs : List Expr} {env : Env} {pos : Pos}, mEs z es xs = true → (backTo pos (starEach xs env)).any (·.1) = false ∧ (backTo pos (starEach xs env)).all (fun x => !x.1) = true ∧ (starEach xs env).length = xs.length
  | .nil, [], _, _, _ => ⟨rfl, rfl, rfl⟩
  | .nil, _ :: _, _, _, h => by cases h
  | .cons _ _, [], _, _, h => by cases h
  | .cons e es, x :: xs, env, pos, h => by
    have h : (mE z e x && mEs z es xs) = true := h
    simp only [Bool.and_eq_true] at h
    obtain ⟨i1, i2, i3⟩ := stars (env := env) (pos := pos) h.2
    rw [star1 h.1]
    refine ⟨?_, ?_, ?_⟩
    · show (false || (backTo pos (starEach xs env)).any (·.1)) = false
      rw [i1]; rfl
    · show (true && (backTo pos (starEach xs env)).all (fun x => !x.1)) = true
      rw [i2]; rfl
    · show (starEach xs env).length + 1 = xs.length + 1
      rw [i3]
theorem plainIx (h : mE z m x = true) : PlainIx x := by
  cases x <;> first | (intro o i; rfl) | exact (mE_slice h).elim
theorem nomark (h : mE z m x = true) (op : CmpOp) : behindInMarks op x = false := by
  cases x <;> first | rfl | exact (mE_set h).elim
theorem base_ok {x : Expr} {f : Str} {env : Env} (h : baseOk x = true) (whole : Sem Value) : attributeBase x f env whole = whole := by
  unfold attributeBase
  cases x with
  | Call g as ks pos =>
    cases g with
    | Name id p =>
      cases as with
      | nil =>
        cases ks with
        | nil =>
          have e : (id != "super") = true := by
            unfold baseOk at h
            simpa using h
          simp only [e, Bool.true_or, if_true]
        | cons _ _ => rfl
      | cons _ _ => rfl
    | _ => rfl
  | _ => rfl

/-! ### inversions -/
section
theorem inv_var {i : Nat} (h : mE z (.var i) x = true) : ∃ n p, x = .Name n p ∧ slotIs z i n = true ∧ isVis z n = true ∧ plainN n = true := by
  cases x with
  | Name n p =>
    have h : (slotIs z i n && isVis z n && plainN n) = true := h
    simp only [Bool.and_eq_true] at h
    exact ⟨n, p, rfl, h.1.1, h.1.2, h.2⟩
  | _ => cases h
theorem inv_non (h : mE z .non x = true) : ∃ j p, x = .Constant .none j p := by
  cases x with
  | Constant v j p => cases v <;> first | exact ⟨_, _, rfl⟩ | cases h
  | _ => cases h
theorem inv_bl {b : Bool} (h : mE z (.bl b) x = true) : ∃ j p, x = .Constant (.bool b) j p := by
  cases x with
  | Constant v j p =>
    cases v with
    | bool c =>
      have h : (b == c) = true := h
      cases eq_of_beq h
      exact ⟨_, _, rfl⟩
    | _ => cases h
  | _ => cases h
theorem inv_int {i : Int} (h : mE z (.int i) x = true) : ∃ j p, x = .Constant (.int i) j p := by
  cases x with
  | Constant v j p =>
    cases v with
    | int c =>
      have h : decide (i = c) = true := h
      cases of_decide_eq_true h
      exact ⟨_, _, rfl⟩
    | _ => cases h
  | _ => cases h
theorem inv_str {s : String} (h : mE z (.str s) x = true) : ∃ j p, x = .Constant (.str (Str.ofString s)) j p := by
  cases x with
  | Constant v j p =>
    cases v with
    | str c =>
      have h : decide (Str.ofString s = c) = true := h
      rw [of_decide_eq_true h]
      exact ⟨_, _, rfl⟩
    | _ => cases h
  | _ => cases h
theorem inv_glo {i : Nat} {v : Int} (h : mE z (.glo i v) x = true) : ∃ n p, x = .Name n p ∧ isGl z n = true ∧ plainN n = true ∧ z.cst n = some v := by
  cases x with
  | Name n p =>
    have h : (isGl z n && plainN n && decide (z.cst n = some v)) = true := h
    simp only [Bool.and_eq_true, decide_eq_true_eq] at h
    exact ⟨n, p, rfl, h.1.1, h.1.2, h.2⟩
  | _ => cases h
theorem inv_bin {o : BO} (h : mE z (.bin o a b) x = true) : ∃ y p w pos, x = .BinOp y p w pos ∧ opIs o p = true ∧ mE z a y = true ∧ mE z b w = true := by
  cases x with
  | BinOp y p w pos =>
    have h : (opIs o p && mE z a y && mE z b w) = true := h
    simp only [Bool.and_eq_true] at h
    exact ⟨y, p, w, pos, rfl, h.1.1, h.1.2, h.2⟩
  | _ => cases h
theorem inv_neg (h : mE z (.neg a) x = true) : ∃ y pos, x = .UnaryOp .USub y pos ∧ mE z a y = true := by
  cases x with
  | UnaryOp o y pos => cases o <;> first | exact ⟨y, pos, rfl, h⟩ | cases h
  | _ => cases h
theorem inv_not (h : mE z (.not a) x = true) : ∃ y pos, x = .UnaryOp .Not y pos ∧ mE z a y = true := by
  cases x with
  | UnaryOp o y pos => cases o <;> first | exact ⟨y, pos, rfl, h⟩ | cases h
  | _ => cases h
theorem inv_cmp {o : CO} (h : mE z (.cmp o a b) x = true) : ∃ y p w pos, x = .Compare y [p] [w] pos ∧ coIs o p = true ∧ mE z a y = true ∧ mE z b w = true := by
  cases x with
  | Compare y ops cs pos =>
    rcases ops with _ | ⟨p, _ | ⟨p2, ops⟩⟩ <;> rcases cs with _ | ⟨w, _ | ⟨w2, cs⟩⟩ <;> first | (cases h; done) | skip
    have h : (coIs o p && mE z a y && mE z b w) = true := h
    simp only [Bool.and_eq_true] at h
    exact ⟨y, p, w, pos, rfl, h.1.1, h.1.2, h.2⟩
  | _ => cases h
theorem inv_isc {n : Bool} {c : Option Bool} (h : mE z (.isc n a c) x = true) : ∃ y p w pos, x = .Compare y [p] [w] pos ∧ isIs n p = true ∧ constIs c w = true ∧ mE z a y = true := by
  cases x with
  | Compare y ops cs pos =>
    rcases ops with _ | ⟨p, _ | ⟨p2, ops⟩⟩ <;> rcases cs with _ | ⟨w, _ | ⟨w2, cs⟩⟩ <;> first | (cases h; done) | skip
    have h : (isIs n p && constIs c w && mE z a y) = true := h
    simp only [Bool.and_eq_true] at h
    exact ⟨y, p, w, pos, rfl, h.1.1, h.1.2, h.2⟩
  | _ => cases h
theorem inv_chn {o q : CO} (h : mE z (.chn o q a b c) x = true) : ∃ y p r w u pos, x = .Compare y [p, r] [w, u] pos ∧ coIs o p = true ∧ coIs q r = true ∧ mE z a y = true ∧ mE z b w = true ∧ mE z c u = true := by
  cases x with
  | Compare y ops cs pos =>
    rcases ops with _ | ⟨p, _ | ⟨p2, _ | ⟨p3, ops⟩⟩⟩ <;> rcases cs with _ | ⟨w, _ | ⟨w2, _ | ⟨w3, cs⟩⟩⟩ <;> first | (cases h; done) | skip
    have h : (coIs o p && coIs q p2 && mE z a y && mE z b w && mE z c w2) = true := h
    simp only [Bool.and_eq_true] at h
    exact ⟨y, p, p2, w, w2, pos, rfl, h.1.1.1.1, h.1.1.1.2, h.1.1.2, h.1.2, h.2⟩
  | _ => cases h
theorem inv_and (h : mE z (.and a b) x = true) : ∃ y w r pos, x = .BoolOp .And (y :: w :: r) pos ∧ mE z a y = true ∧ (r = [] → mE z b w = true) ∧ (r ≠ [] → mE z b (.BoolOp .And (w :: r) pos) = true) := by
  cases x with
  | BoolOp o l pos =>
    rcases l with _ | ⟨y, _ | ⟨w, r⟩⟩ <;> cases o <;> first | (cases h; done) | skip
    cases r with
    | nil =>
      have h : (mE z a y && mE z b w) = true := h
      simp only [Bool.and_eq_true] at h
      exact ⟨y, w, [], pos, rfl, h.1, fun _ => h.2, fun n => absurd rfl n⟩
    | cons u r =>
      have h : (mE z a y && mE z b (.BoolOp .And (w :: u :: r) pos)) = true := h
      simp only [Bool.and_eq_true] at h
      exact ⟨y, w, u :: r, pos, rfl, h.1, fun n => (by cases n), fun _ => h.2⟩
  | _ => cases h
theorem inv_or (h : mE z (.or a b) x = true) : ∃ y w r pos, x = .BoolOp .Or (y :: w :: r) pos ∧ mE z a y = true ∧ (r = [] → mE z b w = true) ∧ (r ≠ [] → mE z b (.BoolOp .Or (w :: r) pos) = true) := by
  cases x with
  | BoolOp o l pos =>
    rcases l with _ | ⟨y, _ | ⟨w, r⟩⟩ <;> cases o <;> first | (cases h; done) | skip
    cases r with
    | nil =>
      have h : (mE z a y && mE z b w) = true := h
      simp only [Bool.and_eq_true] at h
      exact ⟨y, w, [], pos, rfl, h.1, fun _ => h.2, fun n => absurd rfl n⟩
    | cons u r =>
      have h : (mE z a y && mE z b (.BoolOp .Or (w :: u :: r) pos)) = true := h
      simp only [Bool.and_eq_true] at h
      exact ⟨y, w, u :: r, pos, rfl, h.1, fun n => (by cases n), fun _ => h.2⟩
  | _ => cases h
theorem inv_ite (h : mE z (.ite c a b) x = true) : ∃ t y w pos, x = .IfExp t y w pos ∧ mE z c t = true ∧ mE z a y = true ∧ mE z b w = true := by
  cases x with
  | IfExp t y w pos =>
    have h : (mE z c t && mE z a y && mE z b w) = true := h
    simp only [Bool.and_eq_true] at h
    exact ⟨t, y, w, pos, rfl, h.1.1, h.1.2, h.2⟩
  | _ => cases h
theorem inv_lst (h : mE z (.lst es) x = true) : ∃ l pos, x = .List l pos ∧ l.length ≤ 1000 ∧ mEs z es l = true := by
  cases x with
  | List l pos =>
    have h : (decide (l.length ≤ 1000) && mEs z es l) = true := h
    simp only [Bool.and_eq_true, decide_eq_true_eq] at h
    exact ⟨l, pos, rfl, h.1, h.2⟩
  | _ => cases h
theorem inv_tup (h : mE z (.tup es) x = true) : ∃ l j pos, x = .Tuple l j pos ∧ l.length ≤ 1000 ∧ mEs z es l = true := by
  cases x with
  | Tuple l j pos =>
    have h : (decide (l.length ≤ 1000) && mEs z es l) = true := h
    simp only [Bool.and_eq_true, decide_eq_true_eq] at h
    exact ⟨l, j, pos, rfl, h.1, h.2⟩
  | _ => cases h
theorem inv_idx (h : mE z (.idx a b) x = true) : ∃ y w pos, x = .Subscript y w pos ∧ mE z a y = true ∧ mE z b w = true := by
  cases x with
  | Subscript y w pos =>
    have h : (mE z a y && mE z b w) = true := h
    simp only [Bool.and_eq_true] at h
    exact ⟨y, w, pos, rfl, h.1, h.2⟩
  | _ => cases h
theorem isOmit_eq (h : isOmit m = true) : m = .omit := by cases m <;> first | rfl | cases h
theorem inv_slc {lo hi : E} (h : mE z (.slc a lo hi) x = true) : ∃ y l u p pos, x = .Subscript y (.Slice l u none p) pos ∧ mE z a y = true ∧ ((l = none ∧ lo = .omit) ∨ ∃ w, l = some w ∧ mE z lo w = true) ∧ ((u = none ∧ hi = .omit) ∨ ∃ w, u = some w ∧ mE z hi w = true) := by
  cases x with
  | Subscript y w pos =>
    cases w with
    | Slice l u s p =>
      cases s with
      | some _ => cases h
      | none =>
        cases l <;> cases u
        · have h : (mE z a y && isOmit lo && isOmit hi) = true := h
          simp only [Bool.and_eq_true] at h
          exact ⟨y, _, _, p, pos, rfl, h.1.1, .inl ⟨rfl, isOmit_eq h.1.2⟩, .inl ⟨rfl, isOmit_eq h.2⟩⟩
        · rename_i w
          have h : (mE z a y && isOmit lo && mE z hi w) = true := h
          simp only [Bool.and_eq_true] at h
          exact ⟨y, _, _, p, pos, rfl, h.1.1, .inl ⟨rfl, isOmit_eq h.1.2⟩, .inr ⟨w, rfl, h.2⟩⟩
        · rename_i w
          have h : (mE z a y && mE z lo w && isOmit hi) = true := h
          simp only [Bool.and_eq_true] at h
          exact ⟨y, _, _, p, pos, rfl, h.1.1, .inr ⟨w, rfl, h.1.2⟩, .inl ⟨rfl, isOmit_eq h.2⟩⟩
        · rename_i w w2
          have h : (mE z a y && mE z lo w && mE z hi w2) = true := h
          simp only [Bool.and_eq_true] at h
          exact ⟨y, _, _, p, pos, rfl, h.1.1, .inr ⟨w, rfl, h.1.2⟩, .inr ⟨w2, rfl, h.2⟩⟩
    | _ => cases h
  | _ => cases h
theorem inv_att {f : Nat} (h : mE z (.att a f) x = true) : ∃ y s pos, x = .Attribute y s pos ∧ z.atN f = s ∧ z.okA f = true ∧ baseOk y = true ∧ mE z a y = true := by
  cases x with
  | Attribute y s pos =>
    have h : (decide (z.atN f = s) && z.okA f && baseOk y && mE z a y) = true := h
    simp only [Bool.and_eq_true, decide_eq_true_eq] at h
    exact ⟨y, s, pos, rfl, h.1.1.1, h.1.1.2, h.1.2, h.2⟩
  | _ => cases h
theorem inv_prp {f : Nat} (h : mE z (.prp a f) x = true) : ∃ y s pos, x = .Attribute y s pos ∧ z.atN f = s ∧ z.okP f = true ∧ baseOk y = true ∧ mE z a y = true := by
  cases x with
  | Attribute y s pos =>
    have h : (decide (z.atN f = s) && baseOk y && mE z a y && z.okP f) = true := h
    simp only [Bool.and_eq_true, decide_eq_true_eq] at h
    exact ⟨y, s, pos, rfl, h.1.1.1, h.2, h.1.1.2, h.1.2⟩
  | _ => cases h
theorem inv_call {f : Nat} (h : mE z (.call f es) x = true) : ∃ n p y ys pos, x = .Call (.Name n p) (y :: ys) [] pos ∧ z.fnN f = n ∧ z.okF f = true ∧ isGl z n = true ∧ plainN n = true ∧ mEs z es (y :: ys) = true := by
  cases x with
  | Call g as ks pos =>
    cases g with
    | Name n p =>
      rcases as with _ | ⟨y, ys⟩ <;> rcases ks with _ | ⟨w, ks⟩ <;> first | (cases h; done) | skip
      have h : (decide (z.fnN f = n) && z.okF f && isGl z n && plainN n && mEs z es (y :: ys)) = true := h
      simp only [Bool.and_eq_true, decide_eq_true_eq] at h
      exact ⟨n, p, y, ys, pos, rfl, h.1.1.1.1, h.1.1.1.2, h.1.1.2, h.1.2, h.2⟩
    | _ => cases h
  | _ => cases h
theorem inv_make {f : Nat} (h : mE z (.make f es) x = true) : ∃ n p y ys pos, x = .Call (.Name n p) (y :: ys) [] pos ∧ z.clN f = n ∧ z.okK f = true ∧ isGl z n = true ∧ plainN n = true ∧ mEs z es (y :: ys) = true := by
  cases x with
  | Call g as ks pos =>
    cases g with
    | Name n p =>
      rcases as with _ | ⟨y, ys⟩ <;> rcases ks with _ | ⟨w, ks⟩ <;> first | (cases h; done) | skip
      have h : (decide (z.clN f = n) && z.okK f && isGl z n && plainN n && mEs z es (y :: ys)) = true := h
      simp only [Bool.and_eq_true, decide_eq_true_eq] at h
      exact ⟨n, p, y, ys, pos, rfl, h.1.1.1.1, h.1.1.1.2, h.1.1.2, h.1.2, h.2⟩
    | _ => cases h
  | _ => cases h
theorem inv_meth {f : Nat} (h : mE z (.meth a f es) x = true) : ∃ y s ap ys pos, x = .Call (.Attribute y s ap) ys [] pos ∧ z.atN f = s ∧ z.okM f = true ∧ baseOk y = true ∧ (ap.endLine == pos.line) = true ∧ ys.length < 29 ∧ mE z a y = true ∧ mEs z es ys = true := by
  cases x with
  | Call g as ks pos =>
    cases g with
    | Attribute y s ap =>
      rcases ks with _ | ⟨w, ks⟩ <;> first | (cases h; done) | skip
      have h : (decide (z.atN f = s) && z.okM f && baseOk y && (ap.endLine == pos.line) && decide (as.length < 29) && mE z a y && mEs z es as) = true := h
      simp only [Bool.and_eq_true, decide_eq_true_eq] at h
      exact ⟨y, s, ap, as, pos, rfl, h.1.1.1.1.1.1, h.1.1.1.1.1.2, h.1.1.1.1.2, h.1.1.1.2, h.1.1.2, h.1.2, h.2⟩
    | _ => cases h
  | _ => cases h
theorem inv_blt {f : BF} (h : mE z (.blt f es) x = true) : ∃ n p y ys pos, x = .Call (.Name n p) (y :: ys) [] pos ∧ f ≠ .lenset ∧ bfN f = n ∧ isGl z n = true ∧ mEs z es (y :: ys) = true := by
  cases x with
  | Call g as ks pos =>
    cases g with
    | Name n p =>
      rcases as with _ | ⟨y, ys⟩ <;> rcases ks with _ | ⟨w, ks⟩ <;> first | (cases h; done) | skip
      cases f <;> first | (cases h; done) | skip
      all_goals
        replace h := (Bool.and_eq_true _ _).mp h
        have h1 := (Bool.and_eq_true _ _).mp h.1
        exact ⟨n, p, y, ys, pos, rfl, by decide, of_decide_eq_true h1.1, h1.2, h.2⟩
    | _ => cases h
  | _ => cases h
theorem inv_lsr (h : mE z (.lsr a) x = true) : ∃ p q w pos pos2, x = .Call (.Name "list" p) [.Call (.Name "range" q) [w] [] pos2] [] pos ∧ isGl z "list" = true ∧ isGl z "range" = true ∧ mE z a w = true := by
  cases x with
  | Call g as ks pos =>
    cases g with
    | Name n p =>
      rcases as with _ | ⟨y, _ | ⟨y2, ys⟩⟩ <;> rcases ks with _ | ⟨w, ks⟩ <;> first | (cases h; done) | (exfalso; revert h; unfold mE; split <;> simp_all; done) | skip
      cases y with
      | Call g2 as2 ks2 pos2 =>
        cases g2 with
        | Name n2 p2 =>
          rcases as2 with _ | ⟨w, _ | ⟨y2, ys⟩⟩ <;> rcases ks2 with _ | ⟨w2, ks⟩ <;> first | (cases h; done) | (exfalso; revert h; unfold mE; split <;> simp_all; done) | skip
          have h : (decide (n = ("list" : Str)) && decide (n2 = ("range" : Str)) && isGl z n && isGl z n2 && mE z a w) = true := h
          simp only [Bool.and_eq_true, decide_eq_true_eq] at h
          obtain ⟨⟨⟨⟨rfl, rfl⟩, h3⟩, h4⟩, h5⟩ := h
          exact ⟨_, _, _, _, _, rfl, h3, h4, h5⟩
        | _ => cases h
      | _ => cases h
    | _ => cases h
  | _ => cases h
theorem inv_bm {f : BM} (h : mE z (.bm f a es) x = true) : ∃ y s ap w ys pos, x = .Call (.Attribute y s ap) (w :: ys) [] pos ∧ bmOk f = true ∧ bmN f = s ∧ baseOk y = true ∧ (ap.endLine == pos.line) = true ∧ ys.length < 28 ∧ mE z a y = true ∧ mEs z es (w :: ys) = true := by
  cases x with
  | Call g as ks pos =>
    cases g with
    | Attribute y s ap =>
      rcases as with _ | ⟨w, ys⟩ <;> rcases ks with _ | ⟨w2, ks⟩ <;> first | (cases h; done) | skip
      have h : (bmOk f && decide (bmN f = s) && baseOk y && (ap.endLine == pos.line) && decide (ys.length < 28) && mE z a y && mEs z es (w :: ys)) = true := h
      simp only [Bool.and_eq_true, decide_eq_true_eq] at h
      exact ⟨y, s, ap, w, ys, pos, rfl, h.1.1.1.1.1.1, h.1.1.1.1.1.2, h.1.1.1.1.2, h.1.1.1.2, h.1.1.2, h.1.2, h.2⟩
    | _ => cases h
  | _ => cases h
theorem inv_isi {t : Ty} (h : mE z (.isi a t) x = true) : ∃ p y p2 pos, x = .Call (.Name "isinstance" p) [y, .Name (tyN t) p2] [] pos ∧ isGl z "isinstance" = true ∧ isGl z (tyN t) = true ∧ mE z a y = true := by
  cases x with
  | Call g as ks pos =>
    cases g with
    | Name n p =>
      rcases as with _ | ⟨y, _ | ⟨y2, _ | ⟨y3, ys⟩⟩⟩ <;> rcases ks with _ | ⟨w, ks⟩ <;> first | (cases h; done) | (exfalso; revert h; unfold mE; split <;> simp_all; done) | skip
      cases y2 with
      | Name n2 p2 =>
        have h : (decide (n = ("isinstance" : Str)) && isGl z n && decide (n2 = tyN t) && isGl z n2 && mE z a y) = true := h
        simp only [Bool.and_eq_true, decide_eq_true_eq] at h
        obtain ⟨⟨⟨⟨rfl, h2⟩, rfl⟩, h4⟩, h5⟩ := h
        exact ⟨_, _, _, _, rfl, h2, h4, h5⟩
      | _ => cases h
    | _ => cases h
  | _ => cases h
theorem inv_cmpr {u : E} {p : P} {it : I} (h : mE z (.cmpr u p it) x = true) : ∃ e tg ie sc pos, x = .ListComp e [⟨tg, ie, [], 0⟩] sc pos ∧ blkC z.N z.sc sc (ownN z p.slots) = true ∧ mI z it tg ie = true ∧ mP (z.blk sc) p tg = true ∧ mE (z.blk sc) u e = true := by
  cases x with
  | ListComp e gs sc pos =>
    rcases gs with _ | ⟨⟨tg, ie, ifs, as⟩, _ | ⟨g2, gs⟩⟩ <;> first | (cases h; done) | (exfalso; revert h; unfold mE; split <;> simp_all; done) | skip
    rcases ifs with _ | ⟨i1, ifs⟩ <;> first | (cases h; done) | (exfalso; revert h; unfold mE; split <;> simp_all; done) | skip
    by_cases ha : as = 0
    · subst ha
      have h : (blkC z.N z.sc sc (ownN z p.slots) && mI z it tg ie && mP (z.blk sc) p tg && mE (z.blk sc) u e) = true := h
      simp only [Bool.and_eq_true] at h
      exact ⟨e, tg, ie, sc, pos, rfl, h.1.1.1, h.1.1.2, h.1.2, h.2⟩
    · exfalso
      revert h
      unfold mE
      split <;> simp_all
  | _ => cases h
theorem inv_cmpi {u c : E} {p : P} {it : I} (h : mE z (.cmpi u p it c) x = true) : ∃ e tg ie ce sc pos, x = .ListComp e [⟨tg, ie, [ce], 0⟩] sc pos ∧ blkC z.N z.sc sc (ownN z p.slots) = true ∧ mI z it tg ie = true ∧ mP (z.blk sc) p tg = true ∧ mE (z.blk sc) u e = true ∧ mE (z.blk sc) c ce = true := by
  cases x with
  | ListComp e gs sc pos =>
    rcases gs with _ | ⟨⟨tg, ie, ifs, as⟩, _ | ⟨g2, gs⟩⟩ <;> first | (cases h; done) | (exfalso; revert h; unfold mE; split <;> simp_all; done) | skip
    rcases ifs with _ | ⟨i1, _ | ⟨i2, ifs⟩⟩ <;> first | (cases h; done) | (exfalso; revert h; unfold mE; split <;> simp_all; done) | skip
    by_cases ha : as = 0
    · subst ha
      have h : (blkC z.N z.sc sc (ownN z p.slots) && mI z it tg ie && mP (z.blk sc) p tg && mE (z.blk sc) u e && mE (z.blk sc) c i1) = true := h
      simp only [Bool.and_eq_true] at h
      exact ⟨e, tg, ie, i1, sc, pos, rfl, h.1.1.1.1, h.1.1.1.2, h.1.1.2, h.1.2, h.2⟩
    · exfalso
      revert h
      unfold mE
      split <;> simp_all
  | _ => cases h
end
end DL
end

section
set_option linter.all false
set_option maxRecDepth 100000
set_option maxHeartbeats 1000000
set_option Elab.async false
/-! DLu: expressions, case by case. -/
namespace DL
open PySem PySem.Spec PyProof.Rows L2

structure OkE (ρ : Rn) (T : Tb) (X : Cx) (O : Own) (m : E) (x : Expr) (f : Bool) : Prop where
  pe : PE X x (tG ρ T O m (pX ρ.C ρ.B O f))
  pt : PT X x (tGT ρ T O m)
  pw : ∀ op es p, x = .BoolOp op es p → PW X x (tGT ρ T O m)
def SE (m : E) : Prop := ∀ {z : Zx} {ρ : Rn} {T : Tb} {k : Nat} {X : Cx} {O : Own} {x : Expr}, XF z ρ T k X → mE z m x = true → fr O (lk z.kd m) → OkE ρ T X O m x (fresh z.kd m)
structure OkEs (ρ : Rn) (T : Tb) (X : Cx) (O : Own) (es : Es) (xs : List Expr) : Prop where
  pa : PA X xs (tGL ρ T O es fun S _ => Reps ρ.C S)
def SEs (es : Es) : Prop := (∀ {z : Zx} {ρ : Rn} {T : Tb} {k : Nat} {X : Cx} {O : Own} {xs : List Expr}, XF z ρ T k X → mEs z es xs = true → fr O (lkEs z.kd es) → PA X xs (tGL ρ T O es fun S _ => Reps ρ.C S)) ∧
  (∀ {z : Zx} {ρ : Rn} {T : Tb} {k : Nat} {X : Cx} {O : Own} {xs : List Expr}, XF z ρ T k X → mEs z es xs = true → fr O (bwEs z.kd es) → PA X xs (tGL ρ T O es (Bors ρ.C)))

variable {z : Zx} {ρ : Rn} {T : Tb} {k : Nat} {X : Cx} {O : Own} {x y : Expr} {m a b c : E} {es : Es} {σ : L2.St} {H : Hp} {S : Hp} {st : St} {Q : VK}

/-! ### helpers -/
theorem OkE.val {f : Bool} (h : PE X x (tG ρ T O m (pX ρ.C ρ.B O f))) (he : ∀ whole, isTrue x X.env whole = (do let v ← whole; standAt x.pos; holding [v] (truthy v))) (nb : ∀ op es p, x ≠ .BoolOp op es p) : OkE ρ T X O m x f :=
  ⟨h, PTval h he, fun op es p e => absurd e (nb op es p)⟩
theorem var_bor {i : Nat} (F : XF z ρ T k X) (h : mE z (.var i) x = true) : PE X x (tG ρ T O (.var i) (pB ρ.C)) := by
  obtain ⟨n, p, rfl, h1, h2, h3⟩ := inv_var h
  refine PEof (pe_var (F.slot h1) (F.vis h2) (plainN_d h3).1 (plainN_d h3).2) fun σ H Q ⟨S, st, R, q⟩ => ?_
  have q : Kt ρ O st σ (pB ρ.C) S H Q (match st[i]? with | some (some d) => .ok d | _ => .bad) := q
  split at q
  · rename_i d e
    obtain ⟨v, hv, hs⟩ := R.slot i d e
    exact ⟨v, hv, q S v H (Ext.rfl' S) (Ext.rfl' H) R hs.bor⟩
  · exact q.elim
theorem SE.bor (h : SE m) (F : XF z ρ T k X) (hm : mE z m x = true) (hf : fr O (bw z.kd m)) : PE X x (tG ρ T O m (pB ρ.C)) := by
  cases m
  case var i => exact var_bor F hm
  all_goals exact PEb (h F hm hf).pe
theorem SE.rep (h : SE m) (F : XF z ρ T k X) (hm : mE z m x = true) (hf : fr O (lk z.kd m)) : PE X x (tG ρ T O m (pF ρ.C)) := PEf (h F hm hf).pe

/-! ### names, constants -/
theorem se_var (i : Nat) : SE (.var i) := fun {z ρ T k X O x} F h hf => by
  have e0 := h
  obtain ⟨n, p, rfl, h1, h2, h3⟩ := inv_var h
  refine .val ?_ (fun _ => rfl) (fun _ _ _ e => by cases e)
  refine PEof (pe_var (F.slot h1) (F.vis h2) (plainN_d h3).1 (plainN_d h3).2) fun σ H Q ⟨S, st, R, q⟩ => ?_
  have q : Kt ρ O st σ (pX ρ.C ρ.B O false) S H Q (match st[i]? with | some (some d) => .ok d | _ => .bad) := q
  split at q
  · rename_i d e
    obtain ⟨v, hv, hs⟩ := R.slot i d e
    have ho : own O i = false := hf i (by show i ∈ [i]; simp)
    rw [ho] at hs
    refine ⟨v, hv, q S v H (Ext.rfl' S) (Ext.rfl' H) R (RepX.still ?_)⟩
    rcases hs with ⟨z, _⟩ | ⟨_, r⟩
    · cases z
    · exact r
  · exact q.elim
theorem const_r {d : D} {v : V} {f : Bool} (hm : ∀ st, evE T m st = .ok d) (hs : isSc d = true) (r : ∀ S, Rep ρ.C S v d) (h : tG ρ T O m (pX ρ.C ρ.B O f) σ H Q) : tC v σ H Q := by
  obtain ⟨S, st, R, q⟩ := h
  rw [hm] at q
  exact Kt.sc q R hs (r S)
theorem se_non : SE .non := fun {z ρ T k X O x} F h hf => by
  obtain ⟨j, p, rfl⟩ := inv_non h
  refine .val (PEof (t' := tC .non) ⟨fun _ _ _ H _ I h => Constant_none ⟨.non, H, I, rfl, h⟩⟩ fun σ H Q q => const_r (fun st => rfl) rfl (fun S => .non) q) (fun _ => rfl) (fun _ _ _ e => by cases e)
theorem se_bl (b : Bool) : SE (.bl b) := fun {z ρ T k X O x} F h hf => by
  obtain ⟨j, p, rfl⟩ := inv_bl h
  refine .val (PEof (t' := tC (.bl b)) ⟨fun _ _ _ H _ I h => Constant_bool ⟨.bl b, H, I, rfl, h⟩⟩ fun σ H Q q => const_r (fun st => rfl) rfl (fun S => .bl b) q) (fun _ => rfl) (fun _ _ _ e => by cases e)
theorem se_int (i : Int) : SE (.int i) := fun {z ρ T k X O x} F h hf => by
  obtain ⟨j, p, rfl⟩ := inv_int h
  refine .val (PEof pe_int fun σ H Q q => const_r (fun st => rfl) rfl (fun S => .int i) q) (fun _ => rfl) (fun _ _ _ e => by cases e)
theorem se_str (s : String) : SE (.str s) := fun {z ρ T k X O x} F h hf => by
  obtain ⟨j, p, rfl⟩ := inv_str h
  refine .val (PEof pe_str fun σ H Q q => const_r (fun st => rfl) rfl (fun S => .str _) q) (fun _ => rfl) (fun _ _ _ e => by cases e)
theorem se_glo (i : Nat) (v : Int) : SE (.glo i v) := fun {z ρ T k X O x} F h hf => by
  obtain ⟨n, p, rfl, h1, h2, h3⟩ := inv_glo h
  obtain ⟨u, hu, r⟩ := F.gf.cst n v h3
  refine .val (PEof (pe_glob (F.gl h1) hu r (plainN_d h2).1) fun σ H Q q => const_r (fun st => rfl) rfl (fun S => .int v) q) (fun _ => rfl) (fun _ _ _ e => by cases e)
theorem se_omit : SE .omit := fun {z ρ T k X O x} F h hf => by cases x <;> cases h

/-! ### operators -/
theorem se_bin (o : BO) (ha : SE a) (hb : SE b) : SE (.bin o a b) := fun {z ρ T k X O x} F h hf => by
  obtain ⟨y, p, w, pos, rfl, h1, h2, h3⟩ := inv_bin h
  have hf : fr O (bw z.kd a ++ bw z.kd b) := hf
  refine .val (PEof (pe_op (op_bin h1) (ha.bor F h2 hf.app.1) (hb.bor F h3 hf.app.2)) fun σ H Q q => ?_) (fun _ => rfl) (fun _ _ _ e => by cases e)
  rw [F.K]
  exact bin_r (f := fun dx dy => ofO (binD o dx dy)) (r := fun x y H2 => rBin ρ.C.K o x y H2 Q) pB_grows (fun st => rfl) q fun st S' H' x y dx dy R hx hy q => bin_ok R hx hy q
def rNeg : V → Hp → VK → Prop := fun x H Q => ∃ i, x = .int i ∧ Q (.int (-i)) H
theorem op_neg : UnR X (unaryOp .USub) rNeg := by
  intro pins s σ H x v Q I rx ⟨i, e, q⟩
  subst e
  obtain ⟨t, rfl⟩ := rx
  exact neg_int ⟨.int _, H, I.tok _, ⟨_, rfl⟩, q⟩
theorem se_neg (ha : SE a) : SE (.neg a) := fun {z ρ T k X O x} F h hf => by
  obtain ⟨y, pos, rfl, h1⟩ := inv_neg h
  have hf : fr O (bw z.kd a) := hf
  refine .val (PEof (pe_un op_neg (ha.bor F h1 hf)) fun σ H Q q => ?_) (fun _ => rfl) (fun _ _ _ e => by cases e)
  refine un_r (f := fun d => ofO (negD d)) (fun st => rfl) q fun st S' H' x dx R hx q => ?_
  cases dx with
  | int i => exact ⟨i, Bor.int hx, Kt.sc q R rfl (.int _)⟩
  | _ => exact q.elim
theorem se_cmp (o : CO) (ha : SE a) (hb : SE b) : SE (.cmp o a b) := fun {z ρ T k X O x} F h hf => by
  obtain ⟨y, p, w, pos, rfl, h1, h2, h3⟩ := inv_cmp h
  have hf : fr O (bw z.kd a ++ bw z.kd b) := hf
  have ho := op_cmp F.room h1
  have i : ∀ σ H Q, tG ρ T O (.cmp o a b) (pX ρ.C ρ.B O true) σ H Q → tOp (rCmp X.K o) (tG ρ T O a (pB ρ.C)) (tG ρ T O b (pB ρ.C)) σ H Q := fun σ H Q q =>
    bin_r (f := fun dx dy => ofO (cmpD o dx dy)) (r := fun x y H2 => rCmp X.K o x y H2 Q) pB_grows (fun st => rfl) q fun st S' H' x y dx dy R hx hy q => cmp_ok F.K R hx hy q
  exact ⟨PEof (pe_cmpR ho (ha.bor F h2 hf.app.1) (hb.bor F h3 hf.app.2) (nomark h3 p)) i, PTtest (pt_cmpR ho (ha.bor F h2 hf.app.1) (hb.bor F h3 hf.app.2) (nomark h3 p)) i, fun _ _ _ e => by cases e⟩
def csV : Option Bool → V
  | none => .non
  | some b => .bl b
theorem const_pe {n : Option Bool} (h : constIs n x = true) : PE X x (tC (csV n)) ∧ ∀ op, behindInMarks op x = false := by
  cases x with
  | Constant v j p =>
    cases n with
    | none =>
      cases v <;> first | (cases h; done) | skip
      exact ⟨⟨fun _ _ _ H _ I h => Constant_none ⟨.non, H, I, rfl, h⟩⟩, fun _ => rfl⟩
    | some b =>
      cases v with
      | bool c =>
        have h : (b == c) = true := h
        cases eq_of_beq h
        exact ⟨⟨fun _ _ _ H _ I h => Constant_bool ⟨.bl b, H, I, rfl, h⟩⟩, fun _ => rfl⟩
      | _ => cases h
  | _ => cases n <;> cases h
theorem se_isc (n : Bool) (cc : Option Bool) (ha : SE a) : SE (.isc n a cc) := fun {z ρ T k X O x} F h hf => by
  obtain ⟨y, p, w, pos, rfl, h1, h2, h3⟩ := inv_isc h
  have hf : fr O (bw z.kd a) := hf
  obtain ⟨c1, c2⟩ := const_pe (X := X) h2
  have i : ∀ σ H Q, tG ρ T O (.isc n a cc) (pX ρ.C ρ.B O true) σ H Q → tOp (rIs n cc) (tG ρ T O a (pB ρ.C)) (tC (csV cc)) σ H Q := fun σ H Q q =>
    un_r (f := fun d => ofO (isD n d cc)) (r := fun x H1 => rIs n cc x (csV cc) H1 Q) (fun st => rfl) q fun st S' H' x dx R hx q => is_ok R hx (by cases cc <;> rfl) q
  exact ⟨PEof (pe_cmpR (op_is h1) (ha.bor F h3 hf) c1 (c2 p)) i, PTtest (pt_cmpR (op_is h1) (ha.bor F h3 hf) c1 (c2 p)) i, fun _ _ _ e => by cases e⟩
/-- behind a result that is a truth value -/
theorem Kt.test {r : R} {P : Pv} {kf : Bool → R} (hP : ∀ st σ S H v b, P st σ S H v (.bl b) → v = .bl b) {g : D → R} (hg : ∀ d, g d = match d with | .bl b => kf b | _ => .bad) (h : Kt ρ O st σ (pX ρ.C ρ.B O true) S H Q (r.bind g)) {Q' : VK}
    (k : ∀ b S' H', Ext S S' → Ext H H' → Rel ρ.C ρ.B ρ.S0 S' O st σ H' → Kt ρ O st σ (pX ρ.C ρ.B O true) S' H' Q (kf b) → Q' (.bl b) H') : Kt ρ O st σ P S H Q' r := by
  cases r with
  | ok d =>
    have h : Kt ρ O st σ (pX ρ.C ρ.B O true) S H Q (g d) := h
    rw [hg] at h
    cases d with
    | bl b =>
      intro S' v H' a1 a2 R' p
      rw [hP _ _ _ _ _ _ p]
      exact k b S' H' a1 a2 R' (Kt.mono h a1 a2)
    | _ => exact h.elim
  | er c fs => exact h
  | bad => exact h
theorem chn_k (d : D) (r : R) : (match d with
    | .bl true => r
    | .bl false => .ok (.bl false)
    | _ => .bad) = (match d with | .bl b => (fun b => if b = true then r else R.ok (.bl false)) b | _ => .bad) := by
  cases d with
  | bl b => cases b <;> rfl
  | _ => rfl
theorem lm {op op' : CmpOp} {u w : Expr} (h : mE z m w = true) : lastMarks [op, op'] [u, w] = false := by
  show behindInMarks op' w = false
  exact nomark h op'
theorem se_chn (o q : CO) (ha : SE a) (hb : SE b) (hc : SE c) : SE (.chn o q a b c) := fun {z ρ T k X O x} F h hf => by
  obtain ⟨y, p, r, w, u, pos, rfl, h1, h1', h2, h3, h4⟩ := inv_chn h
  have hf : fr O (bw z.kd a ++ bw z.kd b ++ bw z.kd c) := hf
  have ho := op_cmp F.room h1
  have ho' := op_cmp F.room h1'
  have i : ∀ σ H Q, tG ρ T O (.chn o q a b c) (pX ρ.C ρ.B O true) σ H Q → tChain (rCmp X.K o) (rCmp X.K q) (tG ρ T O a (pB ρ.C)) (tG ρ T O b (pB ρ.C)) (tG ρ T O c (pB ρ.C)) σ H Q := fun σ H Q h => by
    obtain ⟨S, st, R, h⟩ := h
    refine ⟨S, st, R, ?_⟩
    have h : Kt ρ O st σ (pX ρ.C ρ.B O true) S H Q ((evE T a st).bind fun x => (evE T b st).bind fun y => (ofO (cmpD o x y)).bind fun r => match r with
      | .bl true => (evE T c st).bind fun z => ofO (cmpD q y z)
      | .bl false => .ok (.bl false)
      | _ => .bad) := h
    cases e : evE T a st with
    | er c fs => rw [e] at h; exact h
    | bad => rw [e] at h; exact h
    | ok dx =>
      rw [e] at h
      refine fun S1 v H1 a1 a2 R1 p1 => ⟨S1, st, R1, ?_⟩
      have h := Kt.mono h a1 a2
      have h : Kt ρ O st σ (pX ρ.C ρ.B O true) S1 H1 Q ((evE T b st).bind fun y => (ofO (cmpD o dx y)).bind fun r => match r with
        | .bl true => (evE T c st).bind fun z => ofO (cmpD q y z)
        | .bl false => .ok (.bl false)
        | _ => .bad) := h
      cases e2 : evE T b st with
      | er c fs => rw [e2] at h; exact h
      | bad => rw [e2] at h; exact h
      | ok dy =>
        rw [e2] at h
        refine fun S2 v2 H2 b1 b2 R2 p2 => ?_
        have h := Kt.mono h b1 b2
        refine cmp_ok (fr := true) F.K R2 (Bor.mono p1 b1 b2) p2 ?_
        refine Kt.test (g := fun r => match r with
          | .bl true => (evE T c st).bind fun z => ofO (cmpD q dy z)
          | .bl false => .ok (.bl false)
          | _ => .bad) (kf := fun b => if b = true then (evE T c st).bind fun z => ofO (cmpD q dy z) else DL.R.ok (.bl false)) pX_bl (fun d => chn_k d _) h fun b S3 H3 c1 c2 R3 h => ?_
        refine ⟨b, rfl, ?_⟩
        cases b with
        | false => exact Kt.sc (d := .bl false) h R3 rfl (.bl _)
        | true =>
          refine ⟨S3, st, R3, ?_⟩
          have h : Kt ρ O st σ (pX ρ.C ρ.B O true) S3 H3 Q ((evE T c st).bind fun z => ofO (cmpD q dy z)) := h
          cases e3 : evE T c st with
          | er c fs => rw [e3] at h; exact h
          | bad => rw [e3] at h; exact h
          | ok dz =>
            rw [e3] at h
            refine fun S4 v4 H4 d1 d2 R4 p4 => ?_
            exact cmp_ok F.K R4 (Bor.mono p2 (c1.trans d1) (c2.trans d2)) p4 (Kt.mono h d1 d2)
  exact ⟨PEof (pe_chain ho ho' (ha.bor F h2 hf.app.1.app.1) (hb.bor F h3 hf.app.1.app.2) (hc.bor F h4 hf.app.2) (lm h4)) i, PTtest (pt_chain ho ho' (ha.bor F h2 hf.app.1.app.1) (hb.bor F h3 hf.app.1.app.2) (hc.bor F h4 hf.app.2) (lm h4)) i, fun _ _ _ e => by cases e⟩
end DL
end

section
set_option linter.all false
set_option maxRecDepth 100000
set_option maxHeartbeats 1000000
set_option Elab.async false
/-! DLv: expressions, case by case: and, or, displays, subscripts, attributes, calls. -/
namespace DL
open PySem PySem.Spec PyProof.Rows L2
variable {z : Zx} {ρ : Rn} {T : Tb} {k : Nat} {X : Cx} {O : Own} {x y : Expr} {m a b c : E} {es : Es} {σ : L2.St} {H : Hp} {S : Hp} {st : St} {Q : VK}

/-! ### and, or, not, if else -/
def KtT (ρ : Rn) (O : Own) (st : St) (σ : L2.St) (S H : Hp) (Q : Bool → Hp → Prop) : R → Prop
  | .ok (.bl b) => ∀ S' H', Ext S S' → Ext H H' → Rel ρ.C ρ.B ρ.S0 S' O st σ H' → Q b H'
  | .ok _ => False
  | .er c fs => ∀ S' H' dx, Ext S S' → Ext H H' → Rel ρ.C ρ.B ρ.S0 S' O st σ H' → XRep ρ.C S' H' dx fs → ρ.W (.ref (ρ.C.cx c)) dx σ H'
  | .bad => False
theorem KtT.mono {Q : Bool → Hp → Prop} {S1 H1 : Hp} {r : R} (h : KtT ρ O st σ S H Q r) (e : Ext S S1) (h' : Ext H H1) : KtT ρ O st σ S1 H1 Q r := by
  cases r with
  | ok d =>
    cases d with
    | bl b => exact fun S' H' a b R => h S' H' (e.trans a) (h'.trans b) R
    | _ => exact h
  | er c fs => exact fun S' H' dx a b R p => h S' H' dx (e.trans a) (h'.trans b) R p
  | bad => exact h
theorem tGT_iff {Q : Bool → Hp → Prop} : tGT ρ T O m σ H Q ↔ ∃ S st, Rel ρ.C ρ.B ρ.S0 S O st σ H ∧ KtT ρ O st σ S H Q (evE T m st) := by
  constructor
  · rintro ⟨S, st, R, q⟩
    refine ⟨S, st, R, ?_⟩
    revert q
    cases evE T m st with
    | ok d => cases d <;> exact id
    | er c fs => exact id
    | bad => exact id
  · rintro ⟨S, st, R, q⟩
    refine ⟨S, st, R, ?_⟩
    revert q
    cases evE T m st with
    | ok d => cases d <;> exact id
    | er c fs => exact id
    | bad => exact id
theorem tGT_bind {Q Q' : Bool → Hp → Prop} {kf : St → Bool → R} (hm : ∀ st, evE T m st = (evE T a st).bind fun x => match x with | .bl b => kf st b | _ => .bad) (h : tGT ρ T O m σ H Q)
    (k : ∀ b st S' H', Rel ρ.C ρ.B ρ.S0 S' O st σ H' → KtT ρ O st σ S' H' Q (kf st b) → Q' b H') : tGT ρ T O a σ H Q' := by
  obtain ⟨S, st, R, q⟩ := tGT_iff.mp h
  refine tGT_iff.mpr ⟨S, st, R, ?_⟩
  rw [hm] at q
  cases e : evE T a st with
  | ok d =>
    rw [e] at q
    cases d with
    | bl b => exact fun S' H' a1 a2 R' => k b st S' H' R' (KtT.mono q a1 a2)
    | _ => exact q.elim
  | er c fs => rw [e] at q; exact q
  | bad => rw [e] at q; exact q
theorem bifD {r s : R} (d : D) : (match d with
    | .bl true => r
    | .bl false => s
    | _ => .bad) = (match d with | .bl b => (fun b => if b = true then r else s) b | _ => DL.R.bad) := by
  cases d with
  | bl b => cases b <;> rfl
  | _ => rfl
theorem ev_and (st : St) : evE T (.and a b) st = (evE T a st).bind fun x => match x with | .bl c => (fun c => if c = true then evE T b st else DL.R.ok (.bl false)) c | _ => .bad := by
  show (evE T a st).bind _ = (evE T a st).bind _
  congr 1
  funext d
  exact bifD d
theorem ev_or (st : St) : evE T (.or a b) st = (evE T a st).bind fun x => match x with | .bl c => (fun c => if c = true then DL.R.ok (.bl true) else evE T b st) c | _ => .bad := by
  show (evE T a st).bind _ = (evE T a st).bind _
  congr 1
  funext d
  exact bifD d
theorem ev_not (st : St) : evE T (.not a) st = (evE T a st).bind fun x => match x with | .bl c => (fun c => DL.R.ok (.bl (!c))) c | _ => .bad := by
  show (evE T a st).bind _ = (evE T a st).bind _
  congr 1
theorem ev_ite (st : St) : evE T (.ite c a b) st = (evE T c st).bind fun x => match x with | .bl d => (fun d => if d = true then evE T a st else evE T b st) d | _ => .bad := by
  show (evE T c st).bind _ = (evE T c st).bind _
  congr 1
  funext d
  exact bifD d
/-- behind a test -/
theorem tG_bind {P P' : Pv} {Q' : VK} {kf : St → Bool → R} (hP : ∀ st σ S H v b, P' st σ S H v (.bl b) → v = .bl b) (hm : ∀ st, evE T m st = (evE T a st).bind fun x => match x with | .bl b => kf st b | _ => .bad) (h : tG ρ T O m P σ H Q)
    (k : ∀ b st S' H', Rel ρ.C ρ.B ρ.S0 S' O st σ H' → Kt ρ O st σ P S' H' Q (kf st b) → Q' (.bl b) H') : tG ρ T O a P' σ H Q' := by
  obtain ⟨S, st, R, q⟩ := h
  refine ⟨S, st, R, ?_⟩
  rw [hm] at q
  cases e : evE T a st with
  | ok d =>
    rw [e] at q
    cases d with
    | bl b =>
      intro S' v H' a1 a2 R' p
      rw [hP _ _ _ _ _ _ p]
      exact k b st S' H' R' (Kt.mono q a1 a2)
    | _ => exact q.elim
  | er c fs => rw [e] at q; exact q
  | bad => rw [e] at q; exact q
theorem tGT_bindE {P : Pv} {Q' : Bool → Hp → Prop} {kf : St → Bool → R} (hm : ∀ st, evE T m st = (evE T a st).bind fun x => match x with | .bl b => kf st b | _ => .bad) (h : tG ρ T O m P σ H Q)
    (k : ∀ b st S' H', Rel ρ.C ρ.B ρ.S0 S' O st σ H' → Kt ρ O st σ P S' H' Q (kf st b) → Q' b H') : tGT ρ T O a σ H Q' := by
  obtain ⟨S, st, R, q⟩ := h
  refine ⟨S, st, R, ?_⟩
  rw [hm] at q
  cases e : evE T a st with
  | ok d =>
    rw [e] at q
    cases d with
    | bl b => exact fun S' H' a1 a2 R' => k b st S' H' R' (Kt.mono q a1 a2)
    | _ => exact q.elim
  | er c fs => rw [e] at q; exact q
  | bad => rw [e] at q; exact q
theorem Kt.fx {fr : Bool} {r : R} (h : Kt ρ O st σ (pX ρ.C ρ.B O false) S H Q r) : Kt ρ O st σ (pF ρ.C) S H Q r := by
  cases r with
  | ok d => exact fun S' v H' a b R p => h S' v H' a b R (RepX.still p)
  | er c fs => exact h
  | bad => exact h
theorem pF_bl {C : Cn} : ∀ st σ S H v b, pF C st σ S H v (.bl b) → v = .bl b := fun _ _ _ _ _ _ h => Rep.bl' h

theorem se_and (ha : SE a) (hb : SE b) : SE (.and a b) := fun {z ρ T k X O x} F h hf => by
  obtain ⟨y, w, r, pos, rfl, h1, h2, h3⟩ := inv_and h
  have hf : fr O (lk z.kd a ++ lk z.kd b) := hf
  have A := ha F h1 hf.app.1
  have pb : PE X (.BoolOp .And (w :: r) pos) (tG ρ T O b (pX ρ.C ρ.B O (fresh z.kd b))) := by
    cases r with
    | nil => exact pe_one (hb F (h2 rfl) hf.app.2).pe
    | cons u r => exact (hb F (h3 (by simp)) hf.app.2).pe
  have wb : PW X (.BoolOp .And (w :: r) pos) (tGT ρ T O b) := by
    cases r with
    | nil => exact pw_and1 (hb F (h2 rfl) hf.app.2).pt
    | cons u r => exact (hb F (h3 (by simp)) hf.app.2).pw _ _ _ rfl
  have W : PW X (.BoolOp .And (y :: w :: r) pos) (tGT ρ T O (.and a b)) := by
    refine PWof (pw_and A.pt wb) fun σ H Q q => tGT_bind (ev_and (a := a) (b := b)) q fun c st S' H' R' q => ?_
    cases c with
    | false => exact q S' H' (Ext.rfl' _) (Ext.rfl' _) R'
    | true => exact tGT_iff.mpr ⟨S', st, R', q⟩
  refine ⟨PEx (PEof (pe_and A.pe (PEf pb)) fun σ H Q q => tG_bind pX_bl (ev_and (a := a) (b := b)) q fun c st S' H' R' q => ⟨c, rfl, ?_⟩), W.pt, fun _ _ _ e => by cases e; exact W⟩
  cases c with
  | false => exact q S' (.bl false) H' (Ext.rfl' _) (Ext.rfl' _) R' (.bl _)
  | true => exact ⟨S', st, R', q⟩
theorem se_or (ha : SE a) (hb : SE b) : SE (.or a b) := fun {z ρ T k X O x} F h hf => by
  obtain ⟨y, w, r, pos, rfl, h1, h2, h3⟩ := inv_or h
  have hf : fr O (lk z.kd a ++ lk z.kd b) := hf
  have A := ha F h1 hf.app.1
  have pb : PE X (.BoolOp .Or (w :: r) pos) (tG ρ T O b (pX ρ.C ρ.B O (fresh z.kd b))) := by
    cases r with
    | nil => exact pe_one (hb F (h2 rfl) hf.app.2).pe
    | cons u r => exact (hb F (h3 (by simp)) hf.app.2).pe
  have wb : PW X (.BoolOp .Or (w :: r) pos) (tGT ρ T O b) := by
    cases r with
    | nil => exact pw_or1 (hb F (h2 rfl) hf.app.2).pt
    | cons u r => exact (hb F (h3 (by simp)) hf.app.2).pw _ _ _ rfl
  have W : PW X (.BoolOp .Or (y :: w :: r) pos) (tGT ρ T O (.or a b)) := by
    refine PWof (pw_or A.pt wb) fun σ H Q q => tGT_bind (ev_or (a := a) (b := b)) q fun c st S' H' R' q => ?_
    cases c with
    | true => exact q S' H' (Ext.rfl' _) (Ext.rfl' _) R'
    | false => exact tGT_iff.mpr ⟨S', st, R', q⟩
  refine ⟨PEx (PEof (pe_or A.pe (PEf pb)) fun σ H Q q => tG_bind pX_bl (ev_or (a := a) (b := b)) q fun c st S' H' R' q => ⟨c, rfl, ?_⟩), W.pt, fun _ _ _ e => by cases e; exact W⟩
  cases c with
  | true => exact q S' (.bl true) H' (Ext.rfl' _) (Ext.rfl' _) R' (.bl _)
  | false => exact ⟨S', st, R', q⟩
theorem se_not (ha : SE a) : SE (.not a) := fun {z ρ T k X O x} F h hf => by
  obtain ⟨y, pos, rfl, h1⟩ := inv_not h
  have hf : fr O (lk z.kd a) := hf
  have A := ha F h1 hf
  refine ⟨PEof (pe_not A.pe) fun σ H Q q => tG_bind pX_bl (ev_not (a := a)) q fun c st S' H' R' q => ⟨c, rfl, Kt.sc q R' rfl (.bl _)⟩, PTof (pt_not A.pt) fun σ H Q q => tGT_bind (ev_not (a := a)) q fun c st S' H' R' q => q S' H' (Ext.rfl' _) (Ext.rfl' _) R', fun _ _ _ e => by cases e⟩
theorem pt_ifExp {cc aa bb : Expr} {pos : Pos} {tc ta tb : TT} (hc : PT X cc tc) (ha : PT X aa ta) (hb : PT X bb tb) : PT X (.IfExp cc aa bb pos) (fun σ H Q => tc σ H fun c H1 => if c = true then ta σ H1 Q else tb σ H1 Q) := by
  refine ⟨fun pins s σ H Q I h => ?_⟩
  rw [PySem.isTrue]
  refine wpAny_bind (thn (hc.run pins s σ H _ I h) fun d s1 ⟨H1, I1, q1⟩ => ?_)
  cases d with
  | true => exact ha.run pins s1 σ H1 Q I1 q1
  | false => exact hb.run pins s1 σ H1 Q I1 q1
theorem se_ite (hc : SE c) (ha : SE a) (hb : SE b) : SE (.ite c a b) := fun {z ρ T k X O x} F h hf => by
  obtain ⟨t, y, w, pos, rfl, h1, h2, h3⟩ := inv_ite h
  have hf : fr O (lk z.kd c ++ lk z.kd a ++ lk z.kd b) := hf
  have A := ha F h2 hf.app.1.app.2
  have B := hb F h3 hf.app.2
  have Cc := hc F h1 hf.app.1.app.1
  refine ⟨PEx (PEof (pe_ifExp Cc.pt (PEf A.pe) (PEf B.pe)) fun σ H Q q => tGT_bindE (kf := fun st d => if d = true then evE T a st else evE T b st) (ev_ite (a := a) (b := b) (c := c)) q fun d st S' H' R' q => ?_),
    PTof (pt_ifExp Cc.pt A.pt B.pt) fun σ H Q q => tGT_bind (kf := fun st d => if d = true then evE T a st else evE T b st) (ev_ite (a := a) (b := b) (c := c)) q fun d st S' H' R' q => ?_, fun _ _ _ e => by cases e⟩
  · cases d with
    | true => exact ⟨S', st, R', q⟩
    | false => exact ⟨S', st, R', q⟩
  · cases d with
    | true => exact tGT_iff.mpr ⟨S', st, R', q⟩
    | false => exact tGT_iff.mpr ⟨S', st, R', q⟩
end DL
end

section
set_option linter.all false
set_option maxRecDepth 100000
set_option maxHeartbeats 1000000
set_option Elab.async false
/-! DLw: argument lists, displays, subscripts, attributes, calls. -/
namespace DL
open PySem PySem.Spec PyProof.Rows L2
variable {z : Zx} {ρ : Rn} {T : Tb} {k : Nat} {X : Cx} {O : Own} {x y : Expr} {m a b c e : E} {es : Es} {σ : L2.St} {H : Hp} {S : Hp} {st : St} {Q : VK}

theorem nil_r {P : Hp → Hp → List V → List D → Prop} (p : ∀ S H, P S H [] []) {Q : List V → Hp → Prop} (h : tGL ρ T O .nil P σ H Q) : tNil σ H Q := by
  obtain ⟨S, st, R, q⟩ := h
  exact q S [] H (Ext.rfl' _) (Ext.rfl' _) R (p S H)
theorem cons_r {Pa : Pv} {P : Hp → Hp → List V → List D → Prop} (pc : ∀ st σ S S' H H' v d vs ds, Ext S S' → Ext H H' → Pa st σ S H v d → P S' H' vs ds → P S' H' (v :: vs) (d :: ds)) {Q : List V → Hp → Prop}
    (h : tGL ρ T O (.cons e es) P σ H Q) : tCons (tG ρ T O e Pa) (tGL ρ T O es P) σ H Q := by
  obtain ⟨S, st, R, q⟩ := h
  refine ⟨S, st, R, ?_⟩
  have q : KtL ρ O st σ P S H Q ((evE T e st).bindL fun d => (evEs T es st).bindL fun ds => .ok (d :: ds)) := q
  cases e1 : evE T e st with
  | er c fs => rw [e1] at q; exact q
  | bad => rw [e1] at q; exact q
  | ok d =>
    rw [e1] at q
    refine fun S1 v H1 a1 a2 R1 p1 => ⟨S1, st, R1, ?_⟩
    have q := KtL.mono q a1 a2
    have q : KtL ρ O st σ P S1 H1 Q ((evEs T es st).bindL fun ds => .ok (d :: ds)) := q
    cases e2 : evEs T es st with
    | er c fs => rw [e2] at q; exact q
    | bad => rw [e2] at q; exact q
    | ok ds =>
      rw [e2] at q
      exact fun S2 vs H2 b1 b2 R2 p2 => q S2 (v :: vs) H2 b1 b2 R2 (pc _ _ _ _ _ _ _ _ _ _ b1 b2 p1 p2)
theorem ses_nil : SEs .nil := by
  refine ⟨fun {z ρ T k X O xs} F h hf => ?_, fun {z ρ T k X O xs} F h hf => ?_⟩ <;> cases xs <;> first | (cases h; done) | skip
  · exact PAof pa_nil fun σ H Q q => nil_r (fun _ _ => .nil) q
  · exact PAof pa_nil fun σ H Q q => nil_r (fun _ _ => .nil) q
theorem ses_cons (he : SE e) (hs : SEs es) : SEs (.cons e es) := by
  refine ⟨fun {z ρ T k X O xs} F h hf => ?_, fun {z ρ T k X O xs} F h hf => ?_⟩ <;> cases xs <;> first | (cases h; done) | skip
  · rename_i x xs
    have h : (mE z e x && mEs z es xs) = true := h
    simp only [Bool.and_eq_true] at h
    have hf : fr O (lk z.kd e ++ lkEs z.kd es) := hf
    exact PAof (pa_cons (he.rep F h.1 hf.app.1) (hs.1 F h.2 hf.app.2) (star1 h.1)) fun σ H Q q => cons_r (fun _ _ _ _ _ _ _ _ _ _ e1 e2 p1 p2 => .cons (Rep.mono e1 p1) p2) q
  · rename_i x xs
    have h : (mE z e x && mEs z es xs) = true := h
    simp only [Bool.and_eq_true] at h
    have hf : fr O (bw z.kd e ++ bwEs z.kd es) := hf
    exact PAof (pa_cons (he.bor F h.1 hf.app.1) (hs.2 F h.2 hf.app.2) (star1 h.1)) fun σ H Q q => cons_r (fun _ _ _ _ _ _ _ _ _ _ e1 e2 p1 p2 => .cons (Bor.mono p1 e1 e2) p2) q

/-! ### what follows an argument list -/
theorem args_r {P : Hp → Hp → List V → List D → Prop} {Pm : Pv} {f : List D → R} {r : List V → Hp → Prop} (hm : ∀ st, evE T m st = (evEs T es st).bind f) (h : tG ρ T O m Pm σ H Q)
    (k : ∀ st S' H' xs ds, Rel ρ.C ρ.B ρ.S0 S' O st σ H' → evEs T es st = .ok ds → P S' H' xs ds → Kt ρ O st σ Pm S' H' Q (f ds) → r xs H') : tGL ρ T O es P σ H r := by
  obtain ⟨S, st, R, q⟩ := h
  refine ⟨S, st, R, ?_⟩
  rw [hm] at q
  cases e : evEs T es st with
  | ok ds =>
    rw [e] at q
    exact fun S' v H' a1 a2 R' p => k st S' H' v ds R' e p (Kt.mono q a1 a2)
  | er c fs => rw [e] at q; exact q
  | bad => rw [e] at q; exact q
def Es.len : Es → Nat
  | .nil => 0
  | .cons _ es => es.len + 1
theorem evEs_len {T : Tb} {st : St} : ∀ {es : Es} {ds : List D}, evEs T es st = .ok ds → ds.length = es.len
  | .nil, _, h => by cases h; rfl
  | .cons e es, ds, h => by
    have h : ((evE T e st).bindL fun d => (evEs T es st).bindL fun ds => .ok (d :: ds)) = .ok ds := h
    cases e1 : evE T e st with
    | er c fs => rw [e1] at h; cases h
    | bad => rw [e1] at h; cases h
    | ok d =>
      rw [e1] at h
      have h : ((evEs T es st).bindL fun ds => .ok (d :: ds)) = .ok ds := h
      cases e2 : evEs T es st with
      | er c fs => rw [e2] at h; cases h
      | bad => rw [e2] at h; cases h
      | ok ds2 =>
        rw [e2] at h
        cases h
        show ds2.length + 1 = es.len + 1
        rw [evEs_len e2]
theorem mEs_len : ∀ {es : Es} {xs : List Expr}, mEs z es xs = true → xs.length = es.len
  | .nil, [], _ => rfl
  | .nil, _ :: _, h => by cases h
  | .cons _ _, [], h => by cases h
  | .cons e es, x :: xs, h => by
    have h : (mE z e x && mEs z es xs) = true := h
    simp only [Bool.and_eq_true] at h
    show xs.length + 1 = es.len + 1
    rw [mEs_len h.2]
theorem thousand {n : Nat} (h : n ≤ 1000) : n ≤ sizeLine := by have := big_line; have : big = 1000000 := rfl; omega
theorem se_lst (hs : SEs es) : SE (.lst es) := fun {z ρ T k X O x} F h hf => by
  obtain ⟨l, pos, rfl, h1, h2⟩ := inv_lst h
  refine .val (PEof (pe_lst (hs.1 F h2 hf)) fun σ H Q q => ?_) (fun _ => rfl) (fun _ _ _ e => by cases e)
  refine args_r (f := fun ds => .ok (.lst ds)) (fun st => rfl) q fun st S' H' xs ds R e r q => ⟨?_, fun p hp => Kt.newL q R hp r⟩
  rw [r.length, evEs_len e, ← mEs_len h2]
  exact thousand h1
theorem se_tup (hs : SEs es) : SE (.tup es) := fun {z ρ T k X O x} F h hf => by
  obtain ⟨l, j, pos, rfl, h1, h2⟩ := inv_tup h
  refine .val (PEof (pe_tup (hs.1 F h2 hf)) fun σ H Q q => ?_) (fun _ => rfl) (fun _ _ _ e => by cases e)
  refine args_r (f := fun ds => .ok (.tup ds)) (fun st => rfl) q fun st S' H' xs ds R e r q => ⟨?_, fun p hp => Kt.newT q R hp r⟩
  rw [r.length, evEs_len e, ← mEs_len h2]
  exact thousand h1

/-! ### subscripts -/
theorem se_idx (ha : SE a) (hb : SE b) : SE (.idx a b) := fun {z ρ T k X O x} F h hf => by
  obtain ⟨y, w, pos, rfl, h1, h2⟩ := inv_idx h
  have hf : fr O (bw z.kd a ++ bw z.kd b) := hf
  refine .val (PEx (PEof (pe_ix ix_seq (ha.bor F h1 hf.app.1) (hb.bor F h2 hf.app.2) (plainIx h2)) fun σ H Q q => ?_)) (fun _ => rfl) (fun _ _ _ e => by cases e)
  rw [F.K]
  exact bin_r (f := fun dx dy => ofO (idxD dx dy)) (r := fun x y H2 => rIx ρ.C.K x y H2 Q) pB_grows (fun st => rfl) q fun st S' H' x y dx dy R hx hy q => idx_ok R hx hy q
/-- one operand, what follows may look at the slots -/
theorem un_rs {P Pa : Pv} {f : St → D → R} {r : V → Hp → Prop} (hm : ∀ st, evE T m st = (evE T a st).bind (f st)) (h : tG ρ T O m P σ H Q)
    (k : ∀ st S' H' x dx, Rel ρ.C ρ.B ρ.S0 S' O st σ H' → Pa st σ S' H' x dx → Kt ρ O st σ P S' H' Q (f st dx) → r x H') : tG ρ T O a Pa σ H r := by
  obtain ⟨S, st, R, q⟩ := h
  refine ⟨S, st, R, ?_⟩
  rw [hm] at q
  cases e : evE T a st with
  | ok d =>
    rw [e] at q
    exact fun S' v H' a1 a2 R' p => k st S' H' v d R' p (Kt.mono q a1 a2)
  | er c fs => rw [e] at q; exact q
  | bad => rw [e] at q; exact q
/-- a part of a slice -/
theorem part_r {lo : E} {Pm : Pv} {f : Option Int → R} {r : Option Int → Hp → Prop} (R : Rel ρ.C ρ.B ρ.S0 S O st σ H) (q : Kt ρ O st σ Pm S H Q ((evE T lo st).bind fun l => match partD l with | some l => f l | none => .bad))
    (k : ∀ S' H' l, Ext S S' → Ext H H' → Rel ρ.C ρ.B ρ.S0 S' O st σ H' → Kt ρ O st σ Pm S' H' Q (f l) → r l H') : tPart (tG ρ T O lo (pB ρ.C)) σ H r := by
  refine ⟨S, st, R, ?_⟩
  cases e : evE T lo st with
  | ok d =>
    rw [e] at q
    intro S' v H' a1 a2 R' p
    cases d with
    | int i => exact ⟨i, Bor.int p, k S' H' (some i) a1 a2 R' (Kt.mono q a1 a2)⟩
    | _ => exact q.elim
  | er c fs => rw [e] at q; exact q
  | bad => rw [e] at q; exact q
theorem no_omit {w : Expr} (h : mE z m w = true) : m ≠ .omit := fun e => by subst e; cases w <;> cases h
theorem ev_slc2 {lo hi : E} (h1 : lo ≠ .omit) (h2 : hi ≠ .omit) (st : St) : evE T (.slc a lo hi) st = (evE T a st).bind fun x => (evE T lo st).bind fun l => match partD l with
    | some l => ((evE T hi st).bind fun h => (match partD h with
      | some h => ofO (slcD x l h)
      | none => .bad))
    | none => .bad := by
  rw [evE] <;> first | exact h1 | exact h2 | (exact fun e _ => h1 e; done) | rfl
theorem ev_slc0 {hi : E} (h2 : hi ≠ .omit) (st : St) : evE T (.slc a .omit hi) st = (evE T a st).bind fun x => (evE T hi st).bind fun h => match partD h with
    | some h => ofO (slcD x none h)
    | none => .bad := by
  rw [evE] <;> first | exact h2 | rfl
theorem ev_slc1 {lo : E} (h1 : lo ≠ .omit) (st : St) : evE T (.slc a lo .omit) st = (evE T a st).bind fun x => (evE T lo st).bind fun l => match partD l with
    | some l => ofO (slcD x l none)
    | none => .bad := by
  rw [evE] <;> first | exact h1 | rfl
theorem se_slc {lo hi : E} (ha : SE a) (hl : SE lo) (hh : SE hi) : SE (.slc a lo hi) := fun {z ρ T k X O x} F h hf => by
  obtain ⟨y, l, u, p, pos, rfl, h1, h2, h3⟩ := inv_slc h
  have hf : fr O (bw z.kd a ++ bw z.kd lo ++ bw z.kd hi) := hf
  have A := ha.bor F h1 hf.app.1.app.1
  rcases h2 with ⟨rfl, rfl⟩ | ⟨w, rfl, h2⟩ <;> rcases h3 with ⟨rfl, rfl⟩ | ⟨w', rfl, h3⟩
  · refine .val (PEof (pe_slice (sl_list.or sl_tup) A po_none po_none) fun σ H Q q => ?_) (fun _ => rfl) (fun _ _ _ e => by cases e)
    rw [F.K]
    exact un_r (f := fun x => ofO (slcD x none none)) (r := fun x H1 => _) (fun st => rfl) q fun st S' H' x dx R hx q => slc_ok R hx q
  · refine .val (PEof (pe_slice (sl_list.or sl_tup) A po_none (po_some (hh.bor F h3 hf.app.2))) fun σ H Q q => ?_) (fun _ => rfl) (fun _ _ _ e => by cases e)
    rw [F.K]
    refine un_rs (Pa := pB ρ.C) (r := fun x H1 => _) (fun st => ev_slc0 (no_omit h3) st) q fun st S' H' x dx R hx q => part_r R q fun S2 H2 l e1 e2 R2 q => slc_ok R2 (Bor.mono hx e1 e2) q
  · refine .val (PEof (pe_slice (sl_list.or sl_tup) A (po_some (hl.bor F h2 hf.app.1.app.2)) po_none) fun σ H Q q => ?_) (fun _ => rfl) (fun _ _ _ e => by cases e)
    rw [F.K]
    refine un_rs (Pa := pB ρ.C) (r := fun x H1 => _) (fun st => ev_slc1 (no_omit h2) st) q fun st S' H' x dx R hx q => part_r R q fun S2 H2 l e1 e2 R2 q => slc_ok R2 (Bor.mono hx e1 e2) q
  · refine .val (PEof (pe_slice (sl_list.or sl_tup) A (po_some (hl.bor F h2 hf.app.1.app.2)) (po_some (hh.bor F h3 hf.app.2))) fun σ H Q q => ?_) (fun _ => rfl) (fun _ _ _ e => by cases e)
    rw [F.K]
    refine un_rs (Pa := pB ρ.C) (r := fun x H1 => _) (fun st => ev_slc2 (no_omit h2) (no_omit h3) st) q fun st S' H' x dx R hx q => part_r R q fun S2 H2 l e1 e2 R2 q => part_r R2 q fun S3 H3 l' e3 e4 R3 q => slc_ok R3 (Bor.mono hx (e1.trans e3) (e2.trans e4)) q

/-! ### attributes -/
theorem repF_get {C : Cn} {S : Hp} {f : Nat} (inj : ∀ f g, C.an f = C.an g → f = g) : ∀ {vs : List (Str × V)} {fs : List (Nat × D)} {d : D}, RepF C S vs fs → fieldOf f fs = some d → ∃ v, vs.lookup (C.an f) = some v ∧ Rep C S v d
  | _, _, _, .nil, h => by cases h
  | _, _, _, .cons (f := g) (v := v) (vs := vs) (d := e) (fs := fs) r rs, h => by
    have h : (if g = f then some e else fieldOf f fs) = some _ := h
    by_cases hg : g = f
    · subst hg
      rw [if_pos rfl] at h; cases h
      exact ⟨v, by simp [List.lookup_cons], r⟩
    · rw [if_neg hg] at h
      obtain ⟨w, h1, h2⟩ := repF_get inj rs h
      refine ⟨w, ?_, h2⟩
      rw [List.lookup_cons]
      have : (C.an f == C.an g) = false := by
        rw [beq_eq_false_iff_ne]; exact fun e => hg (inj _ _ e.symm)
      rw [this]; exact h1
theorem repF_none {C : Cn} {S : Hp} {f : Nat} (inj : ∀ f g, C.an f = C.an g → f = g) : ∀ {vs : List (Str × V)} {fs : List (Nat × D)}, RepF C S vs fs → fieldOf f fs = none → vs.lookup (C.an f) = none
  | _, _, .nil, h => rfl
  | _, _, .cons (f := g) (v := v) (vs := vs) (d := e) (fs := fs) r rs, h => by
    have h : (if g = f then some e else fieldOf f fs) = none := h
    by_cases hg : g = f
    · subst hg
      rw [if_pos rfl] at h; cases h
    · rw [if_neg hg] at h
      rw [List.lookup_cons]
      have : (C.an f == C.an g) = false := by
        rw [beq_eq_false_iff_ne]; exact fun e => hg (inj _ _ e.symm)
      rw [this]; exact repF_none inj rs h
theorem Bor.exn {C : Cn} {S H : Hp} {v : V} {c : Nat} {fs : List (Nat × D)} (h : Bor C S H v (.exn c fs)) : False := by
  rcases h with h | ⟨_, _, h⟩
  · cases h
  · exact h
theorem se_att (f : Nat) (ha : SE a) : SE (.att a f) := fun {z ρ T k X O x} F h hf => by
  obtain ⟨y, s, pos, rfl, h1, h2, h3, h4⟩ := inv_att h
  have hf : fr O (bw z.kd a) := hf
  refine .val (PEx (PEof (pe_fld (ha.bor F h4 hf) (base_ok h3 _)) fun σ H Q q => ?_)) (fun _ => rfl) (fun _ _ _ e => by cases e)
  rw [F.K, ← h1, F.gf.atn]
  refine un_r (f := fun x => match x with
    | .obj _ fs => ofO (fieldOf f fs)
    | .exn _ fs => ofO (fieldOf f fs)
    | _ => .bad) (r := fun x H1 => _) (fun st => rfl) q fun st S' H' x dx R hx q => ?_
  cases dx with
  | obj c fs =>
    obtain ⟨a, dx, vs, rfl, h5, h6⟩ := Bor.obj hx R.sh
    have q : Kt ρ O st σ (pF ρ.C) S' H' Q (ofO (fieldOf f fs)) := q
    cases e : fieldOf f fs with
    | none => rw [e] at q; exact q.elim
    | some d =>
      rw [e] at q
      obtain ⟨v, h7, h8⟩ := repF_get F.gf.inj h6 e
      exact ⟨a, _, dx, vs, v, rfl, h5, F.gf.cls c, F.gf.fld f h2 c, h7, q S' v H' (Ext.rfl' _) (Ext.rfl' _) R h8⟩
  | exn c fs => exact (Bor.exn hx).elim
  | _ => exact q.elim
end DL
end

section
set_option linter.all false
set_option maxRecDepth 100000
set_option maxHeartbeats 1000000
set_option Elab.async false
/-! DLx: calls of own defs, methods, properties, classes. -/
namespace DL
open PySem PySem.Spec PyProof.Rows L2
variable {z : Zx} {ρ : Rn} {T : Tb} {k : Nat} {X : Cx} {O : Own} {x y : Expr} {m a b c e : E} {es : Es} {σ : L2.St} {H : Hp} {S : Hp} {st : St} {Q : VK}

/-! ### a call's promise -/
theorem Bor.rep {C : Cn} {S H : Hp} {v : V} {d : D} (e : Ext S H) (b : Bor C S H v d) : Rep C H v d := by
  rcases b with b | ⟨l, rfl, b⟩
  · exact b.mono e
  · cases d with
    | lst ds => obtain ⟨vs, h1, h2⟩ := b; exact .lst (.inl (.inl h1)) (h2.mono e)
    | obj c fs => obtain ⟨dx, vs, h1, h2⟩ := b; exact .obj h1 (h2.mono e)
    | _ => exact b.elim
theorem Bors.reps {C : Cn} {S H : Hp} (e : Ext S H) : ∀ {vs : List V} {ds : List D}, Bors C S H vs ds → Reps C H vs ds
  | _, _, .nil => .nil
  | _, _, .cons b bs => .cons (b.rep e) (Bors.reps e bs)
theorem RepF.sc {C : Cn} {S S' : Hp} : ∀ {vs : List (Str × V)} {fs : List (Nat × D)}, RepF C S vs fs → scF fs = true → RepF C S' vs fs
  | _, _, .nil, _ => .nil
  | _, _, .cons r rs, h => by
    unfold scF at h
    simp only [List.all_cons, Bool.and_eq_true] at h
    exact .cons (r.sc h.1) (RepF.sc rs h.2)
theorem XRep.sc {C : Cn} {S S' H : Hp} {dx : Option Addr} {fs : List (Nat × D)} (h : XRep C S H dx fs) (hs : scF fs = true) : XRep C S' H dx fs := by
  cases dx with
  | none => exact h
  | some d => obtain ⟨vs, h1, h2⟩ := h; exact ⟨vs, h1, h2.sc hs⟩
/-- what is handed back is new to the caller -/
theorem back_new {fr : Bool} {S' H' : Hp} {v : V} {d : D} (R : Rel ρ.C ρ.B ρ.S0 S O st σ H) (e : Ext S S') (e' : Ext H H') (h : SlotOk ρ.C H S' H' fr v d) : RepX ρ.C ρ.B S' H' O st σ fr v d := by
  rcases h with ⟨h1, h2, l, e1, al⟩ | ⟨h1, r⟩
  · refine ⟨.inl ⟨h1, h2, l, e1, al.1, R.bh.none al.2.1, al.2.2⟩, fun _ _ i l' e2 hh => ?_⟩
    subst e1; cases e2
    obtain ⟨d', _, al'⟩ := R.alone hh
    exact al'.there al.2.1
  · refine ⟨.inr ⟨h1, r⟩, fun f m => ?_⟩
    rw [h1 f] at m; cases m
theorem call_ok {g : List D → R} {vs : List V} {ds : List D} (kd : Nat) (R : Rel ρ.C ρ.B ρ.S0 S O st σ H) (h2 : kd = 2 → Bors ρ.C S H vs ds) (h0 : kd ≠ 2 → Reps ρ.C S vs ds) (h : Kt ρ O st σ (pX ρ.C ρ.B O (kd == 1 || kd == 2)) S H Q (g ds)) :
    spD ρ.C g kd vs H Q (WE ρ.W σ) := by
  by_cases hk : kd = 2
  · refine ⟨H, ds, Ext.rfl' H, (h2 hk).reps R.sh, ?_⟩
    cases e : g ds with
    | ok d =>
      rw [e] at h
      intro S' v H' e1 e2 e3 n sl sc
      refine h S v H' (Ext.rfl' S) e2 (R.heap e2) (RepX.sc (sc hk) ?_)
      rcases sl with ⟨z, _⟩ | ⟨_, r⟩
      · subst hk; cases z
      · exact r.sc (sc hk)
    | er c fs =>
      rw [e] at h
      intro S' H' dx e1 e2 e3 n x sc
      exact h S H' dx (Ext.rfl' S) e2 (R.heap e2) (x.sc (sc hk))
    | bad => rw [e] at h; exact h
  · refine ⟨S, ds, R.sh, h0 hk, ?_⟩
    have ek : (kd == 2) = false := by rw [beq_eq_false_iff_ne]; exact hk
    cases e : g ds with
    | ok d =>
      rw [e, ek, Bool.or_false] at h
      intro S' v H' e1 e2 e3 n sl sc
      exact h S' v H' e1 e2 (R.grow e1 e2 e3 n) (back_new R e1 e2 sl)
    | er c fs =>
      rw [e] at h
      intro S' H' dx e1 e2 e3 n x sc
      exact h S' H' dx e1 e2 (R.grow e1 e2 e3 n) x
    | bad => rw [e] at h; exact h
theorem se_call (f : Nat) (hs : SEs es) : SE (.call f es) := fun {z ρ T k X O x} F h hf => by
  obtain ⟨n, p, y, ys, pos, rfl, h1, h2, h3, h4, h5⟩ := inv_call h
  have hf : fr O (if z.kd.fn f == 2 then bwEs z.kd es else lkEs z.kd es) := hf
  obtain ⟨fa, fd, ps, FO, hm, hk, hb⟩ := F.gf.fn f h2
  rw [h1] at hm
  rw [← F.K] at FO hk hb
  have hst : ∀ (env : Env), starEach (y :: ys) env = (false, eval y env) :: starEach ys env := fun env => by
    cases es with
    | nil => cases h5
    | cons e es =>
      have h5 : (mE z e y && mEs z es ys) = true := h5
      simp only [Bool.and_eq_true] at h5
      exact star1 h5.1
  have hpl : (backTo pos (starEach ys X.env)).any (·.1) = false := by
    cases es with
    | nil => cases h5
    | cons e es =>
      have h5 : (mE z e y && mEs z es ys) = true := h5
      simp only [Bool.and_eq_true] at h5
      exact (stars h5.2).1
  refine .val ?_ (fun _ => rfl) (fun _ _ _ e => by cases e)
  show PE X _ (tG ρ T O (.call f es) (pX ρ.C ρ.B O (z.kd.fn f == 1 || z.kd.fn f == 2)))
  by_cases hk2 : z.kd.fn f = 2
  · have hf : fr O (bwEs z.kd es) := by rw [hk2] at hf; exact hf
    refine PEof (pe_callS FO (F.room.mono (Nat.le_succ k)) (F.gl h3) hm hk hb (fun σ => passAt F.tk σ) (hs.2 F h5 hf) (plainN_d h4).1 (hst _) hpl) fun σ H Q q => ?_
    exact args_r (f := T.fn f) (fun st => rfl) q fun st S' H' xs ds R e r q => call_ok _ R (fun _ => r) (fun n => absurd hk2 n) q
  · have hf : fr O (lkEs z.kd es) := by
      have ek : (z.kd.fn f == 2) = false := by rw [beq_eq_false_iff_ne]; exact hk2
      rw [ek] at hf; exact hf
    refine PEof (pe_callS FO (F.room.mono (Nat.le_succ k)) (F.gl h3) hm hk hb (fun σ => passAt F.tk σ) (hs.1 F h5 hf) (plainN_d h4).1 (hst _) hpl) fun σ H Q q => ?_
    exact args_r (f := T.fn f) (fun st => rfl) q fun st S' H' xs ds R e r q => call_ok _ R (fun z => absurd z hk2) (fun _ => r) q

/-! ### methods -/
theorem mcall_ht {o : Expr} {n : Str} {apos pos : Pos} {xs : List Expr} {env : Env} (hb : baseOk o = true) (hl : (apos.endLine == pos.line) = true) (hx : mEs z es xs = true) (hn : xs.length < 29) :
    eval (.Call (.Attribute o n apos) xs [] pos) env = (do
      let ov ← eval o env
      standAt apos.atName
      let (f, first) ← holding [ov] (getMethod ov n (plainOf o env))
      callWith pos f first (backTo pos (starEach xs env)) (backToKw pos (keywordEach [] env))) := by
  obtain ⟨s1, s2, s3⟩ := stars (env := env) (pos := pos) hx
  have hf : methodCallForm (xs.length + ([] : List Keyword).length) (backTo pos (starEach xs env)) (backToKw pos (keywordEach [] env)) = true := by
    unfold methodCallForm
    rw [s2]
    simp [keywordEach, backToKw]
    omega
  rw [arm_eval_Call, base_ok hb]
  simp only [mcall_line hf hl]
/-- o.m(..), the class told by the run -/
def methF (X : Cx) (n : Str) (x : V) (H1 : Hp) (G : Sp → Prop) : Prop := ∃ a C dx fs, x = .ref a ∧ H1 a = some (.ins C dx fs) ∧ fs.lookup n = none ∧ Cls X.K C ∧
  ∃ k f fd ps sp, Meth X.K C n f ∧ FnOk X.prog X.w X.K X.mg X.base (L2.CX X.prog X.w) k f fd ps sp ∧ Room k X.A ∧ Binds X.K fd ps [] ∧ G sp
theorem pe_methS {o x : Expr} {n : Str} {apos pos : Pos} {xs : List Expr} {ta : TE} {t : TA} {E : L2.St → XK} (he : PE X o ta) (ha : PA X (x :: xs) t) (hx : ∀ σ, PassesAt (L2.CX X.prog X.w) X σ (E σ)) (hb : baseOk o = true) (hl : (apos.endLine == pos.line) = true) (hxs : mEs z es (x :: xs) = true) (hn : (x :: xs).length < 29) :
    PE X (.Call (.Attribute o n apos) (x :: xs) [] pos) (fun σ H Q => ta σ H fun v H1 => methF X n v H1 fun sp => t σ H1 fun vs H2 => sp (v :: vs) H2 Q (E σ)) := by
  refine ⟨fun pins s σ H Q I h => ?_⟩
  refine PySem.W.methodCall_KW (pl := plainOf o X.env) (thn (he.run pins s σ H _ I h) fun u s1 ⟨v, H1, I1, rx, a, C, dx, fs, ex, ea, l, c, k, f, fd, ps, sp, hm, F, hr, hbd, q⟩ => ?_) (mcall_ht hb hl hxs hn)
  subst ex
  obtain rfl : u = Value.ref a := rx
  refine getmeth_ok I1 ea c hm l ?_
  have st : starEach (x :: xs) X.env = (false, eval x X.env) :: starEach xs X.env ∧ (backTo pos (starEach xs X.env)).any (·.1) = false := by
    cases es with
    | nil => cases hxs
    | cons e es =>
      have h5 : (mE z e x && mEs z es xs) = true := hxs
      simp only [Bool.and_eq_true] at h5
      exact ⟨star1 h5.1, (stars h5.2).1⟩
  refine PySem.W.callWith_K (first := [.ref a]) (h₀ := X.base) I1.ok.mod.kin hm.kp (thn (ha.run pos pins s1 σ H1 _ I1 q) fun us s2 ⟨vs, H2, I2, r, q2⟩ => ⟨I2.kIn, ?_⟩) st.1 st.2
  exact run_fnS (us := .ref a :: us) (vs := .ref a :: vs) F hr hbd (hx σ) I2 (.cons rfl r) q2
theorem pe_methS0 (z : Zx) {o : Expr} {n : Str} {apos pos : Pos} {ta : TE} {E : L2.St → XK} (he : PE X o ta) (hx : ∀ σ, PassesAt (L2.CX X.prog X.w) X σ (E σ)) (hb : baseOk o = true) (hl : (apos.endLine == pos.line) = true) :
    PE X (.Call (.Attribute o n apos) [] [] pos) (fun σ H Q => ta σ H fun v H1 => methF X n v H1 fun sp => sp [v] H1 Q (E σ)) := by
  refine ⟨fun pins s σ H Q I h => ?_⟩
  refine PySem.W.methodCall_KW (pl := plainOf o X.env) (thn (he.run pins s σ H _ I h) fun u s1 ⟨v, H1, I1, rx, a, C, dx, fs, ex, ea, l, c, k, f, fd, ps, sp, hm, F, hr, hbd, q⟩ => ?_) (mcall_ht (z := z) (es := .nil) hb hl rfl (by decide))
  subst ex
  obtain rfl : u = Value.ref a := rx
  refine getmeth_ok I1 ea c hm l ?_
  exact PySem.W.callWith_K0 (first := [.ref a]) I1.kIn hm.kp (run_fnS (us := [.ref a]) (vs := [.ref a]) F hr hbd (hx σ) I1 (.cons rfl .nil) q)
theorem lk_meth {f : Nat} (h : fr O (lk z.kd (.meth a f es))) : fr O (lk z.kd a) ∧ (z.kd.me f = 2 → fr O (bwEs z.kd es)) ∧ (z.kd.me f ≠ 2 → fr O (lkEs z.kd es)) := by
  have h : fr O (lk z.kd a ++ (if z.kd.me f == 2 then bwEs z.kd es else lkEs z.kd es)) := h
  refine ⟨h.app.1, fun e => ?_, fun n => ?_⟩
  · have := h.app.2
    rw [e] at this; exact this
  · have := h.app.2
    rw [show (z.kd.me f == 2) = false from beq_eq_false_iff_ne.mpr n] at this; exact this
def metK (T : Tb) (f : Nat) (r : RL) (x : D) : R := match x with
  | .obj c fs => (match T.me c f, fieldOf f fs with
    | some g, none => r.bind fun ds => T.fn g (.obj c fs :: ds)
    | _, _ => .bad)
  | _ => .bad
theorem metK_ok {f : Nat} {r : RL} {d : D} (h : metK T f r d ≠ .bad) : ∃ c fs i, d = .obj c fs ∧ T.me c f = some i ∧ fieldOf f fs = none := by
  cases d with
  | obj c fs =>
    unfold metK at h
    cases e1 : T.me c f with
    | none => exact absurd (by simp [e1]) h
    | some i =>
      cases e2 : fieldOf f fs with
      | some _ => exact absurd (by simp [e1, e2]) h
      | none => exact ⟨c, fs, i, rfl, e1, e2⟩
  | _ => exact absurd rfl h
theorem metK_eq {f c i : Nat} {fs : List (Nat × D)} {r : RL} (e1 : T.me c f = some i) (e2 : fieldOf f fs = none) : metK T f r (.obj c fs) = r.bind fun ds => T.fn i (.obj c fs :: ds) := by
  unfold metK
  simp only [e1, e2]
theorem Kt.nb {P : Pv} {r : R} (q : Kt ρ O st σ P S H Q r) : r ≠ .bad := fun e => by rw [e] at q; exact q
theorem meth_facts (F : XF z ρ T k X) {f : Nat} {s : Str} {v : V} {d : D} {r : RL} (h1 : z.atN f = s) (h2 : z.okM f = true) (e : Ext S H) (hv : Rep ρ.C S v d) (hb : metK T f r d ≠ .bad) (G : Sp → Prop)
    (kk : ∀ c fs i, d = .obj c fs → T.me c f = some i → fieldOf f fs = none → G (spD ρ.C (T.fn i) (z.kd.me f))) : methF X s v H G := by
  obtain ⟨c, fs, i, rfl, h8, h9⟩ := metK_ok hb
  cases hv with
  | obj r1 r2 =>
    obtain ⟨fa, fd, ps, M, FO, hbd⟩ := F.gf.me f h2 c i h8
    rw [← h1, F.gf.atn]
    rw [← F.K] at FO hbd M
    have cc := F.gf.cls c
    rw [← F.K] at cc
    exact ⟨_, _, _, _, rfl, e _ _ r1, repF_none F.gf.inj r2 h9, cc, _, fa, fd, ps, _, M, FO, F.room.mono (Nat.le_succ _), hbd, kk c fs i rfl h8 h9⟩
theorem se_meth (f : Nat) (ha : SE a) (hs : SEs es) : SE (.meth a f es) := fun {z ρ T k X O x} F h hf => by
  obtain ⟨y, s, ap, xs, pos, rfl, h1, h2, h3, h4, h5, h6, h7⟩ := inv_meth h
  obtain ⟨f1, f2, f3⟩ := lk_meth hf
  refine .val ?_ (fun _ => rfl) (fun _ _ _ e => by cases e)
  show PE X _ (tG ρ T O (.meth a f es) (pX ρ.C ρ.B O (z.kd.me f == 1 || z.kd.me f == 2)))
  have A := ha.rep F h6 f1
  have ev : ∀ st, evE T (.meth a f es) st = (evE T a st).bind (metK T f (evEs T es st)) := fun st => rfl
  cases xs with
  | nil =>
    cases es with
    | cons e es => cases h7
    | nil =>
      refine PEof (pe_methS0 z A (fun σ => passAt F.tk σ) h3 h4) fun σ H Q q => ?_
      refine un_rs (Pa := pF ρ.C) (r := fun x H1 => _) ev q fun st S' H' v dx R hx q => ?_
      refine meth_facts F h1 h2 R.sh hx q.nb _ fun c fs i ed e1 e2 => ?_
      subst ed
      rw [metK_eq e1 e2] at q
      exact call_ok (ds := [.obj c fs]) _ R (fun _ => .cons (.inl hx) .nil) (fun _ => .cons hx .nil) q
  | cons x xs =>
    by_cases hk2 : z.kd.me f = 2
    · refine PEof (pe_methS A (hs.2 F h7 (f2 hk2)) (fun σ => passAt F.tk σ) h3 h4 h7 h5) fun σ H Q q => ?_
      refine un_rs (Pa := pF ρ.C) (r := fun x H1 => _) ev q fun st S' H' v dx R hx q => ?_
      refine meth_facts F h1 h2 R.sh hx q.nb _ fun c fs i ed e1 e2 => ?_
      subst ed
      rw [metK_eq e1 e2] at q
      refine ⟨S', st, R, ?_⟩
      cases e3 : evEs T es st with
      | er c fs => rw [e3] at q; exact q
      | bad => rw [e3] at q; exact q
      | ok ds =>
        rw [e3] at q
        exact fun S2 vs H2 b1 b2 R2 p2 => call_ok (ds := .obj c fs :: ds) _ R2 (fun _ => .cons (.inl (Rep.mono b1 hx)) p2) (fun n => absurd hk2 n) (Kt.mono q b1 b2)
    · refine PEof (pe_methS A (hs.1 F h7 (f3 hk2)) (fun σ => passAt F.tk σ) h3 h4 h7 h5) fun σ H Q q => ?_
      refine un_rs (Pa := pF ρ.C) (r := fun x H1 => _) ev q fun st S' H' v dx R hx q => ?_
      refine meth_facts F h1 h2 R.sh hx q.nb _ fun c fs i ed e1 e2 => ?_
      subst ed
      rw [metK_eq e1 e2] at q
      refine ⟨S', st, R, ?_⟩
      cases e3 : evEs T es st with
      | er c fs => rw [e3] at q; exact q
      | bad => rw [e3] at q; exact q
      | ok ds =>
        rw [e3] at q
        exact fun S2 vs H2 b1 b2 R2 p2 => call_ok (ds := .obj c fs :: ds) _ R2 (fun z => absurd z hk2) (fun _ => .cons (Rep.mono b1 hx) p2) (Kt.mono q b1 b2)

/-! ### properties -/
theorem passNox (X : Cx) : Passes (L2.CX X.prog X.w) X.nox (fun _ _ _ => False) := fun pins σ H s e s' I ⟨a, B, H', cls, d, h1, h2, h3, h4, h5, h6, h7, h8⟩ => h8
def propF (X : Cx) (n : Str) (x : V) (H1 : Hp) (G : Sp → Prop) : Prop := ∃ a C dx fs, x = .ref a ∧ H1 a = some (.ins C dx fs) ∧ Cls X.K C ∧
  ∃ k p g fd ps sp, PropOf X.K C n p g ∧ FnOk X.prog X.w X.K X.mg X.base (L2.CX X.prog X.w) k g fd ps sp ∧ Room (k + 1) X.A ∧ Binds X.K fd ps [] ∧ G sp
theorem pe_propS {e : Expr} {f : Str} {pos : Pos} {ta : TE} (he : PE X e ta) (hab : attributeBase e f X.env (eval e X.env) = eval e X.env) :
    PE X (.Attribute e f pos) (fun σ H Q => ta σ H fun x H1 => propF X f x H1 fun sp => sp [x] H1 Q (fun _ _ _ => False)) := by
  refine ⟨fun pins s σ H Q I h => ?_⟩
  refine attr_of hab (thn (he.run pins s σ H _ I h) fun u s1 ⟨x, H1, I1, rx, a, C, dx, fs, ex, ea, c, k, p, g, fd, ps, sp, hp, F, hr, hb, q⟩ => ?_)
  subst ex
  obtain rfl : u = Value.ref a := rx
  exact getprop_ok I1 ea c hp F hr hb .nil (passNox X) q
def prpK (T : Tb) (f : Nat) (x : D) : R := match x with
  | .obj c fs => (match T.pr c f with
    | some g => (T.fn g [.obj c fs]).calm
    | none => .bad)
  | _ => .bad
theorem prpK_ok {f : Nat} {d : D} (h : prpK T f d ≠ .bad) : ∃ c fs i r, d = .obj c fs ∧ T.pr c f = some i ∧ T.fn i [.obj c fs] = .ok r ∧ prpK T f d = .ok r := by
  cases d with
  | obj c fs =>
    unfold prpK at h ⊢
    cases e1 : T.pr c f with
    | none => exact absurd (by simp [e1]) h
    | some i =>
      simp only [e1] at h ⊢
      cases e2 : T.fn i [.obj c fs] with
      | ok r => exact ⟨c, fs, i, r, rfl, e1, e2, rfl⟩
      | er _ _ => rw [e2] at h; exact absurd rfl h
      | bad => rw [e2] at h; exact absurd rfl h
  | _ => exact absurd rfl h
theorem se_prp (f : Nat) (ha : SE a) : SE (.prp a f) := fun {z ρ T k X O x} F h hf => by
  obtain ⟨y, s, pos, rfl, h1, h2, h3, h4⟩ := inv_prp h
  have hf : fr O (lk z.kd a) := hf
  refine .val ?_ (fun _ => rfl) (fun _ _ _ e => by cases e)
  refine PEof (pe_propS (ha.rep F h4 hf) (base_ok h3 _)) fun σ H Q q => ?_
  refine un_r (f := prpK T f) (r := fun x H1 => _) (fun st => rfl) q fun st S' H' v dx R hx q => ?_
  obtain ⟨c, fs, i, r, rfl, e1, e2, e3⟩ := prpK_ok q.nb
  rw [e3] at q
  cases hx with
  | obj r1 r2 =>
    obtain ⟨p, g, fd, ps, M, FO, hbd⟩ := F.gf.pr f h2 c i e1
    rw [← h1, F.gf.atn]
    rw [← F.K] at FO hbd M
    have cc := F.gf.cls c
    rw [← F.K] at cc
    refine ⟨_, _, _, _, rfl, R.sh _ _ r1, cc, _, p, g, fd, ps, _, M, FO, F.room, hbd, ?_⟩
    refine ⟨S', [.obj c fs], R.sh, .cons (.obj r1 r2) .nil, ?_⟩
    rw [e2]
    intro S2 v2 H2 b1 b2 b3 n sl sc
    exact q S2 v2 H2 b1 b2 (R.grow b1 b2 b3 n) (back_new R b1 b2 sl)

/-! ### classes -/
theorem run_makeS {C f : Addr} {fd : FuncData} {ps : List Str} {sp : Sp} {k : Nat} {E : L2.St → XK} {pins : List (Addr × Obj)} {s : Shared} {us : List Value} {vs : List V} (M : Mk X.K C f) (F : FnOk X.prog X.w X.K X.mg X.base (L2.CX X.prog X.w) k f fd ps sp) (hr : Room (k + 1) X.A) (hb : Binds X.K fd ps [])
    (hx : PassesAt (L2.CX X.prog X.w) X σ (E σ)) (I : Inv X pins σ H s) (r : Vals vs us)
    (h : ∀ x dx, H x = none → H dx = none → dx ≠ x → sp (.ref x :: vs) (upd (upd H dx (.own x)) x (.ins C dx [])) (fun v H2 => v = .non ∧ Q (.ref x) H2) (E σ)) :
    wpAny (model X.prog X.w) X.A (call (.ref C) us) (EP X pins σ Q) X.xe s := by
  have hq := h (s.heap.objs.size + 1) s.heap.objs.size (I.hok.fresh (Nat.le_succ _)) (I.hok.fresh (Nat.le_refl _)) (Nat.ne_of_lt (Nat.lt_succ_self _))
  have I2 := Inv.made (C := C) I
  have r2 : Vals (V.ref (s.heap.objs.size + 1) :: vs) (Value.ref (s.heap.objs.size + 1) :: us) := .cons rfl r
  have hl : (Value.ref (s.heap.objs.size + 1) :: us ++ []).length = ps.length := by
    have e := r2.length
    rw [F.len _ _ _ _ hq] at e
    rw [List.append_nil]
    exact e.symm
  have hbb := hb _ (Value.ref (s.heap.objs.size + 1) :: us) I2.kIn hl
  rw [List.append_nil] at hbb
  refine wpAny_call (make_map (f := f) I.kIn M.makes M.init (beq_iff_eq.mp M.fn) (codeAny_mono (F.run _ X.stack _ _ ⟨Value.ref (s.heap.objs.size + 1) :: us, []⟩ (Value.ref (s.heap.objs.size + 1) :: us) _ _ (E σ) (hr.make C us [])
    (I2.env0.make C us []) hbb r2 hq) fun r s' hq' => ?_))
  cases r with
  | error e => exact hx pins _ _ e s' I2 hq'
  | ok fl =>
    cases fl with
    | ret u =>
      obtain ⟨v, H', I3, rv, ev, q3⟩ := I2.after hq'
      subst ev
      exact ⟨rv, ⟨V.ref (s.heap.objs.size + 1), H', I3, rfl, q3⟩⟩
    | next => exact False.elim hq'
    | brk => exact False.elim hq'
    | cont => exact False.elim hq'
theorem pe_makeS {x : Str} {p pos : Pos} {e : Expr} {es : List Expr} {t : TA} {C f : Addr} {fd : FuncData} {ps : List Str} {sp : Sp} {k : Nat} {E : L2.St → XK} (M : Mk X.K C f) (F : FnOk X.prog X.w X.K X.mg X.base (L2.CX X.prog X.w) k f fd ps sp) (hr : Room (k + 1) X.A) (hg : Gl X x) (hm : X.mg x = some (.ref C)) (hb : Binds X.K fd ps []) (hx : ∀ σ, PassesAt (L2.CX X.prog X.w) X σ (E σ))
    (ha : PA X (e :: es) t) (hdb : (x == ("__debug__" : Str)) = false) (he : starEach (e :: es) X.env = (false, eval e X.env) :: starEach es X.env) (hpl : (backTo pos (starEach es X.env)).any (·.1) = false) :
    PE X (.Call (.Name x p) (e :: es) [] pos) (fun σ H Q => t σ H fun vs H1 => ∀ x dx, H1 x = none → H1 dx = none → dx ≠ x → sp (.ref x :: vs) (upd (upd H1 dx (.own x)) x (.ins C dx [])) (fun v H2 => v = .non ∧ Q (.ref x) H2) (E σ)) := by
  refine ⟨fun pins s σ H Q I h => ?_⟩
  refine wpAny_Call_Name_kw (ld_glob I hg hm ?_ hdb)
  refine PySem.W.callWith_K (h₀ := X.base) I.ok.mod.kin M.kp (thn (ha.run pos pins s σ H _ I h) fun us s1 ⟨vs, H1, I1, r, q⟩ => ⟨I1.kIn, ?_⟩) he hpl
  exact run_makeS M F hr hb (hx σ) I1 r q
def makK (T : Tb) (c : Nat) (ds : List D) : R := match T.ini c with
  | some g => T.fn g ds
  | none => .bad
theorem se_make (c : Nat) (hs : SEs es) : SE (.make c es) := fun {z ρ T k X O x} F h hf => by
  obtain ⟨n, p, y, ys, pos, rfl, h1, h2, h3, h4, h5⟩ := inv_make h
  have hf : fr O (lkEs z.kd es) := hf
  have ev : ∀ st, evE T (.make c es) st = (evEs T es st).bind (makK T c) := fun st => rfl
  obtain ⟨i, e1, f, fd, ps, M, FO, hb, hm⟩ := F.gf.mkc c h2
  rw [h1] at hm
  rw [← F.K] at M FO hb
  have st : starEach (y :: ys) X.env = (false, eval y X.env) :: starEach ys X.env ∧ (backTo pos (starEach ys X.env)).any (·.1) = false := by
    cases es with
    | nil => cases h5
    | cons e es =>
      have h5 : (mE z e y && mEs z es ys) = true := h5
      simp only [Bool.and_eq_true] at h5
      exact ⟨star1 h5.1, (stars h5.2).1⟩
  refine .val ?_ (fun _ => rfl) (fun _ _ _ e => by cases e)
  refine PEof (pe_makeS M FO F.room (F.gl h3) hm hb (fun σ => passAt F.tk σ) (hs.1 F h5 hf) (plainN_d h4).1 st.1 st.2) fun σ H Q q => ?_
  refine args_r ev q fun st S' H' xs ds R e r q x dx hx hdx hne => ?_
  have q : Kt ρ O st σ (pX ρ.C ρ.B O true) S' H' Q (makK T c ds) := q
  unfold makK at q
  rw [e1] at q
  refine ⟨x, dx, xs, S', ds, H', rfl, rfl, hx, hdx, hne, R.sh, r, ?_⟩
  cases e2 : T.fn i ds with
  | ok d =>
    simp only [e2] at q
    exact fun S2 H2 b1 b2 b3 n sl => ⟨rfl, q S2 (.ref x) H2 b1 b2 (R.grow b1 b2 b3 n) (back_new R b1 b2 sl)⟩
  | er c fs =>
    simp only [e2] at q
    exact fun S2 H2 dx b1 b2 b3 n xr => q S2 H2 dx b1 b2 (R.grow b1 b2 b3 n) xr
  | bad => simp only [e2] at q; exact q.elim
end DL
end

section
set_option linter.all false
set_option maxRecDepth 100000
set_option maxHeartbeats 1000000
set_option Elab.async false
/-! DLy: calls of built-in things. -/
namespace DL
open PySem PySem.Spec PyProof.Rows L2
variable {z : Zx} {ρ : Rn} {T : Tb} {k : Nat} {X : Cx} {O : Own} {x y : Expr} {m a b c e : E} {es : Es} {σ : L2.St} {H : Hp} {S : Hp} {st : St} {Q : VK}

theorem heads {x : Expr} {xs : List Expr} {env : Env} {pos : Pos} (h : mEs z es (x :: xs) = true) : starEach (x :: xs) env = (false, eval x env) :: starEach xs env ∧ (backTo pos (starEach xs env)).any (·.1) = false ∧
    (backTo pos (starEach (x :: xs) env)).all (fun x => !x.1) = true := by
  refine ⟨?_, ?_, (stars h).2.1⟩
  · cases es with
    | nil => cases h
    | cons e es =>
      have h5 : (mE z e x && mEs z es xs) = true := h
      simp only [Bool.and_eq_true] at h5
      exact star1 h5.1
  · cases es with
    | nil => cases h
    | cons e es =>
      have h5 : (mE z e x && mEs z es xs) = true := h
      simp only [Bool.and_eq_true] at h5
      exact (stars h5.2).1
theorem blt_pe (F : XF z ρ T k X) {f : BF} {p pos : Pos} {x : Expr} {xs : List Expr} {t : TA} (hf : f ≠ .lenset) (hs : f ≠ .sorted) (hg : isGl z (bfN f) = true) (ha : PA X (x :: xs) t) (h : mEs z es (x :: xs) = true) :
    PE X (.Call (.Name (bfN f) p) (x :: xs) [] pos) (tCB (rBlt X.K f) t) := by
  obtain ⟨s1, s2, _⟩ := heads (env := X.env) (pos := pos) h
  cases f
  case lenset => exact absurd rfl hf
  case sorted => exact absurd rfl hs
  case len => exact pe_callB (call_len_seq.or call_len_str) (F.gl hg) (F.mgn (by decide)) boot_len ha (by decide) (by decide) s1 s2
  case abs => exact pe_callB call_abs (F.gl hg) (F.mgn (by decide)) boot_abs ha (by decide) (by decide) s1 s2
  case int => exact pe_callTy (call_int1.or call_int_str) (F.gl hg) (F.mgn (by decide)) PyProof.Rows.boot_int ha (by decide) (by decide) s1 s2
  case str => exact pe_callTy call_str_int (F.gl hg) (F.mgn (by decide)) PyProof.Rows.boot_str ha (by decide) (by decide) s1 s2
  case max => exact pe_callB ((call_max2 F.calm).or (cr_max F.calm)) (F.gl hg) (F.mgn (by decide)) PyProof.Rows.boot_max ha (by decide) (by decide) s1 s2
  case min => exact pe_callB ((call_min2 F.calm).or (cr_min F.calm)) (F.gl hg) (F.mgn (by decide)) PyProof.Rows.boot_min ha (by decide) (by decide) s1 s2
  case sum => exact pe_callB (cr_sum F.calm) (F.gl hg) (F.mgn (by decide)) PyProof.Rows.boot_sum ha (by decide) (by decide) s1 s2
  case list => exact pe_callTy call_list_of (F.gl hg) (F.mgn (by decide)) PyProof.Rows.boot_list ha (by decide) (by decide) s1 s2
  case tuple => exact pe_callTy call_tuple_of (F.gl hg) (F.mgn (by decide)) PyProof.Rows.boot_tuple ha (by decide) (by decide) s1 s2
theorem se_blt (f : BF) (hs : SEs es) : SE (.blt f es) := fun {z ρ T k X O x} F h hf => by
  obtain ⟨n, p, y, ys, pos, rfl, h1, h2, h3, h4⟩ := inv_blt h
  have hf : fr O (bwEs z.kd es) := hf
  subst h2
  have A := hs.2 F h4 hf
  have pe : PE X (.Call (.Name (bfN f) p) (y :: ys) [] pos) (tG ρ T O (.blt f es) (pX ρ.C ρ.B O true)) := by
    by_cases hso : f = .sorted
    · subst hso
      obtain ⟨s1, s2, _⟩ := heads (env := X.env) (pos := pos) h4
      refine PEof (pe_callB (r := fun _ _ _ => False) (t := tGL ρ T O es (Bors ρ.C)) (fun _ _ _ _ _ _ _ _ _ h => h.elim) (F.gl h3) (F.mgn (by decide)) PyProof.Rows.boot_sorted A (by decide) (by decide) s1 s2) fun σ H Q q => ?_
      refine args_r (f := fun ds => ofO (bltD .sorted ds)) (fun st => rfl) q fun st S' H' xs ds R e r q => ?_
      have : bltD .sorted ds = none := by
        unfold bltD
        split <;> simp_all
      rw [this] at q
      exact q
    · refine PEof (blt_pe F h1 hso h3 A h4) fun σ H Q q => ?_
      exact args_r (f := fun ds => ofO (bltD f ds)) (fun st => rfl) q fun st S' H' xs ds R e r q => blt_ok F.K R r q h1
  exact .val pe (fun _ => rfl) (fun _ _ _ e => by cases e)
theorem se_lsr (ha : SE a) : SE (.lsr a) := fun {z ρ T k X O x} F h hf => by
  obtain ⟨p, q, w, pos, pos2, rfl, h1, h2, h3⟩ := inv_lsr h
  have hf : fr O (bw z.kd a) := hf
  refine .val ?_ (fun _ => rfl) (fun _ _ _ e => by cases e)
  refine PEof (pe_listRg F.calm (F.gl h1) (F.mgn (by decide)) (prg_1 (F.gl h2) (F.mgn (by decide)) (ha.bor F h3 hf) (star1 h3)) rfl) fun σ H Q q => ?_
  refine un_r (f := fun x => match x with
    | .int n => if rngOk 0 n then .ok (.lst (rngD 0 n)) else .bad
    | _ => .bad) (r := fun x H1 => _) (fun st => rfl) q fun st S' H' v dx R hx q => ?_
  cases dx with
  | int n =>
    have q : Kt ρ O st σ (pX ρ.C ρ.B O true) S' H' Q (if rngOk 0 n then .ok (.lst (rngD 0 n)) else .bad) := q
    by_cases hr : rngOk 0 n = true
    · rw [if_pos hr] at q
      unfold rngOk at hr
      have hr := of_decide_eq_true hr
      refine ⟨n, Bor.int hx, ⟨by omega, by omega, by omega, by omega, by omega⟩, fun p hp => Kt.newL q R hp ?_⟩
      unfold rgV rngD
      have : ∀ l : List Nat, Reps ρ.C S' (l.map fun i => V.int (0 + (i : Nat))) (l.map fun k => D.int (0 + (k : Nat))) := by
        intro l
        induction l with
        | nil => exact .nil
        | cons i l ih => exact .cons (.int _) ih
      exact this _
    · rw [if_neg hr] at q; exact q.elim
  | _ => exact q.elim
theorem se_bm (f : BM) (ha : SE a) (hs : SEs es) : SE (.bm f a es) := fun {z ρ T k X O x} F h hf => by
  obtain ⟨y, s, ap, w, ys, pos, rfl, h1, h2, h3, h4, h5, h6, h7⟩ := inv_bm h
  have hf : fr O (bw z.kd a ++ bwEs z.kd es) := hf
  subst h2
  obtain ⟨s1, s2, s3⟩ := heads (env := X.env) (pos := pos) h7
  have hfew : ((backTo pos (starEach (w :: ys) X.env)).all (fun x => !x.1) && (backToKw pos (keywordEach [] X.env)).all (fun x => x.1.isSome)
      && decide ((w :: ys).length + ([] : List Keyword).length + (if ([] : List Keyword).isEmpty then 0 else 1) < 30)) = true := by
    rw [s3]
    simp [keywordEach, backToKw]
    omega
  have pe : ∀ {id : String} {t : TA} {r}, Slot "str" (bmN f) id → typeOf (.builtin id) = pure (.type "method_descriptor") → MtR X id r → PA X (w :: ys) t → PE X (.Call (.Attribute y (bmN f) ap) (w :: ys) [] pos) (tBM X.K "str" r (tG ρ T O a (pB ρ.C)) t) := fun sl ty mt ar =>
    pe_bm PySem.F.plainAttrs_str sl ty mt (ha.bor F h6 hf.app.1) ar (base_ok h3 _) hfew h4 s1 s2
  have A := hs.2 F h7 hf.app.2
  have rd : ∀ σ H Q, tG ρ T O (.bm f a es) (pX ρ.C ρ.B O true) σ H Q → tBM X.K "str" (rBm X.K f) (tG ρ T O a (pB ρ.C)) (tGL ρ T O es (Bors ρ.C)) σ H Q := fun σ H Q q => by
    refine un_rs (Pa := pB ρ.C) (r := fun x H1 => _) (f := fun st x => match x with
      | .str s => (evEs T es st).bind fun ds => ofO (bmD f (.str s) ds)
      | _ => .bad) (fun st => rfl) q fun st S' H' v dx R hx q => ?_
    cases dx with
    | str s =>
      have q : Kt ρ O st σ (pX ρ.C ρ.B O true) S' H' Q ((evEs T es st).bind fun ds => ofO (bmD f (.str s) ds)) := q
      cases Bor.str hx
      refine ⟨rfl, S', st, R, ?_⟩
      cases e3 : evEs T es st with
      | er c fs => rw [e3] at q; exact q
      | bad => rw [e3] at q; exact q
      | ok ds =>
        rw [e3] at q
        exact fun S2 vs H2 b1 b2 R2 p2 => bm_ok F.K R2 (Bor.mono hx b1 b2) p2 (Kt.mono q b1 b2)
    | _ => exact q.elim
  refine .val ?_ (fun _ => rfl) (fun _ _ _ e => by cases e)
  cases f
  case join => exact PEof (pe PySem.F.slot_str_join PySem.F.type_str_join mt_join A) rd
  case split => exact PEof (pe PySem.F.slot_str_split PySem.F.type_str_split mt_split A) rd
  all_goals cases h1
theorem se_isi (t : Ty) (ha : SE a) : SE (.isi a t) := fun {z ρ T k X O x} F h hf => by
  obtain ⟨p, y, p2, pos, rfl, h1, h2, h3⟩ := inv_isi h
  have hf : fr O (bw z.kd a) := hf
  refine .val ?_ (fun _ => rfl) (fun _ _ _ e => by cases e)
  have nm : PE X (.Name (tyN t) p2) (tC (.ty (tyS t))) := by
    cases t
    · exact pe_bltn (F.gl h2) (F.mgn (by decide)) PyProof.Rows.boot_int rfl (by decide) (by decide)
    · exact pe_bltn (F.gl h2) (F.mgn (by decide)) PyProof.Rows.boot_bool rfl (by decide) (by decide)
    · exact pe_bltn (F.gl h2) (F.mgn (by decide)) PyProof.Rows.boot_list rfl (by decide) (by decide)
    · exact pe_bltn (F.gl h2) (F.mgn (by decide)) PyProof.Rows.boot_tuple rfl (by decide) (by decide)
    · exact pe_bltn (F.gl h2) (F.mgn (by decide)) PyProof.Rows.boot_str rfl (by decide) (by decide)
  refine PEof (pe_callB call_isi (F.gl h1) (F.mgn (by decide)) PyProof.Rows.boot_isinstance (pa_cons (ha.bor F h3 hf) (pa_cons nm pa_nil rfl) (star1 h3)) (by decide) (by decide) (star1 h3) rfl) fun σ H Q q => ?_
  exact un_r (f := fun x => match isiD t x with
    | some b => .ok (.bl b)
    | none => .bad) (r := fun x H1 => _) (fun st => rfl) q fun st S' H' v dx R hx q => isi_ok F.K R hx q
end DL
end

section
set_option linter.all false
set_option maxRecDepth 100000
set_option maxHeartbeats 1000000
set_option Elab.async false
/-! DLz: what is walked; targets; comprehensions; all expressions. -/
namespace DL
open PySem PySem.Spec PyProof.Rows L2
variable {z : Zx} {ρ : Rn} {T : Tb} {k : Nat} {X : Cx} {O : Own} {x y tg : Expr} {m a b c e : E} {es : Es} {σ σ' : L2.St} {H : Hp} {S S0 B : Hp} {st st' : St} {Q : VK} {C : Cn}

/-! ### slots -/
theorem Rel.slots {st1 : St} {σ1 : L2.St} (R : Rel C B S0 S O st1 σ1 H) (hl : σ.length = st.length) (ho : ∀ i, own O i = true → st[i]? = st1[i]? ∧ σ[i]? = σ1[i]?)
    (hn : ∀ i d, own O i = false → st[i]? = some (some d) → ∃ v, σ[i]? = some (some v) ∧ Rep C S v d) : Rel C B S0 S O st σ H := by
  refine ⟨R.bh, R.s0, R.sh, R.nw, hl, fun i d hd => ?_, fun i j l hi hj => ?_⟩
  · cases e : own O i with
    | true =>
      obtain ⟨h1, h2⟩ := ho i e
      rw [h1] at hd
      obtain ⟨v, hv, hs⟩ := R.slot i d hd
      rw [e] at hs
      exact ⟨v, by rw [h2]; exact hv, hs⟩
    | false =>
      obtain ⟨v, hv, hr⟩ := hn i d e hd
      exact ⟨v, hv, .inr ⟨fun z => (nomatch z), hr⟩⟩
  · obtain ⟨a1, a2, d, a3, a4⟩ := hi
    obtain ⟨b1, b2, d', b3, b4⟩ := hj
    obtain ⟨h1, h2⟩ := ho i a1
    obtain ⟨h3, h4⟩ := ho j b1
    exact R.dj i j l ⟨a1, by rw [← h2]; exact a2, d, by rw [← h1]; exact a3, a4⟩ ⟨b1, by rw [← h4]; exact b2, d', by rw [← h3]; exact b3, b4⟩
theorem Rel.free (R : Rel C B S0 S O st σ H) {i : Nat} {d : D} (ho : own O i = false) (h : st[i]? = some (some d)) : ∃ v, σ[i]? = some (some v) ∧ Rep C S v d := by
  obtain ⟨v, hv, hs⟩ := R.slot i d h
  rw [ho] at hs
  rcases hs with ⟨z, _⟩ | ⟨_, r⟩
  · cases z
  · exact ⟨v, hv, r⟩
theorem Rel.put (R : Rel C B S0 S O st σ H) {i : Nat} {v : V} {d : D} (ho : own O i = false) (r : Rep C S v d) : Rel C B S0 S O (st.set i (some d)) (σ.set i (some v)) H := by
  refine R.slots (by rw [List.length_set, List.length_set, R.len]) (fun j hj => ?_) fun j e hj hd => ?_
  · have : i ≠ j := fun e => by rw [e, hj] at ho; cases ho
    rw [List.getElem?_set_ne this, List.getElem?_set_ne this]
    exact ⟨rfl, rfl⟩
  · by_cases e1 : i = j
    · subst e1
      have hlt : i < st.length := by
        have := (List.getElem?_eq_some_iff.mp hd).1
        simpa using this
      rw [List.getElem?_set_self hlt] at hd
      cases hd
      exact ⟨v, List.getElem?_set_self (by rw [R.len]; exact hlt), r⟩
    · rw [List.getElem?_set_ne e1] at hd
      rw [List.getElem?_set_ne e1]
      exact R.free hj hd
theorem wipe_in {i : Nat} : ∀ {vs : List Nat}, i ∈ vs → ∀ v, (wipe σ vs)[i]? ≠ some (some v)
  | [], h, _ => by cases h
  | v :: vs, h, w => fun e => by
    have := (wipe_some e).2
    exact this h
theorem wipeD_len : ∀ vs : List Nat, (wipeD st vs).length = st.length
  | [] => rfl
  | v :: vs => by unfold wipeD; rw [List.length_set, wipeD_len vs]
theorem wipeD_out {i : Nat} : ∀ {vs : List Nat}, i ∉ vs → (wipeD st vs)[i]? = st[i]?
  | [], _ => rfl
  | v :: vs, h => by
    unfold wipeD
    rw [List.getElem?_set_ne (fun e => h (by rw [e]; simp))]
    exact wipeD_out fun hi => h (List.mem_cons_of_mem _ hi)
theorem wipeD_some {i : Nat} {d : D} : ∀ {vs : List Nat}, (wipeD st vs)[i]? = some (some d) → st[i]? = some (some d) ∧ i ∉ vs
  | [], h => ⟨h, by simp⟩
  | v :: vs, h => by
    unfold wipeD at h
    by_cases hi : v = i
    · subst hi
      by_cases hv : v < (wipeD st vs).length
      · rw [List.getElem?_set_self hv] at h; cases h
      · rw [List.getElem?_eq_none (by simpa using hv)] at h; cases h
    · rw [List.getElem?_set_ne hi] at h
      obtain ⟨h1, h2⟩ := wipeD_some h
      exact ⟨h1, by simp only [List.mem_cons, not_or]; exact ⟨fun e => hi e.symm, h2⟩⟩
theorem wipe_get {i : Nat} : ∀ {vs : List Nat}, i ∈ vs → i < σ.length → (wipe σ vs)[i]? = some none
  | [], h, _ => by cases h
  | v :: vs, h, hl => by
    unfold wipe
    by_cases e : v = i
    · subst e
      exact List.getElem?_set_self (by rw [wipe_length]; exact hl)
    · rw [List.getElem?_set_ne e]
      exact wipe_get (by rcases List.mem_cons.mp h with h | h; exact absurd h.symm e; exact h) hl
theorem wipe_same {vs : List Nat} (hl : σ'.length = σ.length) (h : ∀ i, i ∉ vs → σ'[i]? = σ[i]?) : wipe σ' vs = wipe σ vs := by
  apply List.ext_getElem?
  intro i
  by_cases hi : i ∈ vs
  · by_cases hlt : i < σ.length
    · rw [wipe_get hi hlt, wipe_get hi (by rw [hl]; exact hlt)]
    · rw [List.getElem?_eq_none (by rw [wipe_length]; omega), List.getElem?_eq_none (by rw [wipe_length]; omega)]
  · rw [wipe_out hi, wipe_out hi, h i hi]
theorem Rel.wiped (R : Rel C B S0 S O st σ H) {vs : List Nat} (hf : fr O vs) : Rel C B S0 S O (wipeD st vs) (wipe σ vs) H := by
  refine R.slots (by rw [wipe_length, wipeD_len, R.len]) (fun j hj => ?_) fun j e hj hd => ?_
  · have : j ∉ vs := fun e => by rw [hf j e] at hj; cases hj
    exact ⟨wipeD_out this, wipe_out this⟩
  · obtain ⟨h1, h2⟩ := wipeD_some hd
    obtain ⟨v, hv, r⟩ := R.free hj h1
    exact ⟨v, by rw [wipe_out h2]; exact hv, r⟩

/-! ### targets -/
def gNs : List Nat → TGs
  | [] => gNil
  | i :: is => gCons (gName i) (gNs is)
def gP (K : PySem.W.Frag) : P → TG
  | .nm i => gName i
  | .tp is => gTup K is.length (gNs is)
theorem pgs_N (F : XF z ρ T k X) : ∀ {is : List Nat} {es : List Expr}, mNames z is es = true → PGs X es (gNs is) ∧ (assignEach es X.env).length = is.length ∧ (assignEach es X.env).findIdx? (·.1) = none
  | [], [], _ => ⟨pgs_nil, rfl, rfl⟩
  | [], _ :: _, h => by cases h
  | _ :: _, [], h => by cases h
  | i :: is, e :: es, h => by
    cases e with
    | Name x p =>
      have h : (slotIs z i x && isLoc z x && mNames z is es) = true := h
      simp only [Bool.and_eq_true] at h
      obtain ⟨i1, i2, i3⟩ := pgs_N F h.2
      have hl := F.loc h.1.2
      refine ⟨pgs_cons (pg_name (by rw [F.N]; exact F.nd) (F.slot h.1.1) hl.1 hl.2) i1 rfl, ?_, ?_⟩
      · show (assignEach es X.env).length + 1 = is.length + 1
        rw [i2]
      · show List.findIdx? (·.1) ((false, assign (.Name x p) X.env) :: assignEach es X.env) = none
        rw [List.findIdx?_cons]
        simp [i3]
    | _ => cases h
theorem pg_P (F : XF z ρ T k X) {p : P} (h : mP z p tg = true) : PG X tg (gP X.K p) := by
  cases p with
  | nm i =>
    cases tg with
    | Name x q =>
      have h : (slotIs z i x && isLoc z x) = true := h
      simp only [Bool.and_eq_true] at h
      have hl := F.loc h.2
      exact pg_name (by rw [F.N]; exact F.nd) (F.slot h.1) hl.1 hl.2
    | _ => cases h
  | tp is =>
    cases tg with
    | Tuple es j q =>
      have h : mNames z is es = true := h
      obtain ⟨i1, i2, i3⟩ := pgs_N F h
      exact pg_tup F.calm i1 i2 i3
    | _ => cases h
theorem bindIs_r : ∀ {is : List Nat} {ds : List D} {vs : List V} {st st' : St} {σ : L2.St}, Rel C B S0 S O st σ H → Reps C S vs ds → bindIs is ds st = some st' → fr O is → ∀ {Q : L2.St → Hp → Prop},
    (∀ σ', σ'.length = σ.length → (∀ i, i ∉ is → σ'[i]? = σ[i]?) → Rel C B S0 S O st' σ' H → Q σ' H) → gNs is vs σ H Q
  | [], [], _, st, _, σ, R, .nil, h, _, Q, k => by
    cases h
    exact ⟨rfl, k σ rfl (fun _ _ => rfl) R⟩
  | [], _ :: _, _, _, _, _, _, _, h, _, _, _ => by cases h
  | _ :: _, [], _, _, _, _, _, _, h, _, _, _ => by cases h
  | i :: is, d :: ds, _, st, st', σ, R, .cons (v := v) (vs := vs) r rs, h, hf, Q, k => by
    have h : bindIs is ds (st.set i (some d)) = some st' := h
    refine ⟨v, vs, rfl, ?_⟩
    refine bindIs_r (R.put (hf i (by simp)) r) rs h (fun j hj => hf j (List.mem_cons_of_mem _ hj)) fun σ' h1 h2 R' => ?_
    refine k σ' (by rw [h1, List.length_set]) (fun j hj => ?_) R'
    rw [h2 j (fun e => hj (List.mem_cons_of_mem _ e)), List.getElem?_set_ne (fun e => hj (by rw [e]; simp))]
theorem bindP_r {p : P} {d : D} {v : V} (R : Rel C B S0 S O st σ H) (r : Rep C S v d) (h : bindP p d st = some st') (hf : fr O p.slots) {Q : L2.St → Hp → Prop}
    (k : ∀ σ', σ'.length = σ.length → (∀ i, i ∉ p.slots → σ'[i]? = σ[i]?) → Rel C B S0 S O st' σ' H → Q σ' H) : gP C.K p v σ H Q := by
  cases p with
  | nm i =>
    cases h
    have ho : own O i = false := hf i (by show i ∈ [i]; simp)
    exact k _ (List.length_set ..) (fun j hj => List.getElem?_set_ne (fun e => hj (by show j ∈ [i]; simp [e])) ) (R.put ho r)
  | tp is =>
    cases d with
    | tup ds =>
      have h : bindIs is ds st = some st' := h
      cases r with
      | tup q rs =>
        rename_i a vs
        have hlen : ∀ {is : List Nat} {ds : List D} {st st' : St}, bindIs is ds st = some st' → ds.length = is.length := by
          intro is
          induction is with
          | nil => intro ds st st' h; cases ds with
            | nil => rfl
            | cons _ _ => cases h
          | cons i is ih => intro ds st st' h; cases ds with
            | nil => cases h
            | cons d ds => exact congrArg (· + 1) (ih h)
        exact ⟨a, vs, rfl, R.sh.sqt q, by rw [rs.length, hlen h], bindIs_r R rs h hf k⟩
    | _ => cases h

/-! ### what is walked -/
def Rn.at (ρ : Rn) (B : Hp) : Rn := { ρ with B := B }
def KtI (ρ : Rn) (O : Own) (st : St) (σ : L2.St) (S H : Hp) (R : It → Hp → Prop) : RL → Prop
  | .ok ds => ∀ S' J H', Ext S S' → Ext H H' → Rel ρ.C ρ.B ρ.S0 S' O st σ H' → Wk ρ J S' ds → R J H'
  | .er c fs => ∀ S' H' dx, Ext S S' → Ext H H' → Rel ρ.C ρ.B ρ.S0 S' O st σ H' → XRep ρ.C S' H' dx fs → ρ.W (.ref (ρ.C.cx c)) dx σ H'
  | .bad => False
theorem KtI.mono {R : It → Hp → Prop} {S1 H1 : Hp} {r : RL} (h : KtI ρ O st σ S H R r) (e : Ext S S1) (h' : Ext H H1) : KtI ρ O st σ S1 H1 R r := by
  cases r with
  | ok d => exact fun S' J H' a b R w => h S' J H' (e.trans a) (h'.trans b) R w
  | er c fs => exact fun S' H' dx a b R p => h S' H' dx (e.trans a) (h'.trans b) R p
  | bad => exact h
def tGI (ρ : Rn) (T : Tb) (O : Own) (it : I) : TI := fun σ H R => ∃ S st, Rel ρ.C ρ.B ρ.S0 S O st σ H ∧ KtI ρ O st σ S H R (evI T it st)
theorem PIof {wi wi' : TI} (h : PI X tg x wi') (i : ∀ σ H R, wi σ H R → wi' σ H R) : PI X tg x wi := ⟨fun pins s σ H R I q => h.run pins s σ H R I (i σ H R q)⟩
theorem PIor {wi wi' : TI} (h : PI X tg x wi) (h' : PI X tg x wi') : PI X tg x (fun σ H R => wi σ H R ∨ wi' σ H R) := ⟨fun pins s σ H R I q => by
  rcases q with q | q
  · exact h.run pins s σ H R I q
  · exact h'.run pins s σ H R I q⟩
structure OkI (ρ : Rn) (T : Tb) (X : Cx) (O : Own) (it : I) (tg x : Expr) : Prop where
  pi : PI X tg x (tGI ρ T O it)
  fs : ∀ v, foldedSetIterable x X.env v = pure v
def SI (it : I) : Prop := ∀ {z : Zx} {ρ : Rn} {T : Tb} {k : Nat} {X : Cx} {O : Own} {tg x : Expr}, XF z ρ T k X → mI z it tg x = true → fr O (lkI z.kd it) → OkI ρ T X O it tg x
theorem fold_e (h : mE z m x = true) (env : Env) (v : Value) : foldedSetIterable x env v = pure v := by
  cases x <;> first | rfl | exact (mE_set h).elim
/-- the value of one expression, then a walk -/
theorem i1_r {it : I} {P : Pv} {f : D → RL} {r : V → Hp → Prop} {Rr : It → Hp → Prop} (hm : ∀ st, evI T it st = (evE T a st).bindL f) (h : tGI ρ T O it σ H Rr)
    (k : ∀ st S' H' v d, Rel ρ.C ρ.B ρ.S0 S' O st σ H' → P st σ S' H' v d → KtI ρ O st σ S' H' Rr (f d) → r v H') : tG ρ T O a P σ H r := by
  obtain ⟨S, st, R, q⟩ := h
  refine ⟨S, st, R, ?_⟩
  rw [hm] at q
  cases e : evE T a st with
  | ok d =>
    rw [e] at q
    exact fun S' v H' a1 a2 R' p => k st S' H' v d R' p (KtI.mono q a1 a2)
  | er c fs => rw [e] at q; exact q
  | bad => rw [e] at q; exact q
theorem KtI.go {Rr : It → Hp → Prop} {J : It} {ds : List D} (h : KtI ρ O st σ S H Rr (.ok ds)) (R : Rel ρ.C ρ.B ρ.S0 S O st σ H) (w : Wk ρ J S ds) : Rr J H := h S J H (Ext.rfl' _) (Ext.rfl' _) R w
theorem si_seq (he : SE e) : SI (.seq e) := fun {z ρ T k X O tg x} F h hf => by
  have h : mE z e x = true := h
  have hf : fr O (lk z.kd e) := hf
  have A := he.rep F h hf
  refine ⟨PIof (PIor (pi_list A) (PIor (pi_tup A) (pi_str A))) fun σ H Rr q => ?_, fold_e h X.env⟩
  have ev : ∀ st, evI T (.seq e) st = (evE T e st).bindL fun x => match x with
    | .lst xs => .ok xs
    | .tup xs => .ok xs
    | .str s => .ok (s.cps.toList.map fun c => .str ⟨#[c]⟩)
    | _ => .bad := fun st => rfl
  rw [F.K]
  have q0 := q
  obtain ⟨S, st, R, q⟩ := q
  rw [ev] at q
  have go : ∀ {r : V → Hp → Prop}, (∀ S' H' v d, evE T e st = .ok d → Rel ρ.C ρ.B ρ.S0 S' O st σ H' → Rep ρ.C S' v d → KtI ρ O st σ S' H' Rr ((DL.R.ok d).bindL fun x => match x with
    | .lst xs => .ok xs
    | .tup xs => .ok xs
    | .str s => .ok (s.cps.toList.map fun c => .str ⟨#[c]⟩)
    | _ => .bad) → r v H') → tG ρ T O e (pF ρ.C) σ H r := fun kk => by
    refine ⟨S, st, R, ?_⟩
    cases e1 : evE T e st with
    | ok d => rw [e1] at q; exact fun S' v H' a1 a2 R' p => kk S' H' v d e1 R' p (KtI.mono q a1 a2)
    | er c fs => rw [e1] at q; exact q
    | bad => rw [e1] at q; exact q
  cases e1 : evE T e st with
  | er c fs => exact .inl ⟨S, st, R, by rw [e1] at q ⊢; exact q⟩
  | bad => rw [e1] at q; exact q.elim
  | ok d =>
    cases d with
    | lst ds =>
      refine .inl (go fun S' H' v d e2 R' p q => ?_)
      rw [e1] at e2; cases e2
      cases p with
      | lst r rs => exact ⟨_, rfl, ⟨_, (R'.sh.lsk r).sql⟩, KtI.go q R' (wk_list r rs)⟩
    | tup ds =>
      refine .inr (.inl (go fun S' H' v d e2 R' p q => ?_))
      rw [e1] at e2; cases e2
      cases p with
      | tup r rs => exact ⟨_, rfl, ⟨_, R'.sh.sqt r⟩, KtI.go q R' (wk_tup r rs)⟩
    | str s =>
      refine .inr (.inr (go fun S' H' v d e2 R' p q => ?_))
      rw [e1] at e2; cases e2
      cases p with
      | str => exact ⟨_, rfl, KtI.go q R' (wk_str)⟩
    | _ => rw [e1] at q; exact q.elim
section
variable {u v w : E}
theorem inv_r1 {e : E} (h : mI z (.rng1 e) tg x = true) : ∃ p y pos, x = .Call (.Name "range" p) [y] [] pos ∧ isGl z "range" = true ∧ mE z e y = true := by
  cases x with
  | Call g as ks pos =>
    cases g with
    | Name n p =>
      rcases as with _ | ⟨y, _ | ⟨y2, ys⟩⟩ <;> rcases ks with _ | ⟨w, ks⟩ <;> first | (cases h; done) | skip
      have h : (decide (n = ("range" : Str)) && isGl z n && mE z e y) = true := h
      simp only [Bool.and_eq_true, decide_eq_true_eq] at h
      obtain ⟨⟨rfl, h2⟩, h3⟩ := h
      exact ⟨_, _, _, rfl, h2, h3⟩
    | _ => cases h
  | _ => cases h
theorem inv_r2 {e f : E} (h : mI z (.rng2 e f) tg x = true) : ∃ p y y2 pos, x = .Call (.Name "range" p) [y, y2] [] pos ∧ isGl z "range" = true ∧ mE z e y = true ∧ mE z f y2 = true := by
  cases x with
  | Call g as ks pos =>
    cases g with
    | Name n p =>
      rcases as with _ | ⟨y, _ | ⟨y2, _ | ⟨y3, ys⟩⟩⟩ <;> rcases ks with _ | ⟨w, ks⟩ <;> first | (cases h; done) | skip
      have h : (decide (n = ("range" : Str)) && isGl z n && mE z e y && mE z f y2) = true := h
      simp only [Bool.and_eq_true, decide_eq_true_eq] at h
      obtain ⟨⟨⟨rfl, h2⟩, h3⟩, h4⟩ := h
      exact ⟨_, _, _, _, rfl, h2, h3, h4⟩
    | _ => cases h
  | _ => cases h
theorem inv_r3 {e f g' : E} (h : mI z (.rng3 e f g') tg x = true) : ∃ p y y2 y3 pos, x = .Call (.Name "range" p) [y, y2, y3] [] pos ∧ isGl z "range" = true ∧ mE z e y = true ∧ mE z f y2 = true ∧ mE z g' y3 = true := by
  cases x with
  | Call g as ks pos =>
    cases g with
    | Name n p =>
      rcases as with _ | ⟨y, _ | ⟨y2, _ | ⟨y3, _ | ⟨y4, ys⟩⟩⟩⟩ <;> rcases ks with _ | ⟨w, ks⟩ <;> first | (cases h; done) | skip
      have h : (decide (n = ("range" : Str)) && isGl z n && mE z e y && mE z f y2 && mE z g' y3) = true := h
      simp only [Bool.and_eq_true, decide_eq_true_eq] at h
      obtain ⟨⟨⟨⟨rfl, h2⟩, h3⟩, h4⟩, h5⟩ := h
      exact ⟨_, _, _, _, _, rfl, h2, h3, h4, h5⟩
    | _ => cases h
  | _ => cases h
theorem inv_rev {e : E} (h : mI z (.rev e) tg x = true) : ∃ p y pos, x = .Call (.Name "reversed" p) [y] [] pos ∧ isGl z "reversed" = true ∧ mE z e y = true := by
  cases x with
  | Call g as ks pos =>
    cases g with
    | Name n p =>
      rcases as with _ | ⟨y, _ | ⟨y2, ys⟩⟩ <;> rcases ks with _ | ⟨w, ks⟩ <;> first | (cases h; done) | skip
      have h : (decide (n = ("reversed" : Str)) && isGl z n && mE z e y) = true := h
      simp only [Bool.and_eq_true, decide_eq_true_eq] at h
      obtain ⟨⟨rfl, h2⟩, h3⟩ := h
      exact ⟨_, _, _, rfl, h2, h3⟩
    | _ => cases h
  | _ => cases h
theorem isTup_eq {t : Expr} (h : isTup t = true) : ∃ es j p, t = .Tuple es j p := by cases t <;> first | exact ⟨_, _, _, rfl⟩ | cases h
theorem inv_enm {e : E} (h : mI z (.enm e) tg x = true) : ∃ p y pos, x = .Call (.Name "enumerate" p) [y] [] pos ∧ isGl z "enumerate" = true ∧ isTup tg = true ∧ mE z e y = true := by
  cases x with
  | Call g as ks pos =>
    cases g with
    | Name n p =>
      rcases as with _ | ⟨y, _ | ⟨y2, ys⟩⟩ <;> rcases ks with _ | ⟨w, ks⟩ <;> first | (cases h; done) | skip
      have h : (decide (n = ("enumerate" : Str)) && isGl z n && isTup tg && mE z e y) = true := h
      simp only [Bool.and_eq_true, decide_eq_true_eq] at h
      obtain ⟨⟨⟨rfl, h2⟩, h3⟩, h4⟩ := h
      exact ⟨_, _, _, rfl, h2, h3, h4⟩
    | _ => cases h
  | _ => cases h
theorem inv_zip {e f : E} (h : mI z (.zip e f) tg x = true) : ∃ p y y2 pos, x = .Call (.Name "zip" p) [y, y2] [] pos ∧ isGl z "zip" = true ∧ isTup tg = true ∧ mE z e y = true ∧ mE z f y2 = true := by
  cases x with
  | Call g as ks pos =>
    cases g with
    | Name n p =>
      rcases as with _ | ⟨y, _ | ⟨y2, _ | ⟨y3, ys⟩⟩⟩ <;> rcases ks with _ | ⟨w, ks⟩ <;> first | (cases h; done) | skip
      have h : (decide (n = ("zip" : Str)) && isGl z n && isTup tg && mE z e y && mE z f y2) = true := h
      simp only [Bool.and_eq_true, decide_eq_true_eq] at h
      obtain ⟨⟨⟨⟨rfl, h2⟩, h3⟩, h4⟩, h5⟩ := h
      exact ⟨_, _, _, _, rfl, h2, h3, h4, h5⟩
    | _ => cases h
  | _ => cases h
end
theorem wk_rng0 {n : Int} : Wk ρ (Itr 0 n.toNat) S (rngD 0 n) := by
  have := wk_rng (ρ := ρ) (S := S) (lo := 0) (hi := n)
  rw [Int.sub_zero] at this
  exact this
theorem si_rng1 (ha : SE a) : SI (.rng1 a) := fun {z ρ T k X O tg x} F h hf => by
  obtain ⟨p, y, pos, rfl, h1, h2⟩ := inv_r1 h
  have hf : fr O (bw z.kd a) := hf
  refine ⟨PIof (pi_range1 (F.gl h1) (F.mgn (by decide)) (pa_cons (ha.bor F h2 hf) pa_nil (star1 h2)) (star1 h2)) fun σ H Rr q => ?_, fun _ => rfl⟩
  refine i1_r (f := fun x => match x with
    | .int n => if rngOk 0 n then .ok (rngD 0 n) else .bad
    | _ => .bad) (r := fun v H1 => _) (fun st => rfl) q fun st S' H' v d R p q => ?_
  cases d with
  | int n =>
    have q : KtI ρ O st σ S' H' Rr (if rngOk 0 n then .ok (rngD 0 n) else .bad) := q
    by_cases hr : rngOk 0 n = true
    · rw [if_pos hr] at q
      unfold rngOk at hr
      have hr := of_decide_eq_true hr
      cases Bor.int p
      exact ⟨n, rfl, by omega, by omega, KtI.go q R (wk_rng0)⟩
    · rw [if_neg hr] at q; exact q.elim
  | _ => exact q.elim
/-- the values of two expressions, then a walk -/
theorem i2_r {it : I} {P : Pv} (gP : P.Grows) {f : D → D → RL} {r : V → V → Hp → Prop} {Rr : It → Hp → Prop} (hm : ∀ st, evI T it st = (evE T a st).bindL fun x => (evE T b st).bindL fun y => f x y) (h : tGI ρ T O it σ H Rr)
    (k : ∀ st S' H' v w d e, Rel ρ.C ρ.B ρ.S0 S' O st σ H' → P st σ S' H' v d → P st σ S' H' w e → KtI ρ O st σ S' H' Rr (f d e) → r v w H') : tG ρ T O a P σ H fun v H1 => tG ρ T O b P σ H1 fun w H2 => r v w H2 := by
  obtain ⟨S, st, R, q⟩ := h
  refine ⟨S, st, R, ?_⟩
  rw [hm] at q
  cases e : evE T a st with
  | ok d =>
    rw [e] at q
    refine fun S' v H' a1 a2 R' p => ⟨S', st, R', ?_⟩
    have q : KtI ρ O st σ S' H' Rr ((evE T b st).bindL fun y => f d y) := KtI.mono q a1 a2
    cases e2 : evE T b st with
    | ok d2 =>
      rw [e2] at q
      exact fun S2 v2 H2 b1 b2 R2 p2 => k st S2 H2 v v2 d d2 R2 (gP _ _ _ _ _ _ _ _ b1 b2 p) p2 (KtI.mono q b1 b2)
    | er c fs => rw [e2] at q; exact q
    | bad => rw [e2] at q; exact q
  | er c fs => rw [e] at q; exact q
  | bad => rw [e] at q; exact q
theorem si_rng2 (ha : SE a) (hb : SE b) : SI (.rng2 a b) := fun {z ρ T k X O tg x} F h hf => by
  obtain ⟨p, y, y2, pos, rfl, h1, h2, h3⟩ := inv_r2 h
  have hf : fr O (bw z.kd a ++ bw z.kd b) := hf
  refine ⟨PIof (pi_range2 (F.gl h1) (F.mgn (by decide)) (pa_cons (ha.bor F h2 hf.app.1) (pa_cons (hb.bor F h3 hf.app.2) pa_nil (star1 h3)) (star1 h2)) (by rw [star1 h2, star1 h3]; rfl) (star1 h3)) fun σ H Rr q => ?_, fun _ => rfl⟩
  refine i2_r (f := fun x y => match x, y with
    | .int l, .int h => if rngOk l h then .ok (rngD l h) else .bad
    | _, _ => .bad) (r := fun v w H1 => _) pB_grows (fun st => rfl) q fun st S' H' v w d e R p1 p2 q => ?_
  have go : ∀ {l h : Int}, d = .int l → e = .int h → KtI ρ O st σ S' H' Rr (if rngOk l h then .ok (rngD l h) else .bad) → ∃ i j : Int, [v, w] = [V.int i, V.int j] ∧ (-(2 ^ 62) ≤ i ∧ i < 2 ^ 62 ∧ -(2 ^ 62) ≤ j ∧ j < 2 ^ 62) ∧ Rr (Itr i (j - i).toNat) H' := by
    intro l h e1 e2 qq
    subst e1 e2
    by_cases hr : rngOk l h = true
    · rw [if_pos hr] at qq
      unfold rngOk at hr
      have hr := of_decide_eq_true hr
      cases Bor.int p1
      cases Bor.int p2
      exact ⟨l, h, rfl, ⟨by omega, by omega, by omega, by omega⟩, KtI.go qq R (wk_rng)⟩
    · rw [if_neg hr] at qq; exact qq.elim
  cases d <;> cases e <;> first | exact q.elim | exact go rfl rfl q
theorem si_rng3 (ha : SE a) (hb : SE b) (hc : SE c) : SI (.rng3 a b c) := fun {z ρ T k X O tg x} F h hf => by
  obtain ⟨p, y, y2, y3, pos, rfl, h1, h2, h3, h4⟩ := inv_r3 h
  have hf : fr O (bw z.kd a ++ bw z.kd b ++ bw z.kd c) := hf
  have hpl : (backTo pos (starEach [y2, y3] X.env)).any (·.1) = false := (stars (z := z) (es := .cons b (.cons c .nil)) (by
    show (mE z b y2 && (mE z c y3 && true)) = true
    rw [h3, h4]; rfl)).1
  refine ⟨PIof (pi_range3 (F.gl h1) (F.mgn (by decide)) (pa_cons (ha.bor F h2 hf.app.1.app.1) (pa_cons (hb.bor F h3 hf.app.1.app.2) (pa_cons (hc.bor F h4 hf.app.2) pa_nil (star1 h4)) (star1 h3)) (star1 h2)) (star1 h2) hpl) fun σ H Rr q => ?_, fun _ => rfl⟩
  have ev : ∀ st, evI T (.rng3 a b c) st = (evE T a st).bindL fun x => (evE T b st).bindL fun y => (fun x y => (evE T c st).bindL fun z => match x, y, z with
    | .int l, .int h, .int (-1) => if rngOk l h then .ok ((List.range (l - h).toNat).map fun k => .int (l - (k : Nat))) else .bad
    | _, _, _ => .bad) x y := fun st => rfl
  obtain ⟨S, st, R, q⟩ := q
  refine ⟨S, st, R, ?_⟩
  rw [ev] at q
  cases e : evE T a st with
  | er c fs => rw [e] at q; exact q
  | bad => rw [e] at q; exact q
  | ok d =>
    rw [e] at q
    refine fun S' v H' a1 a2 R' p => ⟨S', st, R', ?_⟩
    replace q := KtI.mono q a1 a2
    dsimp only [DL.R.bindL] at q
    cases e2 : evE T b st with
    | er c fs => rw [e2] at q; exact q
    | bad => rw [e2] at q; exact q
    | ok d2 =>
      rw [e2] at q
      refine fun S2 v2 H2 b1 b2 R2 p2 => ⟨S2, st, R2, ?_⟩
      replace q := KtI.mono q b1 b2
      dsimp only [DL.R.bindL] at q
      cases e3 : evE T c st with
      | er c fs => rw [e3] at q; exact q
      | bad => rw [e3] at q; exact q
      | ok d3 =>
        rw [e3] at q
        refine fun S3 v3 H3 c1 c2 R3 p3 => ?_
        replace q := KtI.mono q c1 c2
        dsimp only [DL.R.bindL] at q
        split at q
        · rename_i l h
          by_cases hr : rngOk l h = true
          · rw [if_pos hr] at q
            unfold rngOk at hr
            have hr := of_decide_eq_true hr
            cases Bor.int p
            cases Bor.int p2
            cases Bor.int p3
            exact ⟨l, h, -1, _, rfl, RgC.neg (by omega) (by omega) (by omega) (by omega), KtI.go q R3 (wk_down)⟩
          · rw [if_neg hr] at q; exact q.elim
        · exact q.elim
theorem si_rev (ha : SE a) : SI (.rev a) := fun {z ρ T k X O tg x} F h hf => by
  obtain ⟨p, y, pos, rfl, h1, h2⟩ := inv_rev h
  have hf : fr O (lk z.kd a) := hf
  refine ⟨PIof (RT.pi_revA (F.gl h1) (F.mgn (by decide)) (ha.rep F h2 hf) (star1 h2)) fun σ H Rr q => ?_, fun _ => rfl⟩
  rw [F.K]
  refine i1_r (f := fun x => match x with
    | .lst xs => .ok xs.reverse
    | .tup xs => .ok xs.reverse
    | _ => .bad) (r := fun v H1 => _) (fun st => rfl) q fun st S' H' v d R p q => ?_
  cases d with
  | lst ds =>
    cases p with
    | lst r rs => exact ⟨_, _, rfl, .inl ⟨(R.sh.lsk r).sql, KtI.go q R (wk_rev r rs)⟩⟩
  | tup ds =>
    cases p with
    | tup r rs => exact ⟨_, _, rfl, .inr ⟨R.sh.sqt r, KtI.go q R (wk_revT r rs)⟩⟩
  | _ => exact q.elim
theorem si_enm (ha : SE a) : SI (.enm a) := fun {z ρ T k X O tg x} F h hf => by
  obtain ⟨p, y, pos, rfl, h1, h2, h3⟩ := inv_enm h
  have hf : fr O (lk z.kd a) := hf
  obtain ⟨es, j, tp, rfl⟩ := isTup_eq h2
  refine ⟨PIof (pi_enum (F.gl h1) (F.mgn (by decide)) (pa_cons (ha.rep F h3 hf) pa_nil (star1 h3)) (star1 h3)) fun σ H Rr q => ?_, fun _ => rfl⟩
  rw [F.K]
  refine i1_r (f := fun x => match x with
    | .lst xs => .ok (numbered 0 xs)
    | _ => .bad) (r := fun v H1 => _) (fun st => rfl) q fun st S' H' v d R p q => ?_
  cases d with
  | lst ds =>
    cases p with
    | lst r rs => exact ⟨_, _, rfl, (R.sh.lsk r).sql, KtI.go q R (wk_enum r rs)⟩
  | _ => exact q.elim
theorem walk_zipT {K : PySem.W.Frag} {a b : Addr} {xs ys : List V} {n : Nat} (hn : n = min xs.length ys.length) : Walk (RZ.ItzT K a b) n (fun H => SqT K H a xs ∧ SqT K H b ys) (YPair (fun i => xs[i]?) (fun i => ys[i]?)) := by
  subst hn
  refine ⟨fun i _ hi q => ?_, fun _ q => ⟨xs, ys, q.1, q.2, by omega⟩, fun i H v H' _ q y => ?_⟩
  · have h1 : i < xs.length := by omega
    have h2 : i < ys.length := by omega
    exact ⟨xs, ys, xs[i], ys[i], q.1, q.2, by simp [h1], by simp [h2]⟩
  · obtain ⟨T, x, z, h1, h2, h3, h4, h5⟩ := y
    exact ⟨T, x, z, h1, h2, h3, h4 xs q.1, h5 ys q.2⟩
theorem wk_zipT {a b : Addr} {vs ws : List V} {ds es : List D} (h1 : SqT ρ.C.K S a vs) (r1 : Reps ρ.C S vs ds) (h2 : SqT ρ.C.K S b ws) (r2 : Reps ρ.C S ws es) : Wk ρ (RZ.ItzT ρ.C.K a b) S (pairUp ds es) := by
  refine wk_pair (f := fun i => vs[i]?) (g := fun i => ws[i]?) (G := fun H => SqT ρ.C.K H a vs ∧ SqT ρ.C.K H b ws) (walk_zipT ?_) (fun S' H e1 e2 => ⟨(e1.trans e2).sqt h1, (e1.trans e2).sqt h2⟩) fun i x y e1 e2 => ?_
  · rw [pairUp_len, r1.length, r2.length]
  · obtain ⟨d, q1, p1⟩ := r1.get e1
    obtain ⟨d2, q2, p2⟩ := r2.get e2
    exact ⟨d, d2, by rw [pairUp_get, q1, q2], p1, p2⟩
theorem si_zip (ha : SE a) (hb : SE b) : SI (.zip a b) := fun {z ρ T k X O tg x} F h hf => by
  obtain ⟨p, y, y2, pos, rfl, h1, h2, h3, h4⟩ := inv_zip h
  have hf : fr O (lk z.kd a ++ lk z.kd b) := hf
  obtain ⟨es, j, tp, rfl⟩ := isTup_eq h2
  have hpl : (backTo pos (starEach [y2] X.env)).any (·.1) = false := (stars (z := z) (es := .cons b .nil) (by
    show (mE z b y2 && true) = true
    rw [h4]; rfl)).1
  refine ⟨PIof (RZ.pi_zipA (F.gl h1) (F.mgn (by decide)) (pa_cons (ha.rep F h3 hf.app.1) (pa_cons (hb.rep F h4 hf.app.2) pa_nil (star1 h4)) (star1 h3)) (star1 h3) hpl) fun σ H Rr q => ?_, fun _ => rfl⟩
  rw [F.K]
  have gr : (pF ρ.C).Grows := pF_grows
  refine i2_r (f := fun x y => match x, y with
    | .lst xs, .lst ys => .ok (pairUp xs ys)
    | .tup xs, .tup ys => .ok (pairUp xs ys)
    | _, _ => .bad) (r := fun v w H1 => _) gr (fun st => rfl) q fun st S' H' v w d e R p1 p2 q => ?_
  cases d <;> cases e <;> first | exact q.elim | skip
  · cases p1 with
    | lst r rs =>
      cases p2 with
      | lst r2 rs2 => exact ⟨_, _, _, _, rfl, .inl ⟨(R.sh.lsk r).sql, (R.sh.lsk r2).sql, KtI.go q R (wk_zip r rs r2 rs2)⟩⟩
  · cases p1 with
    | tup r rs =>
      cases p2 with
      | tup r2 rs2 => exact ⟨_, _, _, _, rfl, .inr ⟨R.sh.sqt r, R.sh.sqt r2, KtI.go q R (wk_zipT r rs r2 rs2)⟩⟩
end DL
end

section
set_option linter.all false
set_option maxRecDepth 100000
set_option maxHeartbeats 1000000
set_option Elab.async false
/-! DLk: comprehensions; every expression. -/
namespace DL
open PySem PySem.Spec PyProof.Rows L2
variable {z : Zx} {ρ : Rn} {T : Tb} {k : Nat} {X : Cx} {O : Own} {x y tg : Expr} {m a b c e : E} {es : Es} {σ σ' : L2.St} {H : Hp} {S S0 B : Hp} {st st' : St} {Q : VK} {C : Cn} {A : Addr} {o o' : HO}

/-! ### the new list, kept out of sight -/
theorem Rel.up (R : Rel C B S0 S O st σ H) (n : H A = none) : Rel C (upd B A o) S0 S O st σ (upd H A o) := by
  have ns := R.sh.none n
  refine ⟨fun a u h => ?_, R.s0, R.sh.mut ns, fun a ha => ?_, R.len, fun i d hd => ?_, R.dj⟩
  · by_cases e : a = A
    · subst e; rw [upd_same] at h ⊢; exact h
    · rw [upd_ne e] at h ⊢; exact R.bh a u h
  · have : a ≠ A := fun e => by subst e; exact ha ns
    rw [upd_ne this]
    exact R.nw a ha
  · obtain ⟨v, hv, hs⟩ := R.slot i d hd
    refine ⟨v, hv, ?_⟩
    rcases hs with ⟨q1, q2, l, e, al⟩ | q
    · have hl : l ≠ A := fun e => by subst e; exact al.there n
      have := al.mono (Ext.rfl' S) (Ext.new (o := o) n) al.1
      exact .inl ⟨q1, q2, l, e, this.1, by rw [upd_ne hl]; exact this.2.1, this.2.2⟩
    · exact .inr q
theorem Rel.hid (R : Rel C (upd B A o) S0 S O st σ H) (n : S0 A = none) : S A = none := by
  cases h : S A with
  | none => rfl
  | some u =>
    rcases R.nw A (by rw [h]; simp) with q | q
    · exact absurd n q
    · rw [upd_same] at q; cases q
theorem Rel.bump (R : Rel C (upd B A o) S0 S O st σ H) (n : S0 A = none) : Rel C (upd B A o') S0 S O st σ (upd H A o') := by
  have ns := R.hid n
  refine ⟨fun a u h => ?_, R.s0, R.sh.mut ns, fun a ha => ?_, R.len, fun i d hd => ?_, R.dj⟩
  · by_cases e : a = A
    · subst e; rw [upd_same] at h ⊢; exact h
    · rw [upd_ne e] at h ⊢
      exact R.bh a u (by rw [upd_ne e]; exact h)
  · have : a ≠ A := fun e => by subst e; exact ha ns
    rw [upd_ne this]
    have := R.nw a ha
    rw [upd_ne ‹a ≠ A›] at this
    exact this
  · obtain ⟨v, hv, hs⟩ := R.slot i d hd
    refine ⟨v, hv, ?_⟩
    rcases hs with ⟨q1, q2, l, e, al⟩ | q
    · have hl : l ≠ A := fun e => by
        subst e
        have := al.2.1
        rw [upd_same] at this; cases this
      obtain ⟨a1, a2, a3⟩ := al
      rw [upd_ne hl] at a2
      refine .inl ⟨q1, q2, l, e, a1, by rw [upd_ne hl]; exact a2, ?_⟩
      cases d with
      | lst ds => obtain ⟨vs, p1, p2⟩ := a3; exact ⟨vs, by rw [upd_ne hl]; exact p1, p2⟩
      | obj c fs => obtain ⟨dx, vs, p1, p2⟩ := a3; exact ⟨dx, vs, by rw [upd_ne hl]; exact p1, p2⟩
      | _ => exact a3
    · exact .inr q
theorem Rel.dn (R : Rel C (upd B A o) S0 S O st σ H) (n : B A = none) (n0 : S0 A = none) : Rel C B S0 S O st σ H := by
  refine ⟨fun a u h => R.bh a u ?_, R.s0, R.sh, fun a ha => ?_, R.len, fun i d hd => ?_, R.dj⟩
  · by_cases e : a = A
    · subst e; rw [n] at h; cases h
    · rw [upd_ne e]; exact h
  · have : a ≠ A := fun e => by subst e; exact ha (R.hid n0)
    have h := R.nw a ha
    rw [upd_ne this] at h
    exact h
  · obtain ⟨v, hv, hs⟩ := R.slot i d hd
    refine ⟨v, hv, ?_⟩
    rcases hs with ⟨q1, q2, l, e, al⟩ | q
    · have hl : l ≠ A := fun e => by
        subst e
        have := al.2.1
        rw [upd_same] at this; cases this
      have a2 := al.2.1
      rw [upd_ne hl] at a2
      exact .inl ⟨q1, q2, l, e, al.1, a2, al.2.2⟩
    · exact .inr q

theorem mapL_len {f : D → Option (Option D)} : ∀ {ds ys : List D}, mapL f ds = some ys → ys.length ≤ ds.length
  | [], ys, h => by cases h; exact Nat.le_refl _
  | d :: ds, ys, h => by
    unfold mapL at h
    split at h
    · cases h
    · exact Nat.le_succ_of_le (mapL_len h)
    · cases e : mapL f ds with
      | none => rw [e] at h; cases h
      | some ys' =>
        rw [e] at h; cases h
        exact Nat.succ_le_succ (mapL_len e)
/-- a comprehension, from what one turn gives -/
theorem lc_r {J : It} {ds ys : List D} {f : D → Option (Option D)} {g : TG} {tt : TT} {te : TE} {vs : List Nat} (R : Rel ρ.C ρ.B ρ.S0 S O st σ H) (w : Wk ρ J S ds) (hy : mapL f ds = some ys) (hlen : ds.length ≤ big) (hA : H A = none)
    (step : ∀ B' S' H' d v r (C1 : V → Hp → Prop) (C2 : Hp → Prop), Rel ρ.C B' ρ.S0 S' O st σ H' → Rep ρ.C S' v d → f d = some r →
      (∀ S4 H4 y e, r = some e → Ext S' S4 → Ext H' H4 → Rel ρ.C B' ρ.S0 S4 O st σ H4 → Rep ρ.C S4 y e → C1 y H4) → (∀ S4 H4, r = none → Ext S' S4 → Ext H' H4 → Rel ρ.C B' ρ.S0 S4 O st σ H4 → C2 H4) →
      g v (wipe σ vs) H' fun σ2 H2 => wipe σ2 vs = wipe σ vs ∧ tt σ2 H2 fun b H3 => if b = true then te σ2 H3 C1 else C2 H3)
    (h : Kt ρ O st σ (pX ρ.C ρ.B O true) S H Q (.ok (.lst ys))) :
    ∃ W : Nat → Nat → Hp → Prop, (∃ m, W 0 m (upd H A (.lst []))) ∧ ∀ i m H, W i m H →
      (J.stop i H ∧ Q (.ref A) H) ∨ (J.go i H ∧ ∃ Nx : Hp → Prop, (∀ H', Nx H' → ∃ m', m' < m ∧ W (i + 1) m' H') ∧ ∀ x H', J.yld i H x H' → g x (wipe σ vs) H' fun σ2 H2 => wipe σ2 vs = wipe σ vs ∧ tt σ2 H2 fun b H3 =>
        if b = true then te σ2 H3 fun y H4 => ∃ acc, H4 A = some (.lst acc) ∧ acc.length < sizeLine ∧ Nx (upd H4 A (.lst (acc ++ [y]))) else Nx H3) := by
  obtain ⟨G, Y, wk, hG, hY⟩ := w
  have nS := R.sh.none hA
  have n0 := R.s0.none nS
  have nB := R.bh.none hA
  have x0 : Ext H (upd H A (.lst [])) := Ext.new hA
  have hz : big ≤ sizeLine := big_line
  refine lc_it wk (fun i Hi => ∃ S' acc ys1 rest, Ext S S' ∧ Ext H Hi ∧ Rel ρ.C (upd ρ.B A (.lst acc)) ρ.S0 S' O st σ Hi ∧ Reps ρ.C S' acc ys1 ∧ acc.length ≤ i ∧ mapL f (ds.drop i) = some rest ∧ ys = ys1 ++ rest) ?_ ?_ ?_ ?_
  · exact ⟨S, [], [], ys, Ext.rfl' S, x0, R.up hA, .nil, Nat.le_refl _, hy, rfl⟩
  · intro i Hi _ ⟨S', acc, ys1, rest, e1, e2, R', _⟩
    exact hG S' Hi e1 R'.sh
  · intro i v Hi Hi' hi ⟨S', acc, ys1, rest, e1, e2, R', ra, la, hm, he⟩ yv
    obtain ⟨d, S2, h1, h2, h3, R2, rv⟩ := hY _ O S' st σ Hi i v Hi' e1 R' yv
    have hdrop : ds.drop i = d :: ds.drop (i + 1) := by
      have hlt : i < ds.length := hi
      rw [List.drop_eq_getElem_cons hlt]
      rw [List.getElem?_eq_getElem hlt] at h1
      cases h1; rfl
    rw [hdrop] at hm
    unfold mapL at hm
    cases hf : f d with
    | none => rw [hf] at hm; cases hm
    | some r =>
      rw [hf] at hm
      have hAi : ∀ {S4 H4}, Rel ρ.C (upd ρ.B A (.lst acc)) ρ.S0 S4 O st σ H4 → H4 A = some (.lst acc) := fun R4 => R4.bh A _ upd_same
      refine step _ S2 Hi' d v r _ _ R2 rv hf ?_ ?_
      · intro S4 H4 y e er e4 e5 R4 ry
        subst er
        have hm : (mapL f (ds.drop (i + 1))).map (e :: ·) = some rest := hm
        cases hr : mapL f (ds.drop (i + 1)) with
        | none => rw [hr] at hm; cases hm
        | some rest' =>
          rw [hr] at hm
          cases hm
          refine ⟨acc, hAi R4, by omega, S4, acc ++ [y], ys1 ++ [e], rest', e1.trans (h2.trans e4), ((e2.trans h3).trans e5).mut hA, R4.bump n0, ?_, ?_, rfl, ?_⟩
          · exact Reps.append (ra.mono (h2.trans e4)) (.cons ry .nil)
          · rw [List.length_append, List.length_singleton]; omega
          · rw [he]; simp
      · intro S4 H4 er e4 e5 R4
        subst er
        exact ⟨S4, acc, ys1, rest, e1.trans (h2.trans e4), (e2.trans h3).trans e5, R4, ra.mono (h2.trans e4), by omega, hm, he⟩
  · intro Hn ⟨S', acc, ys1, rest, e1, e2, R', ra, la, hm, he⟩
    rw [List.drop_length] at hm
    cases hm
    rw [List.append_nil] at he
    subst he
    refine h S' (.ref A) Hn e1 e2 (R'.dn nB n0) ⟨.inl ⟨rfl, rfl, A, rfl, R'.hid n0, nB, acc, R'.bh A _ upd_same, ra⟩, fun _ _ i l q hh => ?_⟩
    cases q
    obtain ⟨d, _, al⟩ := R'.alone hh
    have := al.2.1
    rw [upd_same] at this; cases this
theorem bindIs_out {i : Nat} : ∀ {is : List Nat} {ds : List D} {st st' : St}, bindIs is ds st = some st' → i ∉ is → st'[i]? = st[i]?
  | [], [], _, _, h, _ => by cases h; rfl
  | [], _ :: _, _, _, h, _ => by cases h
  | _ :: _, [], _, _, h, _ => by cases h
  | j :: is, d :: ds, st, st', h, hi => by
    have h : bindIs is ds (st.set j (some d)) = some st' := h
    rw [bindIs_out h (fun q => hi (List.mem_cons_of_mem _ q)), List.getElem?_set_ne (fun e => hi (by rw [e]; simp))]
theorem bindIs_len : ∀ {is : List Nat} {ds : List D} {st st' : St}, bindIs is ds st = some st' → st'.length = st.length
  | [], [], _, _, h => by cases h; rfl
  | [], _ :: _, _, _, h => by cases h
  | _ :: _, [], _, _, h => by cases h
  | j :: is, d :: ds, st, st', h => by
    have h : bindIs is ds (st.set j (some d)) = some st' := h
    rw [bindIs_len h, List.length_set]
theorem bindP_out {p : P} {d : D} {i : Nat} (h : bindP p d st = some st') (hi : i ∉ p.slots) : st'[i]? = st[i]? := by
  cases p with
  | nm j =>
    cases h
    exact List.getElem?_set_ne fun e => hi (by show i ∈ [j]; simp [e])
  | tp is =>
    cases d with
    | tup ds => exact bindIs_out h hi
    | _ => cases h
theorem bindP_len {p : P} {d : D} (h : bindP p d st = some st') : st'.length = st.length := by
  cases p with
  | nm j => cases h; exact List.length_set ..
  | tp is =>
    cases d with
    | tup ds => exact bindIs_len h
    | _ => cases h
theorem own_slots {z : Zx} : ∀ {is : List Nat} {es : List Expr}, mNames z is es = true → (ownN z is).map (·.2) = is
  | [], _, _ => rfl
  | i :: is, [], h => by cases h
  | i :: is, e :: es, h => by
    cases e with
    | Name x p =>
      have h : (slotIs z i x && isLoc z x && mNames z is es) = true := h
      simp only [Bool.and_eq_true] at h
      have e1 : z.N[i]? = some x := of_decide_eq_true h.1.1
      unfold ownN
      rw [List.filterMap_cons, e1]
      show i :: (ownN z is).map (·.2) = i :: is
      rw [own_slots h.2]
    | _ => cases h
theorem ownP_slots {p : P} (h : mP z p tg = true) : (ownN z p.slots).map (·.2) = p.slots := by
  cases p with
  | nm i =>
    cases tg with
    | Name x q =>
      have h : (slotIs z i x && isLoc z x) = true := h
      exact own_slots (es := [.Name x q]) (by
        show (slotIs z i x && isLoc z x && true) = true
        rw [h]; rfl)
    | _ => cases h
  | tp is =>
    cases tg with
    | Tuple es j q => exact own_slots h
    | _ => cases h
/-- back from a comprehension's slots -/
theorem Rel.back {st1 : St} {σ1 : L2.St} {S' H' : Hp} {vs : List Nat} (R : Rel C B S0 S O st σ H) (R1 : Rel C B S0 S' O st1 σ1 H') (e : Ext S S') (hf : fr O vs) (h1 : ∀ i, i ∉ vs → st1[i]? = st[i]?) (h2 : ∀ i, i ∉ vs → σ1[i]? = σ[i]?) : Rel C B S0 S' O st σ H' := by
  refine R1.slots R.len (fun i hi => ?_) fun i d hi hd => ?_
  · have : i ∉ vs := fun q => by rw [hf i q] at hi; cases hi
    exact ⟨(h1 i this).symm, (h2 i this).symm⟩
  · obtain ⟨v, hv, r⟩ := R.free hi hd
    exact ⟨v, hv, r.mono e⟩
theorem XF.at (F : XF z ρ T k X) (B : Hp) : XF z (ρ.at B) T k X := ⟨F.N, F.nd, F.sc, F.K, F.calm, F.hot, F.room, F.tk, F.gf⟩
theorem toL_some {r : R} {o : Option D} (h : toL r = some o) : ∃ d, r = .ok d ∧ o = some d := by
  cases r with
  | ok d => cases h; exact ⟨d, rfl, rfl⟩
  | _ => cases h
/-- the wish for an element: with any hidden part -/
def tE (ρ : Rn) (T : Tb) (O : Own) (m : E) : TE := fun σ H Q => ∃ B, tG (ρ.nox.at B) T O m (pF ρ.C) σ H Q
def tT (ρ : Rn) (T : Tb) (O : Own) (m : E) : TT := fun σ H Q => ∃ B, tGT (ρ.nox.at B) T O m σ H Q
theorem Kt.ok {P : Pv} {d : D} {r : R} (e : r = .ok d) (h : ∀ S' v H', Ext S S' → Ext H H' → Rel ρ.C ρ.B ρ.S0 S' O st σ H' → P st σ S' H' v d → Q v H') : Kt ρ O st σ P S H Q r := by
  rw [e]; exact h
theorem cmpr_rd {u : E} {p : P} {it : I} (F : XF z ρ T k X) (hf : fr O (lkI z.kd it ++ (p.slots ++ lk z.kd u))) {σ : L2.St} {H : Hp} {Q : VK} (q : tG ρ T O (.cmpr u p it) (pX ρ.C ρ.B O true) σ H Q) : tLc (tGI ρ T O it) (gP X.K p) tYes (tE ρ T O u) p.slots σ H Q := by
  obtain ⟨S, st, R, q⟩ := q
  refine ⟨S, st, R, ?_⟩
  have q : Kt ρ O st σ (pX ρ.C ρ.B O true) S H Q ((evI T it st).bind fun ds => if ds.length ≤ big then
      (match mapL (fun d => match bindP p d (wipeD st p.slots) with
        | some st1 => toL (evE T u st1)
        | none => none) ds with
      | some ys => .ok (.lst ys)
      | none => .bad) else .bad) := q
  cases e : evI T it st with
  | er c fs => rw [e] at q; exact q
  | bad => rw [e] at q; exact q
  | ok ds =>
    rw [e] at q
    intro S' J H' a1 a2 R' w A hA
    replace q := Kt.mono q a1 a2
    dsimp only [RL.bind] at q
    by_cases hb : ds.length ≤ big
    · rw [if_pos hb] at q
      split at q
      · rename_i ys hy
        refine lc_r R' w hy hb hA (fun B' S2 H2 d v r C1 C2 R2 rv hfd k1 k2 => ?_) q
        cases hb2 : bindP p d (wipeD st p.slots) with
        | none => simp only [hb2] at hfd; cases hfd
        | some st1 =>
          simp only [hb2] at hfd
          obtain ⟨de, he, rfl⟩ := toL_some hfd
          rw [F.K]
          refine bindP_r (R2.wiped hf.app.2.app.1) rv hb2 hf.app.2.app.1 fun σ1 hl hsl R3 => ⟨wipe_same (by rw [hl, wipe_length]) fun i hi => by rw [hsl i hi, wipe_out hi], ?_⟩
          show (if true = true then tE ρ T O u σ1 H2 C1 else C2 H2)
          rw [if_pos rfl]
          refine ⟨B', S2, st1, R3, Kt.ok he fun S4 y H4 e4 e5 R4 p4 => ?_⟩
          refine k1 S4 H4 y de rfl e4 e5 ?_ p4
          exact R2.back R4 e4 hf.app.2.app.1 (fun i hi => by rw [bindP_out hb2 hi, wipeD_out hi]) fun i hi => by rw [hsl i hi, wipe_out hi]
      · exact q.elim
    · rw [if_neg hb] at q; exact q.elim
theorem se_cmpr {u : E} {p : P} {it : I} (hu : SE u) (hi : SI it) : SE (.cmpr u p it) := fun {z ρ T k X O x} F h hf => by
  obtain ⟨el, tg, ie, sc, pos, rfl, h1, h2, h3, h4⟩ := inv_cmpr h
  have hf : fr O (lkI z.kd it ++ (p.slots ++ lk z.kd u)) := hf
  have Ai := hi F h2 hf.app.1
  have ok : BlkOk X.N X.env.scope sc (ownN z p.slots) := by
    rw [F.N, F.sc]; exact blkOk_by h1
  have hs : (ownN z p.slots).map (·.2) = p.slots := ownP_slots (z := z.blk sc) h3
  refine .val ?_ (fun _ => rfl) (fun _ _ _ e => by cases e)
  refine PEof (pe_lc (g := gP X.K p) F.calm (by rw [F.N]; exact F.nd) Ai.pi ok (fun s H C cl fp => pg_P (F.blk s H sc C cl fp) h3) (fun s H C cl fp => pts_nil)
    (fun s H C cl fp => (⟨fun pins s' σ H Q I ⟨B, q⟩ => (hu.rep ((F.blk _ _ sc C cl fp).at B) h4 hf.app.2.app.2).run pins s' σ H Q I q⟩ : PE _ _ (tE ρ T O u))) Ai.fs) fun σ H Q q => ?_
  rw [hs]
  exact cmpr_rd F hf q
theorem cmpi_rd {u c : E} {p : P} {it : I} (F : XF z ρ T k X) (hf : fr O (lkI z.kd it ++ (p.slots ++ (lk z.kd u ++ lk z.kd c)))) {σ : L2.St} {H : Hp} {Q : VK} (q : tG ρ T O (.cmpi u p it c) (pX ρ.C ρ.B O true) σ H Q) : tLc (tGI ρ T O it) (gP X.K p) (tT ρ T O c) (tE ρ T O u) p.slots σ H Q := by
  obtain ⟨S, st, R, q⟩ := q
  refine ⟨S, st, R, ?_⟩
  have q : Kt ρ O st σ (pX ρ.C ρ.B O true) S H Q ((evI T it st).bind fun ds => if ds.length ≤ big then
      (match mapL (fun d => match bindP p d (wipeD st p.slots) with
        | some st1 => (match evE T c st1 with
          | .ok (.bl true) => toL (evE T u st1)
          | .ok (.bl false) => some none
          | _ => none)
        | none => none) ds with
      | some ys => .ok (.lst ys)
      | none => .bad) else .bad) := q
  cases e : evI T it st with
  | er c fs => rw [e] at q; exact q
  | bad => rw [e] at q; exact q
  | ok ds =>
    rw [e] at q
    intro S' J H' a1 a2 R' w A hA
    replace q := Kt.mono q a1 a2
    dsimp only [RL.bind] at q
    by_cases hb : ds.length ≤ big
    · rw [if_pos hb] at q
      split at q
      · rename_i ys hy
        refine lc_r R' w hy hb hA (fun B' S2 H2 d v r C1 C2 R2 rv hfd k1 k2 => ?_) q
        cases hb2 : bindP p d (wipeD st p.slots) with
        | none => simp only [hb2] at hfd; cases hfd
        | some st1 =>
          simp only [hb2] at hfd
          rw [F.K]
          refine bindP_r (R2.wiped hf.app.2.app.1) rv hb2 hf.app.2.app.1 fun σ1 hl hsl R3 => ⟨wipe_same (by rw [hl, wipe_length]) fun i hi => by rw [hsl i hi, wipe_out hi], ?_⟩
          have bk : ∀ {S4 H4}, Rel ρ.C B' ρ.S0 S4 O st1 σ1 H4 → Ext S2 S4 → Rel ρ.C B' ρ.S0 S4 O st σ H4 := fun R4 e4 =>
            R2.back R4 e4 hf.app.2.app.1 (fun i hi => by rw [bindP_out hb2 hi, wipeD_out hi]) fun i hi => by rw [hsl i hi, wipe_out hi]
          refine ⟨B', S2, st1, R3, ?_⟩
          cases hcv : evE T c st1 with
          | ok dc =>
            rw [hcv] at hfd
            cases dc with
            | bl b =>
              cases b with
              | true =>
                obtain ⟨de, he, rfl⟩ := toL_some hfd
                intro S3 H3 b1 b2 R4
                show (if true = true then tE ρ T O u σ1 H3 C1 else C2 H3)
                rw [if_pos rfl]
                refine ⟨B', S3, st1, R4, Kt.ok he fun S4 y H4 e4 e5 R5 p4 => ?_⟩
                exact k1 S4 H4 y de rfl (b1.trans e4) (b2.trans e5) (bk R5 (b1.trans e4)) p4
              | false =>
                cases hfd
                intro S3 H3 b1 b2 R4
                show (if false = true then tE ρ T O u σ1 H3 C1 else C2 H3)
                rw [if_neg (by decide)]
                exact k2 S3 H3 rfl b1 b2 (bk R4 b1)
            | _ => cases hfd
          | er _ _ => rw [hcv] at hfd; cases hfd
          | bad => rw [hcv] at hfd; cases hfd
      · exact q.elim
    · rw [if_neg hb] at q; exact q.elim
theorem se_cmpi {u c : E} {p : P} {it : I} (hu : SE u) (hi : SI it) (hc : SE c) : SE (.cmpi u p it c) := fun {z ρ T k X O x} F h hf => by
  obtain ⟨el, tg, ie, ce, sc, pos, rfl, h1, h2, h3, h4, h5⟩ := inv_cmpi h
  have hf : fr O (lkI z.kd it ++ (p.slots ++ (lk z.kd u ++ lk z.kd c))) := hf
  have Ai := hi F h2 hf.app.1
  have ok : BlkOk X.N X.env.scope sc (ownN z p.slots) := by
    rw [F.N, F.sc]; exact blkOk_by h1
  have hs : (ownN z p.slots).map (·.2) = p.slots := ownP_slots (z := z.blk sc) h3
  refine .val ?_ (fun _ => rfl) (fun _ _ _ e => by cases e)
  refine PEof (pe_lc (g := gP X.K p) F.calm (by rw [F.N]; exact F.nd) Ai.pi ok (fun s H C cl fp => pg_P (F.blk s H sc C cl fp) h3)
    (fun s H C cl fp => pts_one (⟨fun pins s' σ H Q I ⟨B, q⟩ => (hc ((F.blk _ _ sc C cl fp).at B) h5 hf.app.2.app.2.app.2).pt.run pins s' σ H Q I q⟩ : PT _ _ (tT ρ T O c)))
    (fun s H C cl fp => (⟨fun pins s' σ H Q I ⟨B, q⟩ => (hu.rep ((F.blk _ _ sc C cl fp).at B) h4 hf.app.2.app.2.app.1).run pins s' σ H Q I q⟩ : PE _ _ (tE ρ T O u))) Ai.fs) fun σ H Q q => ?_
  rw [hs]
  exact cmpi_rd F hf q
theorem se_cmp2 {u : E} {p q : P} {it jt : I} : SE (.cmp2 u p it q jt) := fun {z ρ T k X O x} F h hf => by cases x <;> cases h
theorem allE (m : E) : SE m := E.rec (motive_1 := SE) (motive_2 := SEs) (motive_3 := SI)
  (fun i => se_var i) se_non (fun b => se_bl b) (fun i => se_int i) (fun s => se_str s) (fun i v => se_glo i v) (fun o a b ha hb => se_bin o ha hb) (fun a ha => se_neg ha) (fun o a b ha hb => se_cmp o ha hb)
  (fun n a c ha => se_isc n c ha) (fun o q a b c ha hb hc => se_chn o q ha hb hc) (fun a b ha hb => se_and ha hb) (fun a b ha hb => se_or ha hb) (fun a ha => se_not ha) (fun c a b hc ha hb => se_ite hc ha hb)
  (fun es hs => se_lst hs) (fun es hs => se_tup hs) (fun a i ha hi => se_idx ha hi) se_omit (fun a l h ha hl hh => se_slc ha hl hh) (fun a f ha => se_att f ha) (fun a f ha => se_prp f ha)
  (fun f es hs => se_call f hs) (fun a m es ha hs => se_meth m ha hs) (fun c es hs => se_make c hs) (fun f es hs => se_blt f hs) (fun a ha => se_lsr ha) (fun m a es ha hs => se_bm m ha hs) (fun a t ha => se_isi t ha)
  (fun x p it hx hi => se_cmpr hx hi) (fun x p it c hx hi hc => se_cmpi hx hi hc) (fun x p it q jt _ _ _ => se_cmp2)
  ses_nil (fun e es he hs => ses_cons he hs)
  (fun e he => si_seq he) (fun a ha => si_rng1 ha) (fun a b ha hb => si_rng2 ha hb) (fun a b c ha hb hc => si_rng3 ha hb hc) (fun e he => si_rev he) (fun a b ha hb => si_zip ha hb) (fun e he => si_enm he) m
theorem allI (it : I) : SI it := by
  cases it with
  | seq e => exact si_seq (allE e)
  | rng1 a => exact si_rng1 (allE a)
  | rng2 a b => exact si_rng2 (allE a) (allE b)
  | rng3 a b c => exact si_rng3 (allE a) (allE b) (allE c)
  | rev e => exact si_rev (allE e)
  | zip a b => exact si_zip (allE a) (allE b)
  | enm e => exact si_enm (allE e)
/-- name = [..] on one line -/
theorem lc_set {i : Nat} {nm : Str} {py spos pos : Pos} {el : Expr} {gs : List Comprehension} {sc : Scope} (F : XF z ρ T k X) (h : mE z m (.ListComp el gs sc pos) = true) (hf : fr O (lk z.kd m)) (hi : X.N[i]? = some nm) (hl : X.env.scope.names.lookup nm = some .local)
    (hsw : swapsWith (.ListComp el gs sc pos) (some (.Name nm py)) spos.line X.env = pure true) : PS X (.Assign [.Name nm py] (.ListComp el gs sc pos) spos) (tAsg (tG ρ T O m (pX ρ.C ρ.B O true)) (gName i)) ∧ fresh z.kd m = true := by
  cases m <;> first | (cases h; done) | skip
  · rename_i u p it
    obtain ⟨el', tg, ie, sc', pos', e, h1, h2, h3, h4⟩ := inv_cmpr h
    cases e
    have hf : fr O (lkI z.kd it ++ (p.slots ++ lk z.kd u)) := hf
    have Ai := allI it F h2 hf.app.1
    have ok : BlkOk X.N X.env.scope sc (ownN z p.slots) := by
      rw [F.N, F.sc]; exact blkOk_by h1
    have hs : (ownN z p.slots).map (·.2) = p.slots := ownP_slots (z := z.blk sc) h3
    refine ⟨⟨fun pins s σ H D I q => (ps_setLc (g := gP X.K p) F.calm (by rw [F.N]; exact F.nd) hi hl hsw Ai.pi ok (fun s H C cl fp => pg_P (F.blk s H sc C cl fp) h3) (fun s H C cl fp => pts_nil)
      (fun s H C cl fp => (⟨fun pins s' σ H Q I ⟨B, q⟩ => (SE.rep (allE u) ((F.blk _ _ sc C cl fp).at B) h4 hf.app.2.app.2).run pins s' σ H Q I q⟩ : PE _ _ (tE ρ T O u))) Ai.fs).run pins s σ H D I ?_⟩, rfl⟩
    rw [hs]
    exact cmpr_rd F hf q
  · rename_i u p it c
    obtain ⟨el', tg, ie, ce, sc', pos', e, h1, h2, h3, h4, h5⟩ := inv_cmpi h
    cases e
    have hf : fr O (lkI z.kd it ++ (p.slots ++ (lk z.kd u ++ lk z.kd c))) := hf
    have Ai := allI it F h2 hf.app.1
    have ok : BlkOk X.N X.env.scope sc (ownN z p.slots) := by
      rw [F.N, F.sc]; exact blkOk_by h1
    have hs : (ownN z p.slots).map (·.2) = p.slots := ownP_slots (z := z.blk sc) h3
    refine ⟨⟨fun pins s σ H D I q => (ps_setLc (g := gP X.K p) F.calm (by rw [F.N]; exact F.nd) hi hl hsw Ai.pi ok (fun s H C cl fp => pg_P (F.blk s H sc C cl fp) h3)
      (fun s H C cl fp => pts_one (⟨fun pins s' σ H Q I ⟨B, q⟩ => ((allE c) ((F.blk _ _ sc C cl fp).at B) h5 hf.app.2.app.2.app.2).pt.run pins s' σ H Q I q⟩ : PT _ _ (tT ρ T O c)))
      (fun s H C cl fp => (⟨fun pins s' σ H Q I ⟨B, q⟩ => (SE.rep (allE u) ((F.blk _ _ sc C cl fp).at B) h4 hf.app.2.app.2.app.1).run pins s' σ H Q I q⟩ : PE _ _ (tE ρ T O u))) Ai.fs).run pins s σ H D I ?_⟩, rfl⟩
    rw [hs]
    exact cmpi_rd F hf q
theorem swaps_val {nm : Str} {py : Pos} {n : Nat} {env : Env} {v : Expr} (h : mE z m v = true) : swapsWith v (some (.Name nm py)) n env = pure false ∨ ((∃ el gs sc pos, v = .ListComp el gs sc pos) ∧ swapsWith v (some (.Name nm py)) n env = pure true ∧ env.scope.names.lookup nm = some .local) := by
  cases v <;> first | exact .inl rfl | skip
  · rename_i el gs sc pos
    have e : swapsWith (.ListComp el gs sc pos) (some (.Name nm py)) n env = pure (env.blockKind == .function && env.kindOf nm == some .local && py.line == pos.line && !(sc.names.any fun (n, k) => n == nm && (k == .local || k == .cell))) := rfl
    by_cases hb : (env.blockKind == .function && env.kindOf nm == some .local && py.line == pos.line && !(sc.names.any fun (n, k) => n == nm && (k == .local || k == .cell))) = true
    · refine .inr ⟨⟨_, _, _, _, rfl⟩, by rw [e, hb], ?_⟩
      simp only [Bool.and_eq_true, beq_iff_eq] at hb
      exact hb.1.1.2
    · left; rw [e]; simp only [Bool.not_eq_true] at hb; rw [hb]
  · cases m <;> cases h
  · cases m <;> cases h
theorem swaps_other {n : Nat} {env : Env} {v t : Expr} (h : mE z m v = true) (ht : ∀ x p, t ≠ .Name x p) : swapsWith v (some t) n env = pure false := by
  cases v <;> first | rfl | skip
  all_goals (cases t <;> first | rfl | exact absurd rfl (ht _ _))
theorem swaps_none {n : Nat} {env : Env} {f : Expr} {as : List Expr} {ks : List Keyword} {p : Pos} : swapsWith (.Call f as ks p) none n env = pure false := rfl
end DL
end

section
set_option linter.all false
set_option maxRecDepth 100000
set_option maxHeartbeats 1000000
set_option Elab.async false
/-! DLsa: statements: what they ask, the slots' changes. -/
namespace DL
open PySem PySem.Spec PyProof.Rows L2
variable {z : Zx} {ρ : Rn} {T : Tb} {U : Up} {kk : Nat} {X : Cx} {O O1 O2 : Own} {x y tg : Expr} {m a b c e : E} {es : Es} {σ σ' : L2.St} {H : Hp} {S S0 B : Hp} {st st' : St} {C : Cn} {A l : Addr} {o o' : HO} {k : Nat} {lo xo : Own} {w : Wn} {D : Ends}

/-! ### what is held alone, narrowed -/
theorem sub_own {a b : Own} (h : subO a b = true) {i : Nat} (hi : own a i = true) : own b i = true := by
  unfold subO at h
  rw [List.all_eq_true] at h
  have hl : i < a.length := by
    unfold own at hi
    rw [List.getD_eq_getElem?_getD] at hi
    by_cases q : i < a.length
    · exact q
    · rw [List.getElem?_eq_none (by omega)] at hi; cases hi
  have := h i (List.mem_range.mpr hl)
  have e : ownB a i = true := hi
  rw [e] at this
  have e2 : ownB b i = own b i := rfl
  rw [← e2]
  simpa using this
theorem own_set {O : Own} {i j : Nat} {b : Bool} : own (O.set i b) j = if i = j ∧ j < O.length then b else own O j := by
  unfold own
  rw [List.getD_eq_getElem?_getD, List.getD_eq_getElem?_getD]
  by_cases h : i = j
  · subst h
    by_cases hl : i < O.length
    · rw [List.getElem?_set_self hl, if_pos ⟨rfl, hl⟩]; rfl
    · rw [List.getElem?_eq_none (by rw [List.length_set]; omega), List.getElem?_eq_none (by omega), if_neg (by omega)]
  · rw [List.getElem?_set_ne h, if_neg (fun q => h q.1)]
theorem rmO_own {l : List Nat} : ∀ {O : Own} {i : Nat}, own (rmO O l) i = true → own O i = true ∧ i ∉ l := by
  induction l with
  | nil => intro O i h; exact ⟨h, by simp⟩
  | cons j l ih =>
    intro O i h
    obtain ⟨h1, h2⟩ := ih (O := O.set j false) h
    rw [own_set] at h1
    by_cases q : j = i ∧ i < O.length
    · rw [if_pos q] at h1; cases h1
    · rw [if_neg q] at h1
      refine ⟨h1, ?_⟩
      simp only [List.mem_cons, not_or]
      refine ⟨fun e => ?_, h2⟩
      subst e
      have : ¬ i < O.length := fun hl => q ⟨rfl, hl⟩
      unfold own at h1
      rw [List.getD_eq_getElem?_getD, List.getElem?_eq_none (by omega)] at h1
      cases h1
theorem rmO_fr (O : Own) (l : List Nat) : fr (rmO O l) l := fun i hi => by
  cases h : own (rmO O l) i with
  | false => rfl
  | true => exact absurd hi (rmO_own h).2
theorem Rel.narrow (R : Rel C B S0 S O st σ H) (h : ∀ i, own O1 i = true → own O i = true) : ∃ S', Ext S S' ∧ Rel C B S0 S' O1 st σ H := by
  obtain ⟨S', e, R', _⟩ := R.freeze O1 h
  exact ⟨S', e, R'⟩
theorem Rel.sub (R : Rel C B S0 S O st σ H) (h : subO O1 O = true) : ∃ S', Ext S S' ∧ Rel C B S0 S' O1 st σ H := R.narrow fun i hi => sub_own h hi
theorem Rel.rm (R : Rel C B S0 S O st σ H) (l : List Nat) : ∃ S', Ext S S' ∧ Rel C B S0 S' (rmO O l) st σ H := R.narrow fun i hi => (rmO_own hi).1
theorem gd_ok {xo O : Own} {l : List Nat} {f : Own → Wn} (h : gd xo O l f ≠ .no) : (∀ i, own xo i = true → own (rmO O l) i = true) ∧ gd xo O l f = f (rmO O l) ∧ f (rmO O l) ≠ .no := by
  unfold gd at h ⊢
  by_cases q : subO xo (rmO O l) = true
  · rw [if_pos q] at h ⊢; exact ⟨fun i => sub_own q, rfl, h⟩
  · rw [if_neg q] at h; exact absurd rfl h
theorem gdi_ok {xo O : Own} {l : List Nat} {i : Nat} (h : gdi xo O l i ≠ .no) : (∀ i, own xo i = true → own (rmO O l) i = true) ∧ own (rmO O l) i = true ∧ gdi xo O l i = .at (rmO O l) := by
  unfold gdi at h ⊢
  obtain ⟨h1, h2, h3⟩ := gd_ok h
  rw [h2]
  by_cases q : ownB (rmO O l) i = true
  · exact ⟨h1, q, by rw [if_pos q]⟩
  · rw [if_neg q] at h3; exact absurd rfl h3

/-! ### the ends of a statement -/
structure RelR (ρ : Rn) (S H : Hp) : Prop where
  bh : Ext ρ.B H
  s0 : Ext ρ.S0 S
  sh : Ext S H
  nw : newOf ρ.S0 S ρ.B
theorem Rel.r (R : Rel ρ.C ρ.B ρ.S0 S O st σ H) : RelR ρ S H := ⟨R.bh, R.s0, R.sh, R.nw⟩
def KtO (ρ : Rn) (k : Nat) (lo xo : Own) (w : Wn) (D : Ends) (S : Hp) : DL.O → Prop
  | .nx st' => match w with
    | .at O' => ∀ S' σ' H', Ext S S' → Rel ρ.C ρ.B ρ.S0 S' O' st' σ' H' → D.nx σ' H'
    | _ => False
  | .rt d => ∀ S' v H', Ext S S' → RelR ρ S' H' → SlotOk ρ.C ρ.B S' H' (k == 1) v d → D.rt v H'
  | .bk st' => ∀ S' σ' H', Ext S S' → Rel ρ.C ρ.B ρ.S0 S' lo st' σ' H' → D.bk σ' H'
  | .ct st' => ∀ S' σ' H', Ext S S' → Rel ρ.C ρ.B ρ.S0 S' lo st' σ' H' → D.ct σ' H'
  | .er c fs st' => ∀ S' σ' H' dx, Ext S S' → Rel ρ.C ρ.B ρ.S0 S' xo st' σ' H' → XRep ρ.C S' H' dx fs → ρ.W (.ref (ρ.C.cx c)) dx σ' H'
  | .bad => False
theorem KtO.mono {S1 : Hp} {r : DL.O} (h : KtO ρ k lo xo w D S r) (e : Ext S S1) : KtO ρ k lo xo w D S1 r := by
  cases r with
  | nx st' =>
    cases w with
    | «at» O' => exact fun S' σ' H' a => h S' σ' H' (e.trans a)
    | _ => exact h
  | rt d => exact fun S' v H' a => h S' v H' (e.trans a)
  | bk st' => exact fun S' σ' H' a => h S' σ' H' (e.trans a)
  | ct st' => exact fun S' σ' H' a => h S' σ' H' (e.trans a)
  | er c fs st' => exact fun S' σ' H' dx a => h S' σ' H' dx (e.trans a)
  | bad => exact h
structure XS (z : Zx) (ρ : Rn) (T : Tb) (U : Up) (kk : Nat) (X : Cx) : Prop extends XF z ρ T kk X where
  ux : ∀ c k, z.okH k = true → PySem.W.exmOne ρ.C.K (.ref (ρ.C.cx c)) (.ref (ρ.C.cx k)) = some (U.sub c k)
  po : PassesOwn (model X.prog X.w) X.A X.env X.xe
  hs : X.stack = X.env :: X.outer
  hf : X.env.frame = some X.env.locals
def tS (z : Zx) (ρ : Rn) (T : Tb) (U : Up) (k : Nat) (lo xo : Own) (m : DL.S) (O : Own) : TS := fun D σ H => ∃ S st, Rel ρ.C ρ.B ρ.S0 S O st σ H ∧ KtO ρ k lo xo (ownS z.kd k lo xo m O) D S (evS T U m st)
def tSs (z : Zx) (ρ : Rn) (T : Tb) (U : Up) (k : Nat) (lo xo : Own) (m : Ss) (O : Own) : TS := fun D σ H => ∃ S st, Rel ρ.C ρ.B ρ.S0 S O st σ H ∧ KtO ρ k lo xo (ownSs z.kd k lo xo m O) D S (evSs T U m st)
def SSt (m : DL.S) : Prop := ∀ {z : Zx} {ρ : Rn} {T : Tb} {U : Up} {kk : Nat} {X : Cx} {O : Own} {stm : Stmt} {cf : Bool} {k : Nat} {lo xo : Own}, XS z ρ T U kk X → mS z cf m stm = true → ownS z.kd k lo xo m O ≠ .no → PS X stm (tS z ρ T U k lo xo m O)
def SSs (m : Ss) : Prop := ∀ {z : Zx} {ρ : Rn} {T : Tb} {U : Up} {kk : Nat} {X : Cx} {O : Own} {stm : List Stmt} {cf : Bool} {k : Nat} {lo xo : Own}, XS z ρ T U kk X → mSs z cf m stm = true → ownSs z.kd k lo xo m O ≠ .no → PSs X stm (tSs z ρ T U k lo xo m O)
theorem PSof {stm : Stmt} {t t' : TS} (h : PS X stm t') (i : ∀ D σ H, t D σ H → t' D σ H) : PS X stm t := ⟨fun pins s σ H D I q => h.run pins s σ H D I (i D σ H q)⟩
theorem PSsof {stm : List Stmt} {t t' : TS} (h : PSs X stm t') (i : ∀ D σ H, t D σ H → t' D σ H) : PSs X stm t := ⟨fun pins s σ H D I q => h.run pins s σ H D I (i D σ H q)⟩
/-- one expression, then the rest of the statement -/
theorem stm_r {P : Pv} {f : DL.D → DL.O} {K : VK} (R : Rel ρ.C ρ.B ρ.S0 S O st σ H) (hx : ∀ i, own xo i = true → own O i = true) (q : KtO ρ k lo xo w D S ((evE T e st).bindO st f))
    (go : ∀ S' v H' d, Ext S S' → Rel ρ.C ρ.B ρ.S0 S' O st σ H' → P st σ S' H' v d → KtO ρ k lo xo w D S' (f d) → K v H') : tG ρ T O e P σ H K := by
  refine ⟨S, st, R, ?_⟩
  cases h : evE T e st with
  | ok d =>
    rw [h] at q
    exact fun S' v H' e1 e2 R' p => go S' v H' d e1 R' p (KtO.mono q e1)
  | er c fs =>
    rw [h] at q
    intro S' H' dx e1 e2 R' xr
    obtain ⟨S2, e3, R2⟩ := R'.narrow hx
    refine q S2 σ H' dx (e1.trans e3) R2 ?_
    cases dx with
    | none => exact xr
    | some d => obtain ⟨vs, h1, h2⟩ := xr; exact ⟨vs, h1, h2.mono e3⟩
  | bad => rw [h] at q; exact q.elim
theorem stm_t {f : DL.D → DL.O} {fb : Bool → DL.O} {K : Bool → Hp → Prop} (hfb : ∀ d, f d = match d with | .bl b => fb b | _ => .bad) (R : Rel ρ.C ρ.B ρ.S0 S O st σ H) (hx : ∀ i, own xo i = true → own O i = true) (q : KtO ρ k lo xo w D S ((evE T e st).bindO st f))
    (go : ∀ S' H' b, Ext S S' → Rel ρ.C ρ.B ρ.S0 S' O st σ H' → KtO ρ k lo xo w D S' (fb b) → K b H') : tGT ρ T O e σ H K := by
  refine tGT_iff.mpr ⟨S, st, R, ?_⟩
  cases h : evE T e st with
  | ok d =>
    rw [h] at q
    have q : KtO ρ k lo xo w D S (f d) := q
    rw [hfb] at q
    cases d with
    | bl b => exact fun S' H' e1 e2 R' => go S' H' b e1 R' (KtO.mono q e1)
    | _ => exact q.elim
  | er c fs =>
    rw [h] at q
    intro S' H' dx e1 e2 R' xr
    obtain ⟨S2, e3, R2⟩ := R'.narrow hx
    refine q S2 σ H' dx (e1.trans e3) R2 ?_
    cases dx with
    | none => exact xr
    | some d => obtain ⟨vs, h1, h2⟩ := xr; exact ⟨vs, h1, h2.mono e3⟩
  | bad => rw [h] at q; exact q.elim

/-! ### changes of the slots -/
theorem isMu_of {f : Bool} {v : V} {d : DL.D} (h : SlotOk C B S H f v d) (hf : f = true) (hm : isMu d = true) : ∃ l, v = .ref l ∧ Alone C B S H l d := by
  rcases h with ⟨_, _, l, e, a⟩ | ⟨n, _⟩
  · exact ⟨l, e, a⟩
  · rw [n hf] at hm; cases hm
/-- a new value in a slot -/
theorem Rel.asg (R : Rel C B S0 S O st σ H) {i : Nat} {v : V} {d : DL.D} {f : Bool} (r : RepX C B S H O st σ f v d) (ho : ∀ j, own O1 j = true → (own O j = true ∧ j ≠ i) ∨ (j = i ∧ f = true)) :
    ∃ S', Ext S S' ∧ Rel C B S0 S' O1 (st.set i (some d)) (σ.set i (some v)) H := by
  have base : ∀ S', Ext S S' → Rel C B S0 S' (rmO O [i]) st σ H → Rep C S' v d → (own O1 i = false ∨ isMu d = false) → ∃ S'', Ext S S'' ∧ Rel C B S0 S'' O1 (st.set i (some d)) (σ.set i (some v)) H := by
    intro S' e1 R1 rv hi
    have R2 := R1.put (i := i) (rmO_fr O [i] i (by simp)) rv
    -- narrow the others, widen at i (nothing is held there)
    obtain ⟨S2, e2, R3⟩ := R2.narrow (O1 := rmO O1 [i]) (fun j hj => by
      obtain ⟨h1, h2⟩ := rmO_own hj
      have hji : j ≠ i := fun e => h2 (by simp [e])
      rcases ho j h1 with ⟨q1, _⟩ | ⟨q, _⟩
      · show own (O.set i false) j = true
        rw [own_set, if_neg (fun q => hji q.1.symm)]; exact q1
      · exact absurd q hji)
    refine ⟨S2, e1.trans e2, R3.bh, R3.s0, R3.sh, R3.nw, R3.len, fun j d' hd => ?_, fun j j' l hj hj' => ?_⟩
    · obtain ⟨w, hw, hs⟩ := R3.slot j d' hd
      refine ⟨w, hw, ?_⟩
      by_cases hji : i = j
      · subst hji
        have hf : own (rmO O1 [i]) i = false := rmO_fr O1 [i] i (by simp)
        rw [hf] at hs
        rcases hs with ⟨z, _⟩ | ⟨_, rr⟩
        · cases z
        · refine .inr ⟨fun q => ?_, rr⟩
          rcases hi with hi | hi
          · rw [hi] at q; cases q
          · have hlt : i < st.length := by
              have := (List.getElem?_eq_some_iff.mp hd).1
              simpa using this
            rw [List.getElem?_set_self hlt] at hd
            cases hd; exact hi
      · have e : own (rmO O1 [i]) j = own O1 j := by
          show own (O1.set i false) j = _
          rw [own_set, if_neg (fun q => hji q.1)]
        rw [e] at hs; exact hs
    · have hh : ∀ {j}, Holds O1 (st.set i (some d)) (σ.set i (some v)) j l → Holds (rmO O1 [i]) (st.set i (some d)) (σ.set i (some v)) j l := by
        intro j ⟨q1, q2, d', q3, q4⟩
        refine ⟨?_, q2, d', q3, q4⟩
        show own (O1.set i false) j = true
        by_cases hji : i = j
        · subst hji
          rcases hi with hi | hi
          · rw [hi] at q1; cases q1
          · have hlt : i < st.length := by
              have := (List.getElem?_eq_some_iff.mp q3).1
              simpa using this
            rw [List.getElem?_set_self hlt] at q3
            cases q3; rw [hi] at q4; cases q4
        · rw [own_set, if_neg (fun q => hji q.1)]; exact q1
      exact R3.dj j j' l (hh hj) (hh hj')
  by_cases hm : isMu d = true
  · by_cases hi : own O1 i = true
    · have hf : f = true := by
        rcases ho i hi with ⟨_, q⟩ | ⟨_, q⟩
        · exact absurd rfl q
        · exact q
      obtain ⟨l, rfl, al⟩ := isMu_of r.1 hf hm
      obtain ⟨S3, e3, R3, hn⟩ := R.freeze (rmO O1 [i]) (fun j hj => by
          obtain ⟨h1, h2⟩ := rmO_own hj
          rcases ho j h1 with ⟨q1, _⟩ | ⟨q, _⟩
          · exact q1
          · exact absurd (by simp [q]) h2)
      have nh := r.2 hf hm
      have nl : S3 l = none := by
        cases h : S3 l with
        | none => rfl
        | some u =>
          rcases hn l (by rw [h]; simp) with q | ⟨j, hj, _⟩
          · exact absurd al.1 q
          · exact absurd hj (nh j l rfl)
      have al3 := al.mono e3 (Ext.rfl' H) nl
      have oe : ∀ {j}, j ≠ i → own (rmO O1 [i]) j = own O1 j := fun {j} hj => by
        show own (O1.set i false) j = _
        rw [own_set, if_neg (fun q => hj q.1.symm)]
      have back : ∀ {j l'}, j ≠ i → Holds O1 (st.set i (some d)) (σ.set i (some (.ref l))) j l' → Holds (rmO O1 [i]) st σ j l' := by
        intro j l' hj ⟨q1, q2, d', q3, q4⟩
        rw [List.getElem?_set_ne (Ne.symm hj)] at q2 q3
        exact ⟨by rw [oe hj]; exact q1, q2, d', q3, q4⟩
      have self : ∀ {l'}, Holds O1 (st.set i (some d)) (σ.set i (some (.ref l))) i l' → l' = l := by
        intro l' ⟨q1, q2, _⟩
        have hlt : i < σ.length := by
          have := (List.getElem?_eq_some_iff.mp q2).1
          simpa using this
        rw [List.getElem?_set_self hlt] at q2
        cases q2; rfl
      have up : ∀ {j l'}, j ≠ i → Holds (rmO O1 [i]) st σ j l' → Holds O st σ j l' := by
        intro j l' hj ⟨q1, q2, q3⟩
        refine ⟨?_, q2, q3⟩
        obtain ⟨h1, h2⟩ := rmO_own q1
        rcases ho j h1 with ⟨q1, _⟩ | ⟨q, _⟩
        · exact q1
        · exact absurd q hj
      refine ⟨S3, e3, R3.bh, R3.s0, R3.sh, R3.nw, by rw [List.length_set, List.length_set, R.len], fun j d' hd => ?_, fun j j' l' hj hj' => ?_⟩
      · by_cases hji : j = i
        · subst hji
          have hlt : j < st.length := by
            have := (List.getElem?_eq_some_iff.mp hd).1
            simpa using this
          rw [List.getElem?_set_self hlt] at hd
          cases hd
          exact ⟨_, List.getElem?_set_self (by rw [R.len]; exact hlt), .inl ⟨hi, hm, l, rfl, al3⟩⟩
        · rw [List.getElem?_set_ne (Ne.symm hji)] at hd ⊢
          obtain ⟨w, hw, hs⟩ := R3.slot j d' hd
          rw [oe hji] at hs
          exact ⟨w, hw, hs⟩
      · by_cases hji : j = i <;> by_cases hji' : j' = i
        · rw [hji, hji']
        · subst hji
          cases self hj
          exact absurd (up hji' (back hji' hj')) (nh j' l rfl)
        · subst hji'
          cases self hj'
          exact absurd (up hji (back hji hj)) (nh j l rfl)
        · exact R3.dj j j' l' (back hji hj) (back hji' hj')
    · obtain ⟨S2, e2, R2, rv⟩ := R.stand r
      obtain ⟨S3, e3, R3⟩ := R2.rm [i]
      exact base S3 (e2.trans e3) R3 (rv.mono e3) (.inl (by simpa using hi))
  · have hm : isMu d = false := by simpa using hm
    have rv : Rep C S v d := by
      rcases r.1 with ⟨_, q, _⟩ | ⟨_, rv⟩
      · rw [hm] at q; cases q
      · exact rv
    obtain ⟨S3, e3, R3⟩ := R.rm [i]
    exact base S3 e3 R3 (rv.mono e3) (.inr hm)
/-- what a slot holds alone is changed -/
def isNew (C : Cn) (S : Hp) (o : HO) : DL.D → Prop
  | .lst ds => ∃ vs, o = .lst vs ∧ Reps C S vs ds
  | .obj c fs => ∃ dx vs, o = .ins (C.cl c) dx vs ∧ RepF C S vs fs
  | _ => False
theorem Rel.change (R : Rel C B S0 S O st σ H) {i : Nat} {d d' : DL.D} (ho : own O i = true) (hd : st[i]? = some (some d)) (hm : isMu d = true) (hv : σ[i]? = some (some (.ref l))) (hn : isNew C S o d') :
    Rel C B S0 S O (st.set i (some d')) σ (upd H l o) := by
  have hl : Holds O st σ i l := ⟨ho, hv, d, hd, hm⟩
  obtain ⟨d0, _, al⟩ := R.alone hl
  have hm' : isMu d' = true := by cases d' <;> first | rfl | exact hn.elim
  have hlt : i < st.length := (List.getElem?_eq_some_iff.mp hd).1
  have old : ∀ {j l'}, Holds O (st.set i (some d')) σ j l' → Holds O st σ j l' := by
    intro j l' ⟨q1, q2, e, q3, q4⟩
    by_cases hj : i = j
    · subst hj; exact ⟨q1, q2, d, hd, hm⟩
    · rw [List.getElem?_set_ne hj] at q3
      exact ⟨q1, q2, e, q3, q4⟩
  refine ⟨R.bh.mut al.2.1, R.s0, R.sh.mut al.1, R.nw, by rw [List.length_set, R.len], fun j e hj => ?_, fun j j' l' hj hj' => R.dj j j' l' (old hj) (old hj')⟩
  by_cases hji : i = j
  · subst hji
    rw [List.getElem?_set_self hlt] at hj
    cases hj
    refine ⟨_, hv, .inl ⟨ho, hm', l, rfl, al.1, al.2.1, ?_⟩⟩
    cases d' with
    | lst ds => obtain ⟨vs, rfl, r⟩ := hn; exact ⟨vs, upd_same, r⟩
    | obj c fs => obtain ⟨dx, vs, rfl, r⟩ := hn; exact ⟨dx, vs, upd_same, r⟩
    | _ => exact hn.elim
  · rw [List.getElem?_set_ne hji] at hj
    obtain ⟨v, hv2, hs⟩ := R.slot j e hj
    refine ⟨v, hv2, ?_⟩
    rcases hs with ⟨q1, q2, l', e1, a1, a2, a3⟩ | q
    · have hne : l' ≠ l := fun z => by
        subst z e1
        exact hji (R.dj i j l' hl ⟨q1, hv2, e, hj, q2⟩)
      refine .inl ⟨q1, q2, l', e1, a1, a2, ?_⟩
      cases e with
      | lst ds => obtain ⟨vs, p1, p2⟩ := a3; exact ⟨vs, by rw [upd_ne hne]; exact p1, p2⟩
      | obj c fs => obtain ⟨dx, vs, p1, p2⟩ := a3; exact ⟨dx, vs, by rw [upd_ne hne]; exact p1, p2⟩
      | _ => exact a3
    · exact .inr q
theorem Rel.mine (R : Rel C B S0 S O st σ H) {i : Nat} {d : DL.D} (ho : own O i = true) (hd : st[i]? = some (some d)) (hm : isMu d = true) : ∃ l, σ[i]? = some (some (.ref l)) ∧ Alone C B S H l d := by
  obtain ⟨v, hv, hs⟩ := R.slot i d hd
  obtain ⟨l, rfl, a⟩ := isMu_of hs ho hm
  exact ⟨l, hv, a⟩
end DL
end

section
set_option linter.all false
set_option maxRecDepth 100000
set_option maxHeartbeats 1000000
set_option Elab.async false
/-! DLms: what a matching statement is. -/
namespace DL
open PySem PySem.Spec PyProof.Rows L2
theorem ms_asg {z : Zx} {cf : Bool} {stm : Stmt} {i : Nat} {e : E} (h : mS z cf (.asg i e) stm = true) : (match (generalizing := false) stm with
    | .Assign [.Name x _] v _ => slotIs z i x && isLoc z x && mE z e v
    | _ => false) = true := h
theorem ms_asgT {z : Zx} {cf : Bool} {stm : Stmt} {is : List Nat} {e : E} (h : mS z cf (.asgT is e) stm = true) : (match (generalizing := false) stm with
    | .Assign [.Tuple ts _ _] v _ => mNames z is ts && !isTup v && mE z e v
    | _ => false) = true := h
theorem ms_par {z : Zx} {cf : Bool} {stm : Stmt} {i : Nat} {j : Nat} {a : E} {b : E} (h : mS z cf (.par i j a b) stm = true) : (match (generalizing := false) stm with
    | .Assign [.Tuple [.Name x px, .Name y py] _ _] (.Tuple [v, w] _ _) _ => slotIs z i x && slotIs z j y && decide (i ≠ j) && decide (z.sc.names.lookup x = some .local) && decide (z.sc.names.lookup y = some .local) && (py.line == px.line) &&
      !([v, w].all (foldedForSure 8)) && !([v, w].all (constantsAlone 8)) && mE z a v && mE z b w
    | _ => false) = true := h
theorem ms_swp {z : Zx} {cf : Bool} {stm : Stmt} {i : Nat} {a : E} {b : E} {c : E} {d : E} (h : mS z cf (.swp i a b c d) stm = true) : (match (generalizing := false) stm with
    | .Assign [.Tuple [.Subscript (.Name x _) k _, .Subscript (.Name y _) l _] _ _] (.Tuple [v, w] _ _) _ => slotIs z i x && slotIs z i y && isVis z x && plainN x && mE z c v && mE z d w && mE z a k && mE z b l
    | _ => false) = true := h
theorem ms_sti {z : Zx} {cf : Bool} {stm : Stmt} {i : Nat} {a : E} {e : E} (h : mS z cf (.sti i a e) stm = true) : (match (generalizing := false) stm with
    | .Assign [.Subscript (.Name x _) k _] v _ => slotIs z i x && isVis z x && plainN x && mE z a k && mE z e v
    | _ => false) = true := h
theorem ms_stf {z : Zx} {cf : Bool} {stm : Stmt} {i : Nat} {f : Nat} {e : E} (h : mS z cf (.stf i f e) stm = true) : (match (generalizing := false) stm with
    | .Assign [.Attribute (.Name x _) s _] v _ => slotIs z i x && isVis z x && plainN x && decide (z.atN f = s) && z.okA f && mE z e v
    | _ => false) = true := h
theorem ms_aug {z : Zx} {cf : Bool} {stm : Stmt} {i : Nat} {o : BO} {e : E} (h : mS z cf (.aug i o e) stm = true) : (match (generalizing := false) stm with
    | .AugAssign (.Name x _) p v _ => slotIs z i x && isLoc z x && opIs o p && mE z e v
    | _ => false) = true := h
theorem ms_augi {z : Zx} {cf : Bool} {stm : Stmt} {i : Nat} {a : E} {o : BO} {e : E} (h : mS z cf (.augi i a o e) stm = true) : (match (generalizing := false) stm with
    | .AugAssign (.Subscript (.Name x _) k _) p v _ => slotIs z i x && isVis z x && plainN x && opIs o p && mE z a k && mE z e v
    | _ => false) = true := h
theorem ms_app {z : Zx} {cf : Bool} {stm : Stmt} {i : Nat} {e : E} (h : mS z cf (.app i e) stm = true) : (match (generalizing := false) stm with
    | .Expr (.Call (.Attribute (.Name x _) s ap) [v] [] p) _ => slotIs z i x && isVis z x && plainN x && decide (s = ("append" : Str)) && (ap.endLine == p.line) && mE z e v
    | _ => false) = true := h
theorem ms_ext {z : Zx} {cf : Bool} {stm : Stmt} {i : Nat} {e : E} (h : mS z cf (.ext i e) stm = true) : (match (generalizing := false) stm with
    | .Expr (.Call (.Attribute (.Name x _) s ap) [v] [] p) _ => slotIs z i x && isVis z x && plainN x && decide (s = ("extend" : Str)) && (ap.endLine == p.line) && mE z e v
    | _ => false) = true := h
theorem ms_pop {z : Zx} {cf : Bool} {stm : Stmt} {i : Nat} (h : mS z cf (.pop i) stm = true) : (match (generalizing := false) stm with
    | .Expr (.Call (.Attribute (.Name x _) s ap) [] [] p) _ => slotIs z i x && isVis z x && plainN x && decide (s = ("pop" : Str)) && (ap.endLine == p.line)
    | _ => false) = true := h
theorem ms_exp {z : Zx} {cf : Bool} {stm : Stmt} {e : E} (h : mS z cf (.exp e) stm = true) : (match (generalizing := false) stm with
    | .Expr (.Call f as [] p) _ => mE z e (.Call f as [] p)
    | _ => false) = true := h
theorem ms_ifs {z : Zx} {cf : Bool} {stm : Stmt} {c : E} {a : Ss} {b : Ss} (h : mS z cf (.ifs c a b) stm = true) : (match (generalizing := false) stm with
    | .If t x y _ => mE z c t && mSs z cf a x && mSs z cf b y
    | _ => false) = true := h
theorem ms_whl {z : Zx} {cf : Bool} {stm : Stmt} {c : E} {l : List Nat} {b : Ss} (h : mS z cf (.whl c l b) stm = true) : (match (generalizing := false) stm with
    | .While t x [] _ => mE z c t && mSs z cf b x
    | _ => false) = true := h
theorem ms_forr {z : Zx} {cf : Bool} {stm : Stmt} {p : P} {it : I} {l : List Nat} {b : Ss} (h : mS z cf (.forr p it l b) stm = true) : (match (generalizing := false) stm with
    | .For tg ie x [] _ => mI z it tg ie && mP z p tg && mSs z cf b x
    | _ => false) = true := h
theorem ms_ret {z : Zx} {cf : Bool} {stm : Stmt} {e : E} (h : mS z cf (.ret e) stm = true) : (match (generalizing := false) stm with
    | .Return (some x) _ => mE z e x
    | .Return none _ => isNon e
    | _ => false) = true := h
theorem ms_brk {z : Zx} {cf : Bool} {stm : Stmt}  (h : mS z cf (.brk) stm = true) : (match (generalizing := false) stm with
    | .Break _ => true
    | _ => false) = true := h
theorem ms_cnt {z : Zx} {cf : Bool} {stm : Stmt}  (h : mS z cf (.cnt) stm = true) : (match (generalizing := false) stm with
    | .Continue _ => true
    | _ => false) = true := h
theorem ms_pas {z : Zx} {cf : Bool} {stm : Stmt}  (h : mS z cf (.pas) stm = true) : (match (generalizing := false) stm with
    | .Pass _ => true
    | _ => false) = true := h
theorem ms_rse {z : Zx} {cf : Bool} {stm : Stmt} {c : Nat} (h : mS z cf (.rse c) stm = true) : (match (generalizing := false) stm with
    | .Raise (some (.Call (.Name x _) [.Constant (.str _) _ _] [] _)) none _ => decide (z.clN c = x) && z.okX c && isGl z x && plainN x
    | _ => false) = true := h
theorem ms_tri {z : Zx} {cf : Bool} {stm : Stmt} {l : List Nat} {b : Ss} {hs : Hs} (h : mS z cf (.tri l b hs) stm = true) : (match (generalizing := false) stm with
    | .Try x hds [] [] _ => mSs z cf b x && mHs z cf hs hds && (match hds with | [] => false | _ :: _ => true)
    | _ => false) = true := h
end DL
end

section
set_option linter.all false
set_option maxRecDepth 100000
set_option maxHeartbeats 1000000
set_option Elab.async false
/-! DLsb: statements, case by case. -/
namespace DL
open PySem PySem.Spec PyProof.Rows L2
variable {z : Zx} {ρ : Rn} {T : Tb} {U : Up} {kk : Nat} {X : Cx} {O O1 O2 : Own} {x y tg : Expr} {m a b c e : E} {es : Es} {σ σ' : L2.St} {H : Hp} {S S0 B : Hp} {st st' : St} {C : Cn} {A l : Addr} {o o' : HO} {k : Nat} {lo xo : Own} {w : Wn} {D : Ends}

theorem repE (F : XF z ρ T kk X) (hm : mE z m x = true) (hf : fr O (lk z.kd m)) : PE X x (tG ρ T O m (pF ρ.C)) := SE.rep (allE m) F hm hf
/-- the value is stored in a slot -/
theorem asg_go {i : Nat} {f : Bool} (hw : w = .at (if f then (rmO O1 [i]).set i true else rmO O1 [i])) : ∀ S' v H' d, Ext S S' → Rel ρ.C ρ.B ρ.S0 S' O1 st σ H' → pX ρ.C ρ.B O1 f st σ S' H' v d → KtO ρ k lo xo w D S' (.nx (st.set i (some d))) → D.nx (σ.set i (some v)) H' := by
  intro S' v H' d e R p q
  subst hw
  obtain ⟨S2, e2, R2⟩ := R.asg (i := i) (O1 := if f then (rmO O1 [i]).set i true else rmO O1 [i]) p (fun j hj => by
    cases f with
    | false =>
      have hj : own (rmO O1 [i]) j = true := hj
      obtain ⟨h1, h2⟩ := rmO_own hj
      exact .inl ⟨h1, fun q => h2 (by simp [q])⟩
    | true =>
      have hj : own ((rmO O1 [i]).set i true) j = true := hj
      rw [own_set] at hj
      by_cases q : i = j ∧ j < (rmO O1 [i]).length
      · exact .inr ⟨q.1.symm, rfl⟩
      · rw [if_neg q] at hj
        obtain ⟨h1, h2⟩ := rmO_own hj
        exact .inl ⟨h1, fun q => h2 (by simp [q])⟩)
  exact q S2 _ H' e2 R2
theorem ss_asg (i : Nat) (e : E) : SSt (.asg i e) := fun {z ρ T U kk X O stm cf k lo xo} F h hw => by
  have hw : gd xo O (lk z.kd e) (fun O1 => .at (if fresh z.kd e then (rmO O1 [i]).set i true else rmO O1 [i])) ≠ .no := hw
  obtain ⟨h1, h2, _⟩ := gd_ok hw
  replace h := ms_asg h
  split at h
  · rename_i nm py v pos
    simp only [Bool.and_eq_true] at h
    obtain ⟨⟨h3, h4⟩, h5⟩ := h
    have hl := F.loc h4
    have fin : ∀ D σ H, tS z ρ T U k lo xo (.asg i e) O D σ H → tAsg (tG ρ T (rmO O (lk z.kd e)) e (pX ρ.C ρ.B (rmO O (lk z.kd e)) (fresh z.kd e))) (gName i) D σ H := by
      rintro D σ H ⟨S, st, R, q⟩
      obtain ⟨S1, e1, R1⟩ := R.rm (lk z.kd e)
      refine stm_r R1 h1 (KtO.mono q e1) (asg_go h2)
    rcases swaps_val (nm := nm) (py := py) (n := pos.line) (env := X.env) h5 with hs | ⟨⟨el, gs, sc, p, rfl⟩, hs, hlo⟩
    · exact PSof (ps_set (by rw [F.N]; exact F.nd) (F.slot h3) hl.1 (allE e F.toXF h5 (rmO_fr O _)).pe hs hl.2) fin
    · obtain ⟨hp, hfr⟩ := lc_set F.toXF h5 (rmO_fr O _) (F.slot h3) hlo hs
      exact PSof hp fun D σ H q => by rw [← hfr]; exact fin D σ H q
  · cases h
theorem ss_asgT (is : List Nat) (e : E) : SSt (.asgT is e) := fun {z ρ T U kk X O stm cf k lo xo} F h hw => by
  have hw : gd xo O (lk z.kd e) (fun O1 => .at (rmO O1 is)) ≠ .no := hw
  obtain ⟨h1, h2, _⟩ := gd_ok hw
  replace h := ms_asgT h
  split at h
  · rename_i es j tp v pos
    simp only [Bool.and_eq_true, Bool.not_eq_true'] at h
    obtain ⟨⟨h3, h4⟩, h5⟩ := h
    obtain ⟨i1, i2, i3⟩ := pgs_N F.toXF h3
    have hws : swappedStores [.Tuple es j tp] v X.env = pure none := by
      cases v <;> first | rfl | cases h4
    have hss : swapsWithSole [.Tuple es j tp] v pos.line X.env = pure false := by
      show swapsWith v (some (.Tuple es j tp)) pos.line X.env = pure false
      exact swaps_other h5 (fun _ _ q => nomatch q)
    refine PSof (ps_asg (repE F.toXF h5 (rmO_fr O _)) (pg_tup F.calm i1 i2 i3) hss hws rfl) ?_
    rintro D σ H ⟨S, st, R, q⟩
    obtain ⟨S1, e1, R1⟩ := R.rm (lk z.kd e)
    have ew : ownS z.kd k lo xo (.asgT is e) O = .at (rmO (rmO O (lk z.kd e)) is) := h2
    rw [ew] at q
    refine stm_r (P := pF ρ.C) R1 h1 (KtO.mono q e1) fun S' v H' d e2 R' p q => ?_
    rw [F.K]
    cases d with
    | tup ds =>
      have q : KtO ρ k lo xo (.at (rmO (rmO O (lk z.kd e)) is)) D S' (match bindIs is ds st with
        | some st' => .nx st'
        | none => .bad) := q
      cases hb : bindIs is ds st with
      | none => rw [hb] at q; exact q.elim
      | some st2 =>
        rw [hb] at q
        obtain ⟨S2, e3, R2⟩ := R'.rm is
        exact bindP_r (p := .tp is) (d := .tup ds) R2 (Rep.mono e3 p) hb (rmO_fr _ is) fun σ' _ _ R3 => q S2 σ' H' e3 R3
    | _ => exact q.elim
  · cases h
theorem slot_name (F : XF z ρ T kk X) {i : Nat} {nm : Str} {p : Pos} (h1 : slotIs z i nm = true) (h2 : isVis z nm = true) (h3 : plainN nm = true) : PE X (.Name nm p) (tVar i) := pe_var (F.slot h1) (F.vis h2) (plainN_d h3).1 (plainN_d h3).2
theorem ps_args {v w : Expr} (F : XF z ρ T kk X) (h1 : mE z a v = true) (h2 : mE z b w = true) (hf : fr O (lk z.kd a ++ lk z.kd b)) : PA X [v, w] (tCons (tG ρ T O a (pF ρ.C)) (tCons (tG ρ T O b (pF ρ.C)) tNil)) :=
  pa_cons (repE F h1 hf.app.1) (pa_cons (repE F h2 hf.app.2) pa_nil (star1 h2)) (star1 h1)
def isStar : Expr → Bool
  | .Starred .. => true
  | _ => false
theorem noStar {v : Expr} (h : mE z m v = true) : isStar v = false := by
  cases v <;> first | rfl | exact (mE_star h).elim
theorem ss_par (i j : Nat) (a b : E) : SSt (.par i j a b) := fun {z ρ T U kk X O stm cf k lo xo} F h hw => by
  have hw : gd xo O (lk z.kd a ++ lk z.kd b) (fun O1 => .at (rmO O1 [i, j])) ≠ .no := hw
  obtain ⟨h1, h2, _⟩ := gd_ok hw
  replace h := ms_par h
  split at h
  · rename_i x px y py j1 tp v w j2 tp2 pos
    simp only [Bool.and_eq_true, Bool.not_eq_true', decide_eq_true_eq] at h
    obtain ⟨⟨⟨⟨⟨⟨⟨⟨⟨h3, h4⟩, h5⟩, h6⟩, h7⟩, h8⟩, h9⟩, h10⟩, h11⟩, h12⟩ := h
    have hx : X.env.scope.names.lookup x = some .local := by rw [F.sc]; exact h6
    have hy : X.env.scope.names.lookup y = some .local := by rw [F.sc]; exact h7
    have hne : x ≠ y := fun e => by
      subst e
      have e1 : z.N[i]? = some x := of_decide_eq_true h3
      have e2 : z.N[j]? = some x := of_decide_eq_true h4
      have l1 := (List.getElem?_eq_some_iff.mp e1).1
      have l2 := (List.getElem?_eq_some_iff.mp e2).1
      exact h5 ((List.getElem?_inj l1 F.nd).mp (e1.trans e2.symm))
    have hws : X.env.scope.kind = .function → swappedStores [.Tuple [.Name x px, .Name y py] j1 tp] (.Tuple [v, w] j2 tp2) X.env = pure (some [x, y]) := by
      intro hk
      have hb : X.env.blockKind = .function := by unfold Env.blockKind; rw [hk]; rfl
      have k1 : X.env.kindOf x = some .local := hx
      have k2 : X.env.kindOf y = some .local := hy
      have s1 := noStar h11
      have s2 := noStar h12
      have ha : ([v, w].any fun | .Starred .. => true | _ => false) = false := by
        show (isStar v || (isStar w || false)) = false
        rw [s1, s2]; rfl
      unfold swappedStores
      simp only [hb]
      have hn : (([.Name x px, .Name y py] : List Expr).filterMap fun
        | .Name id pos => if X.env.kindOf id == some .local && pos.line == (([.Name x px, .Name y py] : List Expr).head?.map (·.pos.line)).getD 0 then some id else none
        | _ => none) = [x, y] := by
        have e1 : (X.env.kindOf x == some .local && px.line == px.line) = true := by rw [k1]; simp
        have e2 : (X.env.kindOf y == some .local && py.line == px.line) = true := by rw [k2, h8]; rfl
        refine (List.filterMap_cons_some (b := x) ?_).trans (congrArg (x :: ·) ((List.filterMap_cons_some (b := y) ?_).trans rfl))
        · exact if_pos e1
        · exact if_pos e2
      have e3 : ([x, y] : List Str).eraseDups = [x, y] := by
        have : (y == x) = false := beq_eq_false_iff_ne.mpr (Ne.symm hne)
        simp [List.eraseDups_cons, this]
      have key : ∀ l : List Str, l = [x, y] → ¬ ((l.length != 2 || l.eraseDups.length != l.length) = true) := fun l hl => by
        subst hl
        rw [e3]; simp
      refine (if_neg (by simp)).trans ((if_neg (fun q => Bool.false_ne_true (ha.symm.trans q))).trans ((if_neg ?_).trans ((if_neg ?_).trans ((if_neg ?_).trans ?_))))
      · exact key _ hn
      · exact fun q => Bool.false_ne_true (h9.symm.trans q)
      · exact fun q => Bool.false_ne_true (h10.symm.trans q)
      · exact congrArg (fun l => (pure (some l) : Sem (Option (List Str)))) hn
    have hps := fun (hk : X.env.scope.kind = .function) => ps_par (pos := pos) F.calm (by rw [F.N]; exact F.nd) (F.slot h3) (F.slot h4) h5 hx hy (ps_args F.toXF h11 h12 (rmO_fr O _)) (hws hk)
    refine PSof (⟨fun pins s σ H D I q => (hps I.ok.kind).run pins s σ H D I q⟩ : PS X _ _) ?_
    rintro D σ H ⟨S, st, R, q⟩
    obtain ⟨S1, e1, R1⟩ := R.rm (lk z.kd a ++ lk z.kd b)
    have ew : ownS z.kd k lo xo (.par i j a b) O = .at (rmO (rmO O (lk z.kd a ++ lk z.kd b)) [i, j]) := h2
    rw [ew] at q
    refine stm_r (P := pF ρ.C) R1 h1 (KtO.mono q e1) fun S2 v1 H2 d1 e2 R2 p1 q => ?_
    refine stm_r (P := pF ρ.C) R2 h1 q fun S3 v2 H3 d2 e3 R3 p2 q => ?_
    refine ⟨v1, v2, rfl, ?_⟩
    obtain ⟨S4, e4, R4⟩ := R3.rm [i, j]
    exact q S4 _ H3 e4 ((R4.put (rmO_fr _ [i, j] i (by simp)) (Rep.mono (e3.trans e4) p1)).put (rmO_fr _ [i, j] j (by simp)) (Rep.mono e4 p2))
  · cases h
theorem ss_sti (i : Nat) (a e : E) : SSt (.sti i a e) := fun {z ρ T U kk X O stm cf k lo xo} F h hw => by
  have hw : gdi xo O (lk z.kd e ++ lk z.kd a) i ≠ .no := hw
  obtain ⟨h1, h2, h3⟩ := gdi_ok hw
  replace h := ms_sti h
  split at h
  · rename_i nm py ix tp v pos
    simp only [Bool.and_eq_true] at h
    obtain ⟨⟨⟨⟨h4, h5⟩, h6⟩, h7⟩, h8⟩ := h
    have hss : swapsWithSole [.Subscript (.Name nm py) ix tp] v pos.line X.env = pure false := by
      show swapsWith v (some (.Subscript (.Name nm py) ix tp)) pos.line X.env = pure false
      exact swaps_other h8 (fun _ _ q => nomatch q)
    have hws : swappedStores [.Subscript (.Name nm py) ix tp] v X.env = pure none := by
      cases v <;> rfl
    have f1 := rmO_fr O (lk z.kd e ++ lk z.kd a)
    have gs : PG X (.Subscript (.Name nm py) ix tp) (gSub (tVar i) (tG ρ T (rmO O (lk z.kd e ++ lk z.kd a)) a (pF ρ.C)) rSetL) := by
      refine pg_sub (slot_name F.toXF h4 h5 h6) (repE F.toXF h7 f1.app.2) set_list ?_
      intro v; cases ix <;> first | rfl | (exact (mE_slice h7).elim)
    refine PSof (ps_asg (repE F.toXF h8 f1.app.1) gs hss hws rfl) ?_
    rintro D σ H ⟨S, st, R, q⟩
    obtain ⟨S1, e1, R1⟩ := R.rm (lk z.kd e ++ lk z.kd a)
    have ew : ownS z.kd k lo xo (.sti i a e) O = .at (rmO O (lk z.kd e ++ lk z.kd a)) := h3
    rw [ew] at q
    refine stm_r (P := pF ρ.C) R1 h1 (KtO.mono q e1) fun S2 v H2 d e2 R2 pv q => ?_
    have q : KtO ρ k lo xo (.at (rmO O (lk z.kd e ++ lk z.kd a))) D S2 (match st[i]? with
      | some (some (.lst xs)) => (evE T a st).bindO st fun y => (match y with
        | .int k => (match placeOf xs.length k with
          | some j => .nx (st.set i (some (.lst (xs.set j d))))
          | none => .bad)
        | _ => .bad)
      | _ => .bad) := q
    split at q
    · rename_i xs hst
      obtain ⟨l, hl, _⟩ := R2.mine h2 hst rfl
      refine ⟨_, hl, ?_⟩
      refine stm_r (P := pF ρ.C) R2 h1 q fun S3 u H3 d3 e3 R3 p3 q => ?_
      cases d3 with
      | int kx =>
        cases Rep.int' p3
        obtain ⟨l', hl', al⟩ := R3.mine h2 hst rfl
        rw [hl] at hl'; cases hl'
        obtain ⟨a1, a2, vs, a3, a4⟩ := al
        have q : KtO ρ k lo xo (.at (rmO O (lk z.kd e ++ lk z.kd a))) D S3 (match placeOf xs.length kx with
          | some j => .nx (st.set i (some (.lst (xs.set j d))))
          | none => .bad) := q
        split at q
        · rename_i j hj
          refine ⟨l, vs, kx, j, rfl, rfl, a3, by rw [a4.length]; exact hj, ?_⟩
          exact q S3 σ _ (Ext.rfl' _) (R3.change h2 hst rfl hl ⟨_, rfl, a4.set (Rep.mono e3 pv) j⟩)
        · exact q.elim
      | _ => exact q.elim
    · exact q.elim
  · cases h
end DL
end

section
set_option linter.all false
set_option maxRecDepth 100000
set_option maxHeartbeats 1000000
set_option Elab.async false
/-! DLsc: statements, further. -/
namespace DL
open PySem PySem.Spec PyProof.Rows L2
variable {z : Zx} {ρ : Rn} {T : Tb} {U : Up} {kk : Nat} {X : Cx} {O O1 O2 : Own} {x y tg : Expr} {m a b c e : E} {es : Es} {σ σ' : L2.St} {H : Hp} {S S0 B : Hp} {st st' : St} {C : Cn} {A l : Addr} {o o' : HO} {k : Nat} {lo xo : Own} {w : Wn} {D : Ends}

/-! ### a field -/
theorem repF_put {C : Cn} {S : Hp} {f : Nat} (inj : ∀ f g, C.an f = C.an g → f = g) {v : V} {d : DL.D} (r : Rep C S v d) : ∀ {vs : List (Str × V)} {fs : List (Nat × DL.D)}, RepF C S vs fs → RepF C S (putF (C.an f) v vs) (setField f d fs)
  | _, _, .nil => .cons r .nil
  | _, _, .cons (f := g) (v := v1) (vs := vs) (d := e) (fs := fs) r1 rs => by
    unfold putF setField
    by_cases hg : g = f
    · subst hg
      rw [if_pos rfl, if_pos rfl]
      exact .cons r rs
    · rw [if_neg (fun e => hg (inj _ _ e)), if_neg hg]
      exact .cons r1 (repF_put inj r rs)
theorem RepF.length {C : Cn} {S : Hp} : ∀ {vs : List (Str × V)} {fs : List (Nat × DL.D)}, RepF C S vs fs → vs.length = fs.length
  | _, _, .nil => rfl
  | _, _, .cons _ rs => congrArg (· + 1) rs.length
theorem ss_stf (i f : Nat) (e : E) : SSt (.stf i f e) := fun {z ρ T U kk X O stm cf k lo xo} F h hw => by
  have hw : gdi xo O (lk z.kd e) i ≠ .no := hw
  obtain ⟨h1, h2, h3⟩ := gdi_ok hw
  replace h := ms_stf h
  split at h
  · rename_i nm py s tp v pos
    simp only [Bool.and_eq_true, decide_eq_true_eq] at h
    obtain ⟨⟨⟨⟨⟨h4, h5⟩, h6⟩, h7⟩, h8⟩, h9⟩ := h
    refine PSof (ps_fld (slot_name F.toXF h4 h5 h6) (repE F.toXF h9 (rmO_fr O _)) (swaps_other h9 (fun _ _ q => nomatch q))) ?_
    rintro D σ H ⟨S, st, R, q⟩
    obtain ⟨S1, e1, R1⟩ := R.rm (lk z.kd e)
    have ew : ownS z.kd k lo xo (.stf i f e) O = .at (rmO O (lk z.kd e)) := h3
    rw [ew] at q
    refine stm_r (P := pF ρ.C) R1 h1 (KtO.mono q e1) fun S2 v H2 d e2 R2 pv q => ?_
    have q : KtO ρ k lo xo (.at (rmO O (lk z.kd e))) D S2 (match st[i]? with
      | some (some (.obj c fs)) => if fs.length < 900 then .nx (st.set i (some (.obj c (setField f d fs)))) else .bad
      | _ => .bad) := q
    split at q
    · rename_i c fs hst
      obtain ⟨l, hl, al⟩ := R2.mine h2 hst rfl
      obtain ⟨a1, a2, dx, vs, a3, a4⟩ := al
      by_cases hb : fs.length < 900
      · rw [if_pos hb] at q
        refine ⟨_, hl, l, _, dx, vs, rfl, a3, by rw [F.K]; exact F.gf.cls c, by rw [F.K, ← h7, F.gf.atn]; exact F.gf.fld f h8 c, by rw [a4.length]; omega, ?_⟩
        rw [← h7, F.gf.atn]
        exact q S2 σ _ (Ext.rfl' _) (R2.change h2 hst rfl hl ⟨dx, _, rfl, repF_put F.gf.inj pv a4⟩)
      · rw [if_neg hb] at q; exact q.elim
    · exact q.elim
  · cases h

/-! ### op= -/
def tiA : BO → TIp
  | .add => ipI fun i j => i + j
  | .sub => ipI fun i j => i - j
  | _ => fun _ _ _ _ => False
theorem ip_A {o : BO} {p : Operator} (h : opIs o p = true) : PIp X p (tiA o) := by
  cases o <;> cases p <;> first | (cases h; done) | exact ip_add | exact ip_sub | exact fun _ _ _ _ _ _ _ _ _ _ _ _ h => h.elim
theorem asg_sc {i : Nat} {d : DL.D} {v : V} (hs : isSc d = true) (rv : ∀ S, Rep ρ.C S v d) (R : Rel ρ.C ρ.B ρ.S0 S O1 st σ H) (q : KtO ρ k lo xo (.at O1) D S (.nx (st.set i (some d)))) : D.nx (σ.set i (some v)) H := by
  obtain ⟨S2, e2, R2⟩ := R.asg (i := i) (O1 := O1) (f := true) (v := v) (d := d) (RepX.sc hs (rv S)) (fun j hj => by
    by_cases e : j = i
    · exact .inr ⟨e, rfl⟩
    · exact .inl ⟨hj, e⟩)
  exact q S2 _ H e2 R2
theorem ss_aug (i : Nat) (o : BO) (e : E) : SSt (.aug i o e) := fun {z ρ T U kk X O stm cf k lo xo} F h hw => by
  have hw : gd xo O (lk z.kd e) .at ≠ .no := hw
  obtain ⟨h1, h2, _⟩ := gd_ok hw
  replace h := ms_aug h
  split at h
  · rename_i nm py p v pos
    simp only [Bool.and_eq_true] at h
    obtain ⟨⟨⟨h3, h4⟩, h5⟩, h6⟩ := h
    have hl := F.loc h4
    refine PSof (ps_aug (by rw [F.N]; exact F.nd) (F.slot h3) hl.1 (repE F.toXF h6 (rmO_fr O _)) (ip_A h5) hl.2) ?_
    rintro D σ H ⟨S, st, R, q⟩
    have ew : ownS z.kd k lo xo (.aug i o e) O = .at (rmO O (lk z.kd e)) := h2
    rw [ew] at q
    replace q : KtO ρ k lo xo (.at (rmO O (lk z.kd e))) D S (match (generalizing := false) st[i]? with
      | some (some x) => (evE T e st).bindO st fun y => (match (generalizing := false) o, x, y with
        | .add, .int a, .int b => .nx (st.set i (some (.int (a + b))))
        | .sub, .int a, .int b => .nx (st.set i (some (.int (a - b))))
        | _, _, _ => .bad)
      | _ => .bad) := q
    split at q
    · rename_i x hst
      obtain ⟨S1, e1, R1⟩ := R.rm (lk z.kd e)
      obtain ⟨v0, hv0, hs0⟩ := R1.slot i x hst
      refine ⟨v0, hv0, ?_⟩
      refine stm_r (P := pF ρ.C) R1 h1 (KtO.mono q e1) fun S2 v H2 d e2 R2 pv q2 => ?_
      clear q
      revert q2; intro q
      split at q
      · rename_i a b
        cases Rep.int' pv
        cases Bor.int hs0.bor
        exact ⟨a, b, rfl, rfl, asg_sc (d := .int (a + b)) rfl (fun _ => .int _) R2 q⟩
      · rename_i a b
        cases Rep.int' pv
        cases Bor.int hs0.bor
        exact ⟨a, b, rfl, rfl, asg_sc (d := .int (a - b)) rfl (fun _ => .int _) R2 q⟩
      · exact q.elim
    · exact q.elim
  · cases h

/-! ### methods of lists -/
theorem bm_hs {p : Pos} {v : Expr} {env : Env} {pos : Pos} (h : mE z m v = true) : ((backTo pos (starEach [v] env)).all (fun x => !x.1) && (backToKw pos (keywordEach [] env)).all (fun x => x.1.isSome)
      && decide ([v].length + ([] : List Keyword).length + (if ([] : List Keyword).isEmpty then 0 else 1) < 30)) = true := by
  rw [star1 h]; rfl
theorem ss_app (i : Nat) (e : E) : SSt (.app i e) := fun {z ρ T U kk X O stm cf k lo xo} F h hw => by
  have hw : gdi xo O (lk z.kd e) i ≠ .no := hw
  obtain ⟨h1, h2, h3⟩ := gdi_ok hw
  replace h := ms_app h
  split at h
  · rename_i nm py s ap v cp pos
    simp only [Bool.and_eq_true, decide_eq_true_eq] at h
    obtain ⟨⟨⟨⟨⟨h4, h5⟩, h6⟩, h7⟩, h8⟩, h9⟩ := h
    subst h7
    refine PSof (ps_expr (pe_bm PySem.F.plainAttrs_list PySem.F.slot_list_append PySem.F.type_list_append mt_append (slot_name F.toXF h4 h5 h6) (pa_cons (repE F.toXF h9 (rmO_fr O _)) pa_nil (star1 h9)) rfl (bm_hs (p := pos) h9) h8 (star1 h9) rfl) swaps_none) ?_
    rintro D σ H ⟨S, st, R, q⟩
    have ew : ownS z.kd k lo xo (.app i e) O = .at (rmO O (lk z.kd e)) := h3
    rw [ew] at q
    have q : KtO ρ k lo xo (.at (rmO O (lk z.kd e))) D S (match st[i]? with
      | some (some (.lst xs)) => (evE T e st).bindO st fun d => if xs.length < big then .nx (st.set i (some (.lst (xs ++ [d])))) else .bad
      | _ => .bad) := q
    split at q
    · rename_i xs hst
      obtain ⟨S1, e1, R1⟩ := R.rm (lk z.kd e)
      obtain ⟨l, hl, al⟩ := R1.mine h2 hst rfl
      refine ⟨_, hl, .inl ⟨rfl, ?_⟩, ?_⟩
      · obtain ⟨a1, a2, vs, a3, a4⟩ := al
        exact ⟨vs, .inl (.inl a3)⟩
      refine stm_r (P := pF ρ.C) R1 h1 (KtO.mono q e1) fun S2 v H2 d e2 R2 pv q => ?_
      obtain ⟨l', hl', al⟩ := R2.mine h2 hst rfl
      rw [hl] at hl'; cases hl'
      obtain ⟨a1, a2, vs, a3, a4⟩ := al
      by_cases hb : xs.length < big
      · rw [if_pos hb] at q
        refine ⟨l, vs, v, rfl, rfl, a3, by rw [a4.length]; have := big_line; omega, ?_⟩
        exact q S2 σ _ (Ext.rfl' _) (R2.change h2 hst rfl hl ⟨_, rfl, Reps.append a4 (.cons pv .nil)⟩)
      · rw [if_neg hb] at q; exact q.elim
    · exact q.elim
  · cases h
def rExtR (K : PySem.W.Frag) : V → List V → Hp → VK → Prop := fun x vs H Q => ∃ l b xs zs, x = .ref l ∧ vs = [.ref b] ∧ H l = some (.lst xs) ∧ LsK K H b zs ∧ xs.length + zs.length ≤ sizeLine ∧ Q .non (upd H l (.lst (xs ++ zs)))
theorem mt_extR : MtR X "list.extend" (rExtR X.K) := by
  intro pins s σ H x vs v us Q I rx rv h
  obtain ⟨l, b, xs, zs, rfl, rfl, hH, hB, hz, q⟩ := h
  cases rx
  obtain ⟨u, rfl, ru⟩ := rv.one
  cases ru
  obtain ⟨z, its, n, r, hl, e⟩ := I.lstM hH
  obtain ⟨z2, its2, n2, r2, hl2, e2⟩ := rdL I hB
  have hsz : its.toArray.size + its2.toArray.size ≤ sizeLine := by rw [List.size_toArray, List.size_toArray]; omega
  have hlong : ¬ (!its.toArray.isEmpty && Builtin.List.listTooLong (its.toArray.size + its2.toArray.size)) = true := by
    rw [notLongL hsz, Bool.and_false]
    exact Bool.false_ne_true
  refine call_meets PySem.F.slot_list_extend ⟨_, e, rfl⟩ PySem.F.entry_list_extend (PySem.F.args_list_extend_2 _ _)
    (AutoSeq1.list_extend_list_list_0 l its.toArray n b its2.toArray n2 hlong (by rw [List.size_toArray]; omega) (by omega)) ⟨e, e2, ?_⟩
  refine ⟨.non, _, I.lset (its' := its ++ its2) hH e (by simp) (r.append r2) ?_, rfl, q⟩
  rw [List.length_append]
  omega
theorem ss_ext (i : Nat) (e : E) : SSt (.ext i e) := fun {z ρ T U kk X O stm cf k lo xo} F h hw => by
  have hw : gdi xo O (lk z.kd e) i ≠ .no := hw
  obtain ⟨h1, h2, h3⟩ := gdi_ok hw
  replace h := ms_ext h
  split at h
  · rename_i nm py s ap v cp pos
    simp only [Bool.and_eq_true, decide_eq_true_eq] at h
    obtain ⟨⟨⟨⟨⟨h4, h5⟩, h6⟩, h7⟩, h8⟩, h9⟩ := h
    subst h7
    refine PSof (ps_expr (pe_bm PySem.F.plainAttrs_list PySem.F.slot_list_extend PySem.F.type_list_extend mt_extR (slot_name F.toXF h4 h5 h6) (pa_cons (repE F.toXF h9 (rmO_fr O _)) pa_nil (star1 h9)) rfl (bm_hs (p := pos) h9) h8 (star1 h9) rfl) swaps_none) ?_
    rintro D σ H ⟨S, st, R, q⟩
    have ew : ownS z.kd k lo xo (.ext i e) O = .at (rmO O (lk z.kd e)) := h3
    rw [ew] at q
    have q : KtO ρ k lo xo (.at (rmO O (lk z.kd e))) D S (match st[i]? with
      | some (some (.lst xs)) => (evE T e st).bindO st fun d => (match d with
        | .lst ys => if xs.length + ys.length < big then .nx (st.set i (some (.lst (xs ++ ys)))) else .bad
        | _ => .bad)
      | _ => .bad) := q
    split at q
    · rename_i xs hst
      obtain ⟨S1, e1, R1⟩ := R.rm (lk z.kd e)
      obtain ⟨l, hl, al⟩ := R1.mine h2 hst rfl
      refine ⟨_, hl, .inl ⟨rfl, ?_⟩, ?_⟩
      · obtain ⟨a1, a2, vs, a3, a4⟩ := al
        exact ⟨vs, .inl (.inl a3)⟩
      refine stm_r (P := pF ρ.C) R1 h1 (KtO.mono q e1) fun S2 v H2 d e2 R2 pv q => ?_
      obtain ⟨l', hl', al⟩ := R2.mine h2 hst rfl
      rw [hl] at hl'; cases hl'
      obtain ⟨a1, a2, vs, a3, a4⟩ := al
      cases d with
      | lst ys =>
        have q : KtO ρ k lo xo (.at (rmO O (lk z.kd e))) D S2 (if xs.length + ys.length < big then .nx (st.set i (some (.lst (xs ++ ys)))) else .bad) := q
        by_cases hb : xs.length + ys.length < big
        · rw [if_pos hb] at q
          cases pv with
          | lst rb rbs =>
            rename_i b ws
            rw [F.K]
            refine ⟨l, b, vs, ws, rfl, rfl, a3, R2.sh.lsk rb, by rw [a4.length, rbs.length]; have := big_line; omega, ?_⟩
            exact q S2 σ _ (Ext.rfl' _) (R2.change h2 hst rfl hl ⟨_, rfl, Reps.append a4 rbs⟩)
        · rw [if_neg hb] at q; exact q.elim
      | _ => exact q.elim
    · exact q.elim
  · cases h
theorem ss_pop (i : Nat) : SSt (.pop i) := fun {z ρ T U kk X O stm cf k lo xo} F h hw => by
  have hw : gdi xo O [] i ≠ .no := hw
  obtain ⟨h1, h2, h3⟩ := gdi_ok hw
  replace h := ms_pop h
  split at h
  · rename_i nm py s ap cp pos
    simp only [Bool.and_eq_true, decide_eq_true_eq] at h
    obtain ⟨⟨⟨⟨h4, h5⟩, h6⟩, h7⟩, h8⟩ := h
    subst h7
    refine PSof (ps_expr (pe_bm0 PySem.F.plainAttrs_list PySem.F.slot_list_pop PySem.F.type_list_pop mt_pop (slot_name F.toXF h4 h5 h6) rfl h8) swaps_none) ?_
    rintro D σ H ⟨S, st, R, q⟩
    have ew : ownS z.kd k lo xo (.pop i) O = .at O := h3
    rw [ew] at q
    have q : KtO ρ k lo xo (.at O) D S (match st[i]? with
      | some (some (.lst xs)) => if xs.length = 0 then .bad else .nx (st.set i (some (.lst xs.dropLast)))
      | _ => .bad) := q
    split at q
    · rename_i xs hst
      obtain ⟨l, hl, al⟩ := R.mine h2 hst rfl
      obtain ⟨a1, a2, vs, a3, a4⟩ := al
      by_cases hb : xs.length = 0
      · rw [if_pos hb] at q; exact q.elim
      · rw [if_neg hb] at q
        have hlt : vs.length - 1 < vs.length := by rw [a4.length]; omega
        refine ⟨_, hl, .inl ⟨rfl, vs, .inl (.inl a3)⟩, l, vs, vs[vs.length - 1], rfl, rfl, a3, List.getElem?_eq_getElem hlt, ?_⟩
        exact q S σ _ (Ext.rfl' _) (R.change h2 hst rfl hl ⟨_, rfl, a4.dropLast⟩)
    · exact q.elim
  · cases h
theorem ss_exp (e : E) : SSt (.exp e) := fun {z ρ T U kk X O stm cf k lo xo} F h hw => by
  have hw : gd xo O (lk z.kd e) .at ≠ .no := hw
  obtain ⟨h1, h2, _⟩ := gd_ok hw
  replace h := ms_exp h
  split at h
  · refine PSof (ps_expr (repE F.toXF h (rmO_fr O _)) swaps_none) ?_
    rintro D σ H ⟨S, st, R, q⟩
    obtain ⟨S1, e1, R1⟩ := R.rm (lk z.kd e)
    have ew : ownS z.kd k lo xo (.exp e) O = .at (rmO O (lk z.kd e)) := h2
    rw [ew] at q
    exact stm_r (P := pF ρ.C) R1 h1 (KtO.mono q e1) fun S2 v H2 d e2 R2 pv q => q S2 σ H2 (Ext.rfl' _) R2
  · cases h

/-! ### return, break, continue, pass, raise -/
theorem ss_pas : SSt .pas := fun {z ρ T U kk X O stm cf k lo xo} F h hw => by
  replace h := ms_pas h
  split at h
  · refine PSof ps_pass ?_
    rintro D σ H ⟨S, st, R, q⟩
    exact q S σ H (Ext.rfl' _) R
  · cases h
theorem ss_brk : SSt .brk := fun {z ρ T U kk X O stm cf k lo xo} F h hw => by
  have hw : (if subO lo O then Wn.top else .no) ≠ .no := hw
  replace h := ms_brk h
  split at h
  · refine PSof ps_break ?_
    rintro D σ H ⟨S, st, R, q⟩
    by_cases hs : subO lo O = true
    · obtain ⟨S1, e1, R1⟩ := R.sub hs
      exact q S1 σ H e1 R1
    · rw [if_neg hs] at hw; exact absurd rfl hw
  · cases h
theorem ss_cnt : SSt .cnt := fun {z ρ T U kk X O stm cf k lo xo} F h hw => by
  have hw : (if subO lo O then Wn.top else .no) ≠ .no := hw
  replace h := ms_cnt h
  split at h
  · refine PSof ps_continue ?_
    rintro D σ H ⟨S, st, R, q⟩
    by_cases hs : subO lo O = true
    · obtain ⟨S1, e1, R1⟩ := R.sub hs
      exact q S1 σ H e1 R1
    · rw [if_neg hs] at hw; exact absurd rfl hw
  · cases h
theorem ret_r {P : Pv} {f : Bool} {O1 : Own} (hf : f = (k == 1)) (hP : ∀ st σ S H v d, P st σ S H v d → SlotOk ρ.C ρ.B S H f v d) (R : Rel ρ.C ρ.B ρ.S0 S O1 st σ H) (hx : ∀ i, own xo i = true → own O1 i = true) (q : KtO ρ k lo xo w D S ((evE T e st).bindO st fun d => .rt d)) : tG ρ T O1 e P σ H D.rt :=
  stm_r R hx q fun S2 v H2 d e2 R2 pv q => q S2 v H2 (Ext.rfl' _) R2.r (by rw [← hf]; exact hP _ _ _ _ _ _ pv)
theorem ss_ret (e : E) : SSt (.ret e) := fun {z ρ T U kk X O stm cf k lo xo} F h hw => by
  replace hw : (if k == 1 then (match (generalizing := false) e with
      | .var i => if ownB O i then gd xo O [] fun _ => .top else .no
      | _ => if fresh z.kd e then gd xo O (lk z.kd e) fun _ => .top else .no) else gd xo O (lk z.kd e) fun _ => .top) ≠ .no := hw
  have main : ∀ {f : Bool} {v : Expr} {pos : Pos}, f = (k == 1) → (∀ i, own xo i = true → own (rmO O (lk z.kd e)) i = true) → PE X v (tG ρ T (rmO O (lk z.kd e)) e (pX ρ.C ρ.B (rmO O (lk z.kd e)) f)) → PS X (.Return (some v) pos) (tS z ρ T U k lo xo (.ret e) O) := by
    intro f v pos hf h1 hp
    refine PSof (ps_ret hp) ?_
    rintro D σ H ⟨S, st, R, q⟩
    obtain ⟨S1, e1, R1⟩ := R.rm (lk z.kd e)
    exact ret_r hf (fun _ _ _ _ _ _ p => p.1) R1 h1 (KtO.mono q e1)
  replace h := ms_ret h
  split at h
  · rename_i v pos
    by_cases hk : k = 1
    · have hk1 : (k == 1) = true := beq_iff_eq.mpr hk
      rw [if_pos hk1] at hw
      split at hw
      · rename_i i
        by_cases ho : ownB O i = true
        · rw [if_pos ho] at hw
          obtain ⟨h1, _, _⟩ := gd_ok hw
          obtain ⟨n, p, rfl, h3, h4, h5⟩ := inv_var h
          refine PSof (ps_ret (slot_name F.toXF h3 h4 h5)) ?_
          rintro D σ H ⟨S, st, R, q⟩
          have q : KtO ρ k lo xo _ D S (((match st[i]? with | some (some d) => .ok d | _ => .bad : DL.R)).bindO st fun d => .rt d) := q
          split at q
          · rename_i d hd
            obtain ⟨v, hv, hs⟩ := R.slot i d hd
            have ho' : own O i = true := ho
            rw [ho'] at hs
            refine ⟨v, hv, q S v H (Ext.rfl' _) R.r ?_⟩
            rw [hk1]; exact hs
          · exact q.elim
        · rw [if_neg ho] at hw; exact absurd rfl hw
      · by_cases hfr : fresh z.kd e = true
        · rw [if_pos hfr] at hw
          obtain ⟨h1, _, _⟩ := gd_ok hw
          have := (allE e F.toXF h (rmO_fr O _)).pe
          exact main (by rw [hk1, hfr]) h1 this
        · rw [if_neg hfr] at hw; exact absurd rfl hw
    · have hk1 : (k == 1) = false := beq_eq_false_iff_ne.mpr hk
      rw [hk1] at hw
      obtain ⟨h1, _, _⟩ := gd_ok (show gd xo O (lk z.kd e) (fun _ => .top) ≠ .no from hw)
      exact main hk1.symm h1 (PEx (repE F.toXF h (rmO_fr O _)))
  · have he : e = .non := by cases e <;> first | rfl | cases h
    subst he
    refine PSof ps_retN ?_
    rintro D σ H ⟨S, st, R, q⟩
    exact q S .non H (Ext.rfl' _) R.r (.inr ⟨fun _ => rfl, .non⟩)
  · cases h
theorem ss_rse (c : Nat) : SSt (.rse c) := fun {z ρ T U kk X O stm cf k lo xo} F h hw => by
  have hw : gd xo O [] (fun _ => .top) ≠ .no := hw
  obtain ⟨h1, _, _⟩ := gd_ok hw
  replace h := ms_rse h
  split at h
  · rename_i nm np j s cp p2 p3 pos
    simp only [Bool.and_eq_true, decide_eq_true_eq] at h
    obtain ⟨⟨⟨h3, h4⟩, h5⟩, h6⟩ := h
    obtain ⟨B, newId, initId, bmB, EF, eq, gC, kC, rr⟩ := F.gf.rx c h4
    rw [h3] at gC
    rw [← F.K] at eq kC
    refine PSof (ps_raise F.calm F.tk (pmk_own EF eq gC kC (rr X F.K) (F.gl h5) (plainN_d h6).1)) ?_
    rintro D σ H ⟨S, st, R, q⟩
    obtain ⟨S1, e1, R1⟩ := R.narrow h1
    exact q S1 σ H none e1 R1 rfl
  · cases h
end DL
end

section
set_option linter.all false
set_option maxRecDepth 100000
set_option maxHeartbeats 1000000
set_option Elab.async false
/-! DLsd: blocks, if, while, for. -/
namespace DL
open PySem PySem.Spec PyProof.Rows L2
variable {z : Zx} {ρ : Rn} {T : Tb} {U : Up} {kk : Nat} {X : Cx} {O O1 O2 : Own} {x y tg : Expr} {m a b c e : E} {es : Es} {σ σ' : L2.St} {H : Hp} {S S0 B : Hp} {st st' : St} {C : Cn} {A l : Addr} {o o' : HO} {k : Nat} {lo xo : Own} {w : Wn} {D : Ends}

/-! ### what never ends by going on -/
theorem meet_top {a b : Wn} (h : a.meet b = .top) : a = .top ∧ b = .top := by cases a <;> cases b <;> first | exact ⟨rfl, rfl⟩ | cases h
def seqW (w : Wn) (f : Own → Wn) : Wn := match w with
  | .no => .no
  | .top => .top
  | .at O' => f O'
def hdO (n : Option Nat) (O : Own) : Own := match n with
  | none => O
  | some i => rmO O [i]
def hdR (n : Option Nat) (c : Nat) (fs : List (Nat × DL.D)) (st : St) (run : St → DL.O) : DL.O := match n with
  | none => run st
  | some i => match run (st.set i (some (.exn c fs))) with
    | .nx st' => .nx (st'.set i none)
    | .bk st' => .bk (st'.set i none)
    | .ct st' => .ct (st'.set i none)
    | .rt d => .rt d
    | .er c fs st' => .er c fs st'
    | .bad => .bad
def isNx : DL.O → Bool
  | .nx _ => true
  | _ => false
def TN (s : DL.S) : Prop := ∀ {z : Kd} {k : Nat} {lo xo O : Own} {T : Tb} {U : Up} {st : St}, ownS z k lo xo s O = .top → isNx (evS T U s st) = false
def TNs (s : Ss) : Prop := ∀ {z : Kd} {k : Nat} {lo xo O : Own} {T : Tb} {U : Up} {st : St}, ownSs z k lo xo s O = .top → isNx (evSs T U s st) = false
def TNh (s : Hs) : Prop := ∀ {z : Kd} {k : Nat} {lo xo O : Own} {T : Tb} {U : Up} {st : St} {c : Nat} {fs : List (Nat × DL.D)}, ownHs z k lo xo s O = .top → isNx (evHs T U s c fs st) = false
theorem gd_top {xo O : Own} {l : List Nat} {f : Own → Wn} (h : gd xo O l f = .top) : f (rmO O l) = .top := by
  unfold gd at h
  split at h
  · exact h
  · cases h
theorem gd_at {xo O : Own} {l : List Nat} {f : Own → Own} (h : gd xo O l (fun O1 => .at (f O1)) = .top) : False := by cases gd_top h
theorem gdi_at {xo O : Own} {l : List Nat} {i : Nat} (h : gdi xo O l i = .top) : False := by
  have := gd_top h
  split at this <;> cases this
theorem isNx_bindO {r : DL.R} {st : St} {f : DL.D → DL.O} (h : ∀ d, isNx (f d) = false) : isNx (r.bindO st f) = false := by
  cases r with
  | ok d => exact h d
  | _ => rfl
theorem tn_all (s : DL.S) : TN s := by
  refine S.rec (motive_1 := TN) (motive_2 := TNs) (motive_3 := TNh) ?_ ?_ ?_ ?_ ?_ ?_ ?_ ?_ ?_ ?_ ?_ ?_ ?_ ?_ ?_ ?_ ?_ ?_ ?_ ?_ ?_ ?_ ?_ ?_ ?_ ?_ s
  · intro i e z k lo xo O T U st h; exact (gd_at (f := fun O1 => if fresh z e then (rmO O1 [i]).set i true else rmO O1 [i]) h).elim
  · intro is e z k lo xo O T U st h; exact (gd_at (f := fun O1 => rmO O1 is) h).elim
  · intro i j a b z k lo xo O T U st h; exact (gd_at (f := fun O1 => rmO O1 [i, j]) h).elim
  · intro i a b c d z k lo xo O T U st h; exact (gdi_at h).elim
  · intro i a e z k lo xo O T U st h; exact (gdi_at h).elim
  · intro i f e z k lo xo O T U st h; exact (gdi_at h).elim
  · intro i o e z k lo xo O T U st h; exact (gd_at (f := fun O1 => O1) h).elim
  · intro i a o e z k lo xo O T U st h; exact (gdi_at h).elim
  · intro i e z k lo xo O T U st h; exact (gdi_at h).elim
  · intro i e z k lo xo O T U st h; exact (gdi_at h).elim
  · intro i z k lo xo O T U st h; exact (gdi_at h).elim
  · intro e z k lo xo O T U st h; exact (gd_at (f := fun O1 => O1) h).elim
  · intro c a b ha hb z k lo xo O T U st h
    have h2 := meet_top (gd_top (show gd xo O (lk z c) (fun O1 => (ownSs z k lo xo a O1).meet (ownSs z k lo xo b O1)) = .top from h))
    show isNx ((evE T c st).bindO st _) = false
    refine isNx_bindO fun d => ?_
    split
    · exact ha h2.1
    · exact hb h2.2
    · rfl
  · intro c l b hb z k lo xo O T U st h
    exfalso
    unfold ownS at h
    split at h
    · split at h
      · cases h
      · cases h
      · split at h <;> cases h
    · cases h
  · intro p it l b hb z k lo xo O T U st h
    exfalso
    unfold ownS at h
    split at h
    · split at h
      · cases h
      · cases h
      · split at h <;> cases h
    · cases h
  · intro e z k lo xo O T U st h
    exact isNx_bindO fun d => rfl
  · intro z k lo xo O T U st h; rfl
  · intro z k lo xo O T U st h; rfl
  · intro z k lo xo O T U st h; cases h
  · intro c z k lo xo O T U st h; rfl
  · intro c e z k lo xo O T U st h; rfl
  · intro l b hs hb hh z k lo xo O T U st h
    have h : (if subO (mkO O.length l) O && subO xo (mkO O.length l) then (ownSs z k lo (mkO O.length l) b O).meet (ownHs z k lo xo hs (mkO O.length l)) else .no) = .top := h
    split at h
    · have h2 := meet_top h
      have e : evS T U (.tri l b hs) st = match evSs T U b st with
        | .er c fs st' => evHs T U hs c fs st'
        | o => o := rfl
      rw [e]
      have h3 := hb (T := T) (U := U) (st := st) h2.1
      cases e1 : evSs T U b st with
      | er c fs st' => exact hh h2.2
      | nx st' => rw [e1] at h3; cases h3
      | _ => rfl
    · cases h
  · intro z k lo xo O T U st h; cases h
  · intro s ss hs hss z k lo xo O T U st h
    have h : seqW (ownS z k lo xo s O) (ownSs z k lo xo ss) = .top := h
    have e : evSs T U (.cons s ss) st = (evS T U s st).bind fun st' => evSs T U ss st' := rfl
    rw [e]
    unfold seqW at h
    split at h
    · cases h
    · rename_i h1
      have := hs (T := T) (U := U) (st := st) h1
      cases e1 : evS T U s st with
      | nx st' => rw [e1] at this; cases this
      | _ => rfl
    · cases e1 : evS T U s st with
      | nx st' => exact hss h
      | _ => rfl
  · intro z k lo xo O T U st c fs h; rfl
  · intro k1 n b hs hb hh z k lo xo O T U st c fs h
    have h2 := meet_top (show (ownSs z k lo xo b (hdO n O)).meet (ownHs z k lo xo hs O) = .top from h)
    have e : evHs T U (.cons k1 n b hs) c fs st = match U.sub c k1 with
      | true => hdR n c fs st (evSs T U b)
      | false => evHs T U hs c fs st := rfl
    rw [e]
    cases U.sub c k1 with
    | false => exact hh h2.2
    | true =>
      cases n with
      | none => exact hb h2.1
      | some i =>
        have h3 := hb (T := T) (U := U) (st := st.set i (some (.exn c fs))) h2.1
        show isNx (hdR (some i) c fs st (evSs T U b)) = false
        unfold hdR
        cases e1 : evSs T U b (st.set i (some (.exn c fs))) with
        | nx st' => rw [e1] at h3; cases h3
        | _ => simp only [e1]; rfl
theorem tns_all {z : Kd} {k : Nat} {lo xo : Own} {T : Tb} {U : Up} : ∀ (s : Ss) (O : Own) (st : St), ownSs z k lo xo s O = .top → isNx (evSs T U s st) = false
  | .nil, O, st, h => by cases h
  | .cons s ss, O, st, h => by
    have h : seqW (ownS z k lo xo s O) (ownSs z k lo xo ss) = .top := h
    have e : evSs T U (.cons s ss) st = (evS T U s st).bind fun st' => evSs T U ss st' := rfl
    rw [e]
    unfold seqW at h
    split at h
    · cases h
    · rename_i h1
      have := tn_all s (T := T) (U := U) (st := st) h1
      cases e1 : evS T U s st with
      | nx st' => rw [e1] at this; cases this
      | _ => rfl
    · cases e1 : evS T U s st with
      | nx st' => exact tns_all ss _ _ h
      | _ => rfl
theorem and_own {a b : Own} {i : Nat} (h : own (andO a b) i = true) : own a i = true ∧ own b i = true := by
  unfold andO own at h
  rw [List.getD_eq_getElem?_getD, List.getElem?_map] at h
  by_cases hi : i < a.length
  · rw [List.getElem?_range hi] at h
    have h : (ownB a i && ownB b i) = true := h
    rw [Bool.and_eq_true] at h
    exact h
  · rw [List.getElem?_eq_none (by simp; omega)] at h
    cases h
theorem mk_own {n : Nat} {l : List Nat} {i : Nat} (h : own (mkO n l) i = true) : l.contains i = true := by
  unfold mkO own at h
  rw [List.getD_eq_getElem?_getD, List.getElem?_map] at h
  by_cases hi : i < n
  · rw [List.getElem?_range hi] at h; exact h
  · rw [List.getElem?_eq_none (by simp; omega)] at h; cases h
/-- a weaker end -/
theorem KtO.wk {w w' : Wn} {r : DL.O} (h : KtO ρ k lo xo w D S r) (hw : ∀ st', r = .nx st' → ∃ O' O1, w' = .at O' ∧ w = .at O1 ∧ ∀ i, own O1 i = true → own O' i = true) : KtO ρ k lo xo w' D S r := by
  cases r with
  | nx st' =>
    obtain ⟨O', O1, rfl, rfl, hs⟩ := hw st' rfl
    intro S' σ' H' e R
    obtain ⟨S2, e2, R2⟩ := R.narrow hs
    exact h S2 σ' H' (e.trans e2) R2
  | rt d => exact h
  | bk st' => exact h
  | ct st' => exact h
  | er c fs st' => exact h
  | bad => exact h
theorem meetL {w1 w2 : Wn} {r : DL.O} (h : KtO ρ k lo xo (w1.meet w2) D S r) (n1 : w1 ≠ .no) (n2 : w2 ≠ .no) (ht : w1 = .top → isNx r = false) : KtO ρ k lo xo w1 D S r := by
  refine h.wk fun st' e => ?_
  subst e
  cases w1 with
  | no => exact absurd rfl n1
  | top => cases ht rfl
  | «at» O1 =>
    cases w2 with
    | no => exact absurd rfl n2
    | top => exact ⟨O1, O1, rfl, rfl, fun _ q => q⟩
    | «at» O2 => exact ⟨O1, andO O1 O2, rfl, rfl, fun _ q => (and_own q).1⟩
theorem meetR {w1 w2 : Wn} {r : DL.O} (h : KtO ρ k lo xo (w1.meet w2) D S r) (n1 : w1 ≠ .no) (n2 : w2 ≠ .no) (ht : w2 = .top → isNx r = false) : KtO ρ k lo xo w2 D S r := by
  refine h.wk fun st' e => ?_
  subst e
  cases w2 with
  | no => exact absurd rfl n2
  | top => cases ht rfl
  | «at» O2 =>
    cases w1 with
    | no => exact absurd rfl n1
    | top => exact ⟨O2, O2, rfl, rfl, fun _ q => q⟩
    | «at» O1 => exact ⟨O2, andO O1 O2, rfl, rfl, fun _ q => (and_own q).2⟩
theorem meet_no {w1 w2 : Wn} (h : w1.meet w2 ≠ .no) : w1 ≠ .no ∧ w2 ≠ .no := by
  refine ⟨fun e => ?_, fun e => ?_⟩
  · subst e; exact h rfl
  · subst e; cases w1 <;> exact h rfl

/-! ### blocks -/
theorem sss_nil : SSs .nil := fun {z ρ T U kk X O stm cf k lo xo} F h hw => by
  cases stm with
  | cons _ _ => cases h
  | nil =>
    refine PSsof pss_nil ?_
    rintro D σ H ⟨S, st, R, q⟩
    exact q S σ H (Ext.rfl' _) R
theorem cons_gen {s : DL.S} {ss : Ss} {t : Stmt} {ts : List Stmt} (hw : ownSs z.kd k lo xo (.cons s ss) O ≠ .no) (P1 : ownS z.kd k lo xo s O ≠ .no → PS X t (tS z ρ T U k lo xo s O)) (P2 : ∀ O', ownSs z.kd k lo xo ss O' ≠ .no → PSs X ts (tSs z ρ T U k lo xo ss O')) : PSs X (t :: ts) (tSs z ρ T U k lo xo (.cons s ss) O) := by
    have hw' : seqW (ownS z.kd k lo xo s O) (ownSs z.kd k lo xo ss) ≠ .no := hw
    have n1 : ownS z.kd k lo xo s O ≠ .no := fun e => by rw [e] at hw'; exact hw' rfl
    replace P1 := P1 n1
    cases e : ownS z.kd k lo xo s O with
    | no => exact absurd e n1
    | top =>
      -- nothing goes on behind it
      refine ⟨fun pins sh σ H D I ⟨S, st, R, q⟩ => ?_⟩
      have et : ownSs z.kd k lo xo (.cons s ss) O = .top := by
        show seqW (ownS z.kd k lo xo s O) (ownSs z.kd k lo xo ss) = .top
        rw [e]; rfl
      rw [et] at q
      have q : KtO ρ k lo xo .top D S ((evS T U s st).bind fun st' => evSs T U ss st') := q
      have hn := tn_all s (T := T) (U := U) (st := st) e
      have q1 : KtO ρ k lo xo (ownS z.kd k lo xo s O) { D with nx := fun _ _ => False } S (evS T U s st) := by
        rw [e]
        cases e1 : evS T U s st with
        | nx st' => rw [e1] at hn; cases hn
        | rt d => rw [e1] at q; exact q
        | bk d => rw [e1] at q; exact q
        | ct d => rw [e1] at q; exact q
        | er c fs st' => rw [e1] at q; exact q
        | bad => rw [e1] at q; exact q
      exact (pss_cons (u := fun _ _ _ => False) P1 ⟨fun _ _ _ _ _ _ f => f.elim⟩).run pins sh σ H D I ⟨S, st, R, q1⟩
    | «at» O' =>
      have n2 : ownSs z.kd k lo xo ss O' ≠ .no := fun e2 => by
        rw [e] at hw'
        exact hw' e2
      replace P2 := P2 O' n2
      refine PSsof (pss_cons P1 P2) ?_
      rintro D σ H ⟨S, st, R, q⟩
      have et : ownSs z.kd k lo xo (.cons s ss) O = ownSs z.kd k lo xo ss O' := by
        show seqW (ownS z.kd k lo xo s O) (ownSs z.kd k lo xo ss) = _
        rw [e]; rfl
      rw [et] at q
      refine ⟨S, st, R, ?_⟩
      have q : KtO ρ k lo xo (ownSs z.kd k lo xo ss O') D S ((evS T U s st).bind fun st' => evSs T U ss st') := q
      rw [e]
      cases e1 : evS T U s st with
      | nx st' =>
        rw [e1] at q
        exact fun S' σ' H' e2 R' => ⟨S', st', R', KtO.mono q e2⟩
      | rt d => rw [e1] at q; exact q
      | bk d => rw [e1] at q; exact q
      | ct d => rw [e1] at q; exact q
      | er c fs st' => rw [e1] at q; exact q
      | bad => rw [e1] at q; exact q
theorem sss_cons {s : DL.S} {ss : Ss} (h1 : SSt s) (h2 : SSs ss) : SSs (.cons s ss) := fun {z ρ T U kk X O stm cf k lo xo} F h hw => by
  cases stm with
  | nil => cases h
  | cons t ts =>
    have h : (mS z cf s t && mSs z cf ss ts) = true := h
    rw [Bool.and_eq_true] at h
    exact cons_gen hw (fun n => h1 (U := U) F h.1 n) fun O' n => h2 (U := U) F h.2 n
theorem ss_ifs {c : E} {a b : Ss} (ha : SSs a) (hb : SSs b) : SSt (.ifs c a b) := fun {z ρ T U kk X O stm cf k lo xo} F h hw => by
  have hw : gd xo O (lk z.kd c) (fun O1 => (ownSs z.kd k lo xo a O1).meet (ownSs z.kd k lo xo b O1)) ≠ .no := hw
  obtain ⟨h1, h2, h3⟩ := gd_ok hw
  obtain ⟨n1, n2⟩ := meet_no h3
  replace h := ms_ifs h
  split at h
  · rename_i t xs ys pos
    simp only [Bool.and_eq_true] at h
    refine PSof (ps_if (allE c F.toXF h.1.1 (rmO_fr O _)).pt (ha (U := U) F h.1.2 n1) (hb (U := U) F h.2 n2)) ?_
    rintro D σ H ⟨S, st, R, q⟩
    obtain ⟨S1, e1, R1⟩ := R.rm (lk z.kd c)
    have ew : ownS z.kd k lo xo (.ifs c a b) O = (ownSs z.kd k lo xo a (rmO O (lk z.kd c))).meet (ownSs z.kd k lo xo b (rmO O (lk z.kd c))) := h2
    rw [ew] at q
    refine stm_t (f := fun x => match x with
      | .bl true => evSs T U a st
      | .bl false => evSs T U b st
      | _ => .bad) (fb := fun v => if v = true then evSs T U a st else evSs T U b st) (fun d => by
        cases d with
        | bl v => cases v <;> rfl
        | _ => rfl) R1 h1 (KtO.mono q e1) fun S2 H2 v e2 R2 q => ?_
    cases v with
    | true => exact ⟨S2, st, R2, meetL q n1 n2 (fun e => tns_all a _ _ e)⟩
    | false => exact ⟨S2, st, R2, meetR q n1 n2 (fun e => tns_all b _ _ e)⟩
  · cases h
end DL
end

section
set_option linter.all false
set_option maxRecDepth 100000
set_option maxHeartbeats 1000000
set_option Elab.async false
/-! DLse: while, for, swap; every statement. -/
namespace DL
open PySem PySem.Spec PyProof.Rows L2
variable {z : Zx} {ρ : Rn} {T : Tb} {U : Up} {kk : Nat} {X : Cx} {O O1 O2 : Own} {x y tg : Expr} {m a b c e : E} {es : Es} {σ σ' : L2.St} {H : Hp} {S S0 B : Hp} {st st' : St} {C : Cn} {A l : Addr} {o o' : HO} {k : Nat} {lo xo : Own} {w : Wn} {D : Ends}

/-- what a loop asks of its body -/
def loopW (w : Wn) (OL : Own) : Wn := match w with
  | .no => .no
  | .top => .at OL
  | .at O' => if subO OL O' then .at OL else .no
theorem loop_ok {w : Wn} {OL : Own} (h : loopW w OL ≠ .no) : w ≠ .no ∧ loopW w OL = .at OL ∧ ∀ O', w = .at O' → subO OL O' = true := by
  cases w with
  | no => exact absurd rfl h
  | top => exact ⟨fun e => (nomatch e), rfl, fun _ e => (nomatch e)⟩
  | «at» O1 =>
    by_cases hs : subO OL O1 = true
    · exact ⟨fun e => (nomatch e), if_pos hs, fun O' e => by cases e; exact hs⟩
    · exact absurd (if_neg hs) h
/-- the body's outcome, the loop's rest: go on with N -/
theorem body_ok {wb : Wn} {OL : Own} {r : DL.O} {cont : St → DL.O} {N : L2.St → Hp → Prop} (hw : ∀ O', wb = .at O' → subO OL O' = true) (ht : wb = .top → isNx r = false) (nn : wb ≠ .no)
    (q : KtO ρ k lo xo (.at OL) D S (match (generalizing := false) r with
      | .nx st' => cont st'
      | .ct st' => cont st'
      | .bk st' => .nx st'
      | .rt d => .rt d
      | .er c fs st' => .er c fs st'
      | .bad => .bad))
    (hN : ∀ st' S' σ' H', Ext S S' → Rel ρ.C ρ.B ρ.S0 S' OL st' σ' H' → KtO ρ k lo xo (.at OL) D S' (cont st') → N σ' H') :
    KtO ρ k OL xo wb { D with nx := N, ct := N, bk := D.nx } S r := by
  cases r with
  | nx st' =>
    cases wb with
    | no => exact absurd rfl nn
    | top => cases ht rfl
    | «at» O' =>
      intro S' σ' H' e R
      obtain ⟨S2, e2, R2⟩ := R.sub (hw O' rfl)
      exact hN st' S2 σ' H' (e.trans e2) R2 (KtO.mono q (e.trans e2))
  | ct st' => exact fun S' σ' H' e R => hN st' S' σ' H' e R (KtO.mono q e)
  | bk st' => exact q
  | rt d => exact q
  | er c fs st' => exact q
  | bad => exact q
theorem whileL_succ {c : St → DL.R} {b : St → DL.O} {n : Nat} : whileL c b (n + 1) st = (c st).bindO st fun d => match d with
    | .bl true => (match b st with
      | .nx st' => whileL c b n st'
      | .ct st' => whileL c b n st'
      | .bk st' => .nx st'
      | .rt d => .rt d
      | .er c fs st' => .er c fs st'
      | .bad => .bad)
    | .bl false => .nx st
    | _ => .bad := by
  rw [whileL]
  cases c st with
  | ok d => cases d <;> first | rfl | (rename_i v; cases v <;> rfl)
  | er _ _ => rfl
  | bad => rfl
theorem ss_whl {c : E} {l : List Nat} {b : Ss} (hb : SSs b) : SSt (.whl c l b) := fun {z ρ T U kk X O stm cf k lo xo} F h hw => by
  have hw : (if subO (mkO O.length l) O && (subO (mkO O.length l) (rmO (mkO O.length l) (lk z.kd c)) && subO xo (mkO O.length l)) then loopW (ownSs z.kd k (mkO O.length l) xo b (mkO O.length l)) (mkO O.length l) else .no) ≠ .no := hw
  by_cases hc : (subO (mkO O.length l) O && (subO (mkO O.length l) (rmO (mkO O.length l) (lk z.kd c)) && subO xo (mkO O.length l))) = true
  · have ew : ownS z.kd k lo xo (.whl c l b) O = loopW (ownSs z.kd k (mkO O.length l) xo b (mkO O.length l)) (mkO O.length l) := by
      show (if subO (mkO O.length l) O && (subO (mkO O.length l) (rmO (mkO O.length l) (lk z.kd c)) && subO xo (mkO O.length l)) then loopW (ownSs z.kd k (mkO O.length l) xo b (mkO O.length l)) (mkO O.length l) else .no) = _
      rw [if_pos hc]
    rw [if_pos hc] at hw
    obtain ⟨n1, n2, n3⟩ := loop_ok hw
    rw [n2] at ew
    simp only [Bool.and_eq_true] at hc
    obtain ⟨c1, c2, c3⟩ := hc
    replace h := ms_whl h
    split at h
    · rename_i t xs pos
      simp only [Bool.and_eq_true] at h
      refine PSof (ps_while F.po (allE c F.toXF h.1 (rmO_fr (mkO O.length l) _)).pt (hb (U := U) F h.2 n1)) ?_
      rintro D σ H ⟨S, st, R, q⟩
      rw [ew] at q
      have q : KtO ρ k lo xo (.at (mkO O.length l)) D S (whileL (evE T c) (evSs T U b) FUEL st) := q
      refine ⟨fun m σ H => ∃ S st, Rel ρ.C ρ.B ρ.S0 S (mkO O.length l) st σ H ∧ KtO ρ k lo xo (.at (mkO O.length l)) D S (whileL (evE T c) (evSs T U b) m st), ?_, ?_⟩
      · obtain ⟨S1, e1, R1⟩ := R.sub c1
        exact ⟨FUEL, S1, st, R1, KtO.mono q e1⟩
      · rintro m σ H ⟨S, st, R, q⟩
        cases m with
        | zero => exact q.elim
        | succ m =>
          rw [whileL_succ] at q
          obtain ⟨S1, e1, R1⟩ := R.rm (lk z.kd c)
          refine stm_t (fb := fun v => if v = true then (match evSs T U b st with
            | .nx st' => whileL (evE T c) (evSs T U b) m st'
            | .ct st' => whileL (evE T c) (evSs T U b) m st'
            | .bk st' => .nx st'
            | .rt d => .rt d
            | .er c fs st' => .er c fs st'
            | .bad => .bad) else .nx st) (fun d => by
              cases d with
              | bl v => cases v <;> rfl
              | _ => rfl) R1 (fun i hi => sub_own c2 (sub_own c3 hi)) (KtO.mono q e1) fun S2 H2 v e2 R2 q => ?_
          obtain ⟨S3, e3, R3⟩ := R2.sub c2
          cases v with
          | false =>
            show (if false = true then _ else D.nx σ H2)
            rw [if_neg (by decide)]
            exact q S3 σ H2 e3 R3
          | true =>
            rw [if_pos rfl]
            rw [if_pos rfl] at q
            refine ⟨fun σ H => ∃ S st, Rel ρ.C ρ.B ρ.S0 S (mkO O.length l) st σ H ∧ KtO ρ k lo xo (.at (mkO O.length l)) D S (whileL (evE T c) (evSs T U b) m st), fun σ' H' hn => ⟨m, Nat.lt_succ_self m, hn⟩, ?_⟩
            exact ⟨S3, st, R3, body_ok n3 (fun e => tns_all b _ _ e) n1 (KtO.mono q e3) fun st' S' σ' H' e R' q' => ⟨S', st', R', q'⟩⟩
    · cases h
  · rw [if_neg hc] at hw; exact absurd rfl hw
theorem ss_for {p : P} {it : I} {l : List Nat} {b : Ss} (hb : SSs b) : SSt (.forr p it l b) := fun {z ρ T U kk X O stm cf k lo xo} F h hw => by
  have hw : (if subO (mkO O.length l) (rmO O (lkI z.kd it)) && (p.slots.all (fun i => !l.contains i) && subO xo (mkO O.length l)) then loopW (ownSs z.kd k (mkO O.length l) xo b (mkO O.length l)) (mkO O.length l) else .no) ≠ .no := hw
  by_cases hc : (subO (mkO O.length l) (rmO O (lkI z.kd it)) && (p.slots.all (fun i => !l.contains i) && subO xo (mkO O.length l))) = true
  · have ew : ownS z.kd k lo xo (.forr p it l b) O = loopW (ownSs z.kd k (mkO O.length l) xo b (mkO O.length l)) (mkO O.length l) := by
      show (if subO (mkO O.length l) (rmO O (lkI z.kd it)) && (p.slots.all (fun i => !l.contains i) && subO xo (mkO O.length l)) then loopW (ownSs z.kd k (mkO O.length l) xo b (mkO O.length l)) (mkO O.length l) else .no) = _
      rw [if_pos hc]
    rw [if_pos hc] at hw
    obtain ⟨n1, n2, n3⟩ := loop_ok hw
    rw [n2] at ew
    simp only [Bool.and_eq_true] at hc
    obtain ⟨c1, c2, c3⟩ := hc
    have hfr : fr (mkO O.length l) p.slots := fun i hi => by
      cases hq : own (mkO O.length l) i with
      | false => rfl
      | true =>
        have := mk_own hq
        rw [List.all_eq_true] at c2
        have h2 := c2 i hi
        rw [this] at h2
        cases h2
    replace h := ms_forr h
    split at h
    · rename_i tg ie xs pos
      simp only [Bool.and_eq_true] at h
      obtain ⟨⟨h1, h2⟩, h3⟩ := h
      have Ai := allI it F.toXF h1 (rmO_fr O (lkI z.kd it))
      refine PSof (ps_for F.po F.calm Ai.pi (pg_P F.toXF h2) (hb (U := U) F h3 n1) Ai.fs) ?_
      rintro D σ H ⟨S, st, R, q⟩
      rw [ew] at q
      have q : KtO ρ k lo xo (.at (mkO O.length l)) D S ((evI T it st).bindO st fun ds => forL (bindP p) (evSs T U b) ds st) := q
      obtain ⟨S1, e1, R1⟩ := R.rm (lkI z.kd it)
      refine ⟨S1, st, R1, ?_⟩
      replace q := KtO.mono q e1
      cases e : evI T it st with
      | er c fs =>
        rw [e] at q
        intro S' H' dx e2 x2 R2 xr
        obtain ⟨S3, e3, R3⟩ := R2.narrow (O1 := xo) (fun i hi => sub_own c1 (sub_own c3 hi))
        refine q S3 σ H' dx (e2.trans e3) R3 ?_
        cases dx with
        | none => exact xr
        | some d => obtain ⟨vs, h1, h2⟩ := xr; exact ⟨vs, h1, h2.mono e3⟩
      | bad => rw [e] at q; exact q.elim
      | ok ds =>
        rw [e] at q
        intro S' J H' e2 x2 R2 wk
        have q : KtO ρ k lo xo (.at (mkO O.length l)) D S1 (forL (bindP p) (evSs T U b) ds st) := q
        obtain ⟨G, Y, wa, hG, hY⟩ := wk
        obtain ⟨S3, e3, R3⟩ := R2.sub c1
        refine for_it wa (fun i σ H => ∃ S4 st4, Ext S3 S4 ∧ Rel ρ.C ρ.B ρ.S0 S4 (mkO O.length l) st4 σ H ∧ KtO ρ k lo xo (.at (mkO O.length l)) D S4 (forL (bindP p) (evSs T U b) (ds.drop i) st4)) ?_ ?_ ?_ ?_
        · exact ⟨S3, st, Ext.rfl' _, R3, KtO.mono q (e2.trans e3)⟩
        · rintro i σ H _ ⟨S4, st4, e4, R4, _⟩
          exact hG S4 H (e3.trans e4) R4.sh
        · rintro i v σ4 H4 H4' hi ⟨S4, st4, e4, R4, q4⟩ yv
          obtain ⟨d, S5, g1, g2, g3, R5, rv⟩ := hY _ _ S4 st4 σ4 H4 i v H4' (e3.trans e4) R4 yv
          have hdrop : ds.drop i = d :: ds.drop (i + 1) := by
            have hlt : i < ds.length := hi
            rw [List.drop_eq_getElem_cons hlt]
            rw [List.getElem?_eq_getElem hlt] at g1
            cases g1; rfl
          rw [hdrop] at q4
          have q4 : KtO ρ k lo xo (.at (mkO O.length l)) D S4 (match bindP p d st4 with
            | none => .bad
            | some st1 => match evSs T U b st1 with
              | .nx st' => forL (bindP p) (evSs T U b) (ds.drop (i + 1)) st'
              | .ct st' => forL (bindP p) (evSs T U b) (ds.drop (i + 1)) st'
              | .bk st' => .nx st'
              | .rt d => .rt d
              | .er c fs st' => .er c fs st'
              | .bad => .bad) := q4
          rw [F.K]
          cases hb2 : bindP p d st4 with
          | none => rw [hb2] at q4; exact q4.elim
          | some st1 =>
            rw [hb2] at q4
            refine bindP_r R5 rv hb2 hfr fun σ1 _ _ R6 => ⟨S5, st1, R6, ?_⟩
            exact body_ok n3 (fun e => tns_all b _ _ e) n1 (KtO.mono q4 g2) fun st' S' σ' H' e R' q' => ⟨S', st', e4.trans (g2.trans e), R', q'⟩
        · rintro σ4 H4 ⟨S4, st4, e4, R4, q4⟩
          rw [List.drop_length] at q4
          exact q4 S4 σ4 H4 (Ext.rfl' _) R4
    · cases h
  · rw [if_neg hc] at hw; exact absurd rfl hw
/-! ### two items of a list at once -/
theorem KtO.cont {e : E} {f : DL.D → DL.O} (hx : ∀ i, own xo i = true → own O i = true) {P : Pv} {K : VK} (R : Rel ρ.C ρ.B ρ.S0 S O st σ H) (q : KtO ρ k lo xo w D S ((evE T e st).bindO st f))
    (go : ∀ S' v H' d, Ext S S' → Rel ρ.C ρ.B ρ.S0 S' O st σ H' → P st σ S' H' v d → KtO ρ k lo xo w D S' (f d) → K v H') : tG ρ T O e P σ H K := stm_r R hx q go
theorem own_put {i : Nat} {d : DL.D} (h : own O i = true) (hd : st[i]? = some (some d)) {d' : DL.D} : (st.set i (some d'))[i]? = some (some d') := List.getElem?_set_self (List.getElem?_eq_some_iff.mp hd).1
theorem ss_swp (i : Nat) (a b c d : E) : SSt (.swp i a b c d) := fun {z ρ T U kk X O stm cf k lo xo} F h hw => by
  have hw : gdi xo O (lk z.kd c ++ lk z.kd d ++ lk z.kd a ++ lk z.kd b) i ≠ .no := hw
  obtain ⟨h1, h2, h3⟩ := gdi_ok hw
  replace h := ms_swp h
  split at h
  · rename_i nm py ix tp nm2 py2 ix2 tp2 j tp3 v w j2 tp4 pos
    simp only [Bool.and_eq_true] at h
    obtain ⟨⟨⟨⟨⟨⟨⟨h4, h4'⟩, h5⟩, h6⟩, h7⟩, h8⟩, h9⟩, h10⟩ := h
    have hN : nm = nm2 := by
      have e1 : z.N[i]? = some nm := of_decide_eq_true h4
      have e2 : z.N[i]? = some nm2 := of_decide_eq_true h4'
      rw [e1] at e2; cases e2; rfl
    subst hN
    have fO := rmO_fr O (lk z.kd c ++ lk z.kd d ++ lk z.kd a ++ lk z.kd b)
    have hss : swapsWithSole [.Tuple [.Subscript (.Name nm py) ix tp, .Subscript (.Name nm py2) ix2 tp2] j tp3] (.Tuple [v, w] j2 tp4) pos.line X.env = pure false := rfl
    have hws : swappedStores [.Tuple [.Subscript (.Name nm py) ix tp, .Subscript (.Name nm py2) ix2 tp2] j tp3] (.Tuple [v, w] j2 tp4) X.env = pure none := by
      unfold swappedStores
      show (if _ then _ else if _ then _ else _) = _
      split
      · rfl
      · split
        · rfl
        · rfl
    have gs : ∀ {ix' : Expr} {pp qq : Pos} {e : E}, mE z e ix' = true → fr (rmO O (lk z.kd c ++ lk z.kd d ++ lk z.kd a ++ lk z.kd b)) (lk z.kd e) → PG X (.Subscript (.Name nm pp) ix' qq) (gSub (tVar i) (tG ρ T (rmO O (lk z.kd c ++ lk z.kd d ++ lk z.kd a ++ lk z.kd b)) e (pF ρ.C)) rSetL) := fun {ix' pp qq e} hm hf => by
      refine pg_sub (slot_name F.toXF h4 h5 h6) (repE F.toXF hm hf) set_list ?_
      intro v; cases ix' <;> first | rfl | (exact (mE_slice hm).elim)
    have pgs : PGs X [.Subscript (.Name nm py) ix tp, .Subscript (.Name nm py2) ix2 tp2] (gCons (gSub (tVar i) (tG ρ T (rmO O (lk z.kd c ++ lk z.kd d ++ lk z.kd a ++ lk z.kd b)) a (pF ρ.C)) rSetL) (gCons (gSub (tVar i) (tG ρ T (rmO O (lk z.kd c ++ lk z.kd d ++ lk z.kd a ++ lk z.kd b)) b (pF ρ.C)) rSetL) gNil)) :=
      pgs_cons (gs h9 fO.app.1.app.2) (pgs_cons (gs h10 fO.app.2) pgs_nil)
    refine PSof (ps_asg (pe_tup (ps_args F.toXF h7 h8 fO.app.1.app.1)) (pg_tup (n := 2) F.calm pgs rfl rfl) hss hws rfl) ?_
    rintro D σ H ⟨S, st, R, q⟩
    obtain ⟨S1, e1, R1⟩ := R.rm (lk z.kd c ++ lk z.kd d ++ lk z.kd a ++ lk z.kd b)
    have ew : ownS z.kd k lo xo (.swp i a b c d) O = .at (rmO O (lk z.kd c ++ lk z.kd d ++ lk z.kd a ++ lk z.kd b)) := h3
    rw [ew] at q
    refine stm_r (P := pF ρ.C) R1 h1 (KtO.mono q e1) fun S2 v1 H2 d1 e2 R2 p1 q => ?_
    refine stm_r (P := pF ρ.C) R2 h1 q fun S3 v2 H3 d2 e3 R3 p2 q => ?_
    refine ⟨by show 2 ≤ sizeLine; decide, fun A hA => ?_⟩
    have R4 := R3.laid (o := .tup [v1, v2]) hA
    have ns := R3.sh.none hA
    have e4 : Ext S3 (upd S3 A (.tup [v1, v2])) := Ext.new ns
    refine ⟨A, [v1, v2], rfl, .inl (.inl upd_same), rfl, v1, [v2], rfl, ?_⟩
    have q : KtO ρ k lo xo (.at (rmO O (lk z.kd c ++ lk z.kd d ++ lk z.kd a ++ lk z.kd b))) D S3 (match st[i]? with
      | some (some (.lst xs)) => (evE T a st).bindO st fun k => (match k with
        | .int k => (match placeOf xs.length k with
          | some j => (evE T b (st.set i (some (.lst (xs.set j d1))))).bindO (st.set i (some (.lst (xs.set j d1)))) fun l => (match l with
            | .int l => (match placeOf (xs.set j d1).length l with
              | some m => .nx (st.set i (some (.lst ((xs.set j d1).set m d2))))
              | none => .bad)
            | _ => .bad)
          | none => .bad)
        | _ => .bad)
      | _ => .bad) := q
    split at q
    · rename_i xs hst
      obtain ⟨l, hl, _⟩ := R4.mine h2 hst rfl
      refine ⟨_, hl, ?_⟩
      refine stm_r (P := pF ρ.C) R4 h1 (KtO.mono q e4) fun S5 u H5 d5 e5 R5 p5 q => ?_
      cases d5 with
      | int kx =>
        cases Rep.int' p5
        obtain ⟨l', hl', al⟩ := R5.mine h2 hst rfl
        rw [hl] at hl'; cases hl'
        obtain ⟨a1, a2, vs, a3, a4⟩ := al
        have q : KtO ρ k lo xo (.at (rmO O (lk z.kd c ++ lk z.kd d ++ lk z.kd a ++ lk z.kd b))) D S5 (match placeOf xs.length kx with
          | some j => (evE T b (st.set i (some (.lst (xs.set j d1))))).bindO (st.set i (some (.lst (xs.set j d1)))) fun l => (match l with
            | .int l => (match placeOf (xs.set j d1).length l with
              | some m => .nx (st.set i (some (.lst ((xs.set j d1).set m d2))))
              | none => .bad)
            | _ => .bad)
          | none => .bad) := q
        split at q
        · rename_i j hj
          refine ⟨l, vs, kx, j, rfl, rfl, a3, by rw [a4.length]; exact hj, v2, [], rfl, ?_⟩
          have ry : Rep ρ.C S5 v1 d1 := Rep.mono (e3.trans (e4.trans e5)) p1
          have R6 := R5.change (o := .lst (vs.set j v1)) (d' := .lst (xs.set j d1)) h2 hst rfl hl ⟨_, rfl, a4.set ry j⟩
          have hst6 : (st.set i (some (.lst (xs.set j d1))))[i]? = some (some (.lst (xs.set j d1))) := own_put h2 hst
          refine ⟨_, hl, ?_⟩
          refine stm_r (P := pF ρ.C) R6 h1 q fun S7 u7 H7 d7 e7 R7 p7 q => ?_
          cases d7 with
          | int lx =>
            cases Rep.int' p7
            obtain ⟨l', hl', al⟩ := R7.mine h2 hst6 rfl
            rw [hl] at hl'; cases hl'
            obtain ⟨b1, b2, ws, b3, b4⟩ := al
            have q : KtO ρ k lo xo (.at (rmO O (lk z.kd c ++ lk z.kd d ++ lk z.kd a ++ lk z.kd b))) D S7 (match placeOf (xs.set j d1).length lx with
              | some m => .nx (st.set i (some (.lst ((xs.set j d1).set m d2))))
              | none => .bad) := q
            split at q
            · rename_i m hm
              refine ⟨l, ws, lx, m, rfl, rfl, b3, by rw [b4.length]; exact hm, rfl, ?_⟩
              have ry2 : Rep ρ.C S7 v2 d2 := Rep.mono (e4.trans (e5.trans e7)) p2
              have R8 := R7.change (o := .lst (ws.set m v2)) (d' := .lst ((xs.set j d1).set m d2)) h2 hst6 rfl hl ⟨_, rfl, b4.set ry2 m⟩
              rw [List.set_set] at R8
              exact q S7 σ _ (Ext.rfl' _) R8
            · exact q.elim
          | _ => exact q.elim
        · exact q.elim
      | _ => exact q.elim
    · exact q.elim
  · cases h
def rGetL : V → V → Hp → VK → Prop := fun o i H Q => ∃ p xs k v, o = .ref p ∧ i = .int k ∧ H p = some (.lst xs) ∧ atI xs k = some v ∧ Q v H
theorem get_list : PGet X rGetL := by
  intro pins s σ H o i ov iv Q I ro ri h
  obtain ⟨p, xs, i, zv, rfl, rfl, hq, he, q⟩ := h
  cases ro
  obtain ⟨t, rfl⟩ := ri
  obtain ⟨its, r, pl, hz⟩ := I.list (.inl (.inl hq))
  obtain ⟨j, h1, h2, h3, h4, h5⟩ := atI_get he
  obtain ⟨w, ew, rw'⟩ := r.get h2
  have hl := r.length
  have hn := line63
  have fin : EP X pins σ Q w s := ⟨zv, H, I, rw', q⟩
  by_cases h0 : 0 ≤ i
  · have hj : i.toNat = j := by
      rw [seqIndex_of h0 h5] at h1
      exact Option.some.inj h1
    exact wpAny_getItem_list pl.isList h0 (by omega) (by rw [hj]; simpa using ew) fin
  · have hj : (i + (its.toArray.size : Int)).toNat = j := by
      rw [seqIndex_neg (by omega) h4] at h1
      rw [List.size_toArray, ← hl]
      exact Option.some.inj h1
    exact wpAny_getItem_list_neg (Q := fun r s' => EP X pins σ Q r s') pl.isList (by omega) (by rw [List.size_toArray] <;> omega) (by omega) (by rw [hj]; simpa using ew) fin
theorem ss_augi (i : Nat) (a : E) (o : BO) (e : E) : SSt (.augi i a o e) := fun {z ρ T U kk X O stm cf k lo xo} F h hw => by
  have hw : gdi xo O (lk z.kd a ++ lk z.kd e) i ≠ .no := hw
  obtain ⟨h1, h2, h3⟩ := gdi_ok hw
  replace h := ms_augi h
  split at h
  · rename_i nm py ix tp p v pos
    simp only [Bool.and_eq_true] at h
    obtain ⟨⟨⟨⟨⟨h4, h5⟩, h6⟩, h7⟩, h8⟩, h9⟩ := h
    have fO := rmO_fr O (lk z.kd a ++ lk z.kd e)
    refine PSof (ps_augS (slot_name F.toXF h4 h5 h6) (repE F.toXF h8 fO.app.1) get_list (repE F.toXF h9 fO.app.2) (ip_A h7) set_list ?_) ?_
    · intro ov iv new; cases ix <;> first | rfl | (exact (mE_slice h8).elim)
    rintro D σ H ⟨S, st, R, q⟩
    obtain ⟨S1, e1, R1⟩ := R.rm (lk z.kd a ++ lk z.kd e)
    have ew : ownS z.kd k lo xo (.augi i a o e) O = .at (rmO O (lk z.kd a ++ lk z.kd e)) := h3
    rw [ew] at q
    replace q : KtO ρ k lo xo (.at (rmO O (lk z.kd a ++ lk z.kd e))) D S (match (generalizing := false) st[i]? with
      | some (some (.lst xs)) => (evE T a st).bindO st fun y => (match (generalizing := false) y with
        | .int k => (match (generalizing := false) placeOf xs.length k with
          | some j => (match (generalizing := false) xs[j]? with
            | some (.int a) => (evE T e st).bindO st fun z => (match (generalizing := false) o, z with
              | .add, .int b => .nx (st.set i (some (.lst (xs.set j (.int (a + b))))))
              | _, _ => .bad)
            | _ => .bad)
          | none => .bad)
        | _ => .bad)
      | _ => .bad) := q
    split at q
    · rename_i xs hst
      obtain ⟨l, hl, _⟩ := R1.mine h2 hst rfl
      refine ⟨_, hl, ?_⟩
      refine stm_r (P := pF ρ.C) R1 h1 (KtO.mono q e1) fun S5 u H5 d5 e5 R5 p5 q5 => ?_
      clear q
      split at q5
      · rename_i kx
        cases Rep.int' p5
        obtain ⟨l', hl', al⟩ := R5.mine h2 hst rfl
        rw [hl] at hl'; cases hl'
        obtain ⟨a1, a2, vs, a3, a4⟩ := al
        split at q5
        · rename_i j hj
          split at q5
          · rename_i n hn
            obtain ⟨vn, hvn, rn⟩ := a4.get' hn
            cases Rep.int' rn
            have hat : atI vs kx = some (.int n) := by
              unfold atI
              rw [a4.length]
              have : ixN xs.length kx = some j := hj
              rw [this]
              exact hvn
            refine ⟨l, vs, kx, .int n, rfl, rfl, a3, hat, ?_⟩
            refine stm_r (P := pF ρ.C) R5 h1 q5 fun S7 u7 H7 d7 e7 R7 p7 q7 => ?_
            clear q5
            split at q7
            · rename_i bn
              cases Rep.int' p7
              obtain ⟨l', hl', al⟩ := R7.mine h2 hst rfl
              rw [hl] at hl'; cases hl'
              obtain ⟨b1, b2, ws, b3, b4⟩ := al
              refine ⟨n, bn, rfl, rfl, l, ws, kx, j, rfl, rfl, b3, by rw [b4.length]; exact hj, ?_⟩
              exact q7 S7 σ _ (Ext.rfl' _) (R7.change h2 hst rfl hl ⟨_, rfl, b4.set (.int _) j⟩)
            · exact q7.elim
          · exact q5.elim
        · exact q5.elim
      · exact q5.elim
    · exact q.elim
  · cases h
end DL
end

section
set_option linter.all false
set_option maxRecDepth 100000
set_option maxHeartbeats 1000000
set_option Elab.async false
/-! DLsf: try with simple handlers; every statement. -/
namespace DL
open PySem PySem.Spec PyProof.Rows L2
variable {z : Zx} {ρ : Rn} {T : Tb} {U : Up} {kk : Nat} {X : Cx} {O O1 O2 : Own} {x y tg : Expr} {m a b c e : E} {es : Es} {σ σ' : L2.St} {H : Hp} {S S0 B : Hp} {st st' : St} {C : Cn} {A l : Addr} {o o' : HO} {k : Nat} {lo xo : Own} {w : Wn} {D : Ends}

/-! ### in a handler -/
structure XF0 (z : Zx) (X : Cx) : Prop where
  N : X.N = z.N
  nd : z.N.Nodup
  sc : X.env.scope = z.sc
  hot : ∀ x, z.sc.names.lookup x = some .cell → z.hot x = true → X.fn x = true
theorem XF.f0 (F : XF z ρ T kk X) (a : Addr) (pn : List (Addr × Obj)) : XF0 z (X.suite a pn) := ⟨F.N, F.nd, F.sc, F.hot⟩
theorem XF0.vis (F : XF0 z X) {x : Str} (h : isVis z x = true) : Vis X.env.scope x := by
  unfold Vis
  rw [F.sc]
  unfold isVis at h
  split at h
  · exact .inl (by assumption)
  · exact .inr (.inl (by assumption))
  · exact .inr (.inr (by assumption))
  · cases h
theorem XF0.loc (F : XF0 z X) {x : Str} (h : isLoc z x = true) : L2.Loc X.env.scope x ∧ (X.fn x = true ∨ X.env.scope.names.lookup x = some .local) := by
  unfold L2.Loc
  rw [F.sc]
  unfold isLoc at h
  split at h
  · rename_i e; exact ⟨.inl e, .inr e⟩
  · rename_i e; exact ⟨.inr e, .inl (F.hot x e h)⟩
  · cases h
theorem XF0.slot (F : XF0 z X) {i : Nat} {x : Str} (h : slotIs z i x = true) : X.N[i]? = some x := by
  rw [F.N]; exact of_decide_eq_true h
theorem simp_pe (F : XF0 z X) (hs : simpE e = true) (hm : mE z e x = true) (hf : fr O (lk z.kd e)) : PE X x (tG ρ T O e (pX ρ.C ρ.B O (fresh z.kd e))) ∧ ∀ t n, swapsWith x (some t) n X.env = pure false := by
  cases e with
  | non =>
    obtain ⟨j, p, rfl⟩ := inv_non hm
    exact ⟨PEof (t' := tC .non) ⟨fun _ _ _ H _ I h => Constant_none ⟨.non, H, I, rfl, h⟩⟩ fun σ H Q q => const_r (fun st => rfl) rfl (fun S => .non) q, fun _ _ => rfl⟩
  | bl b =>
    obtain ⟨j, p, rfl⟩ := inv_bl hm
    exact ⟨PEof (t' := tC (.bl b)) ⟨fun _ _ _ H _ I h => Constant_bool ⟨.bl b, H, I, rfl, h⟩⟩ fun σ H Q q => const_r (fun st => rfl) rfl (fun S => .bl b) q, fun _ _ => rfl⟩
  | int i =>
    obtain ⟨j, p, rfl⟩ := inv_int hm
    exact ⟨PEof pe_int fun σ H Q q => const_r (fun st => rfl) rfl (fun S => .int i) q, fun _ _ => rfl⟩
  | str s =>
    obtain ⟨j, p, rfl⟩ := inv_str hm
    exact ⟨PEof pe_str fun σ H Q q => const_r (fun st => rfl) rfl (fun S => .str _) q, fun _ _ => rfl⟩
  | var i =>
    obtain ⟨n, p, rfl, h1, h2, h3⟩ := inv_var hm
    refine ⟨PEof (pe_var (F.slot h1) (F.vis h2) (plainN_d h3).1 (plainN_d h3).2) fun σ H Q ⟨S, st, R, q⟩ => ?_, fun _ _ => rfl⟩
    have q : Kt ρ O st σ (pX ρ.C ρ.B O false) S H Q (match st[i]? with | some (some d) => .ok d | _ => .bad) := q
    split at q
    · rename_i d e
      obtain ⟨v, hv, hs⟩ := R.slot i d e
      have ho : own O i = false := hf i (by show i ∈ [i]; simp)
      rw [ho] at hs
      refine ⟨v, hv, q S v H (Ext.rfl' S) (Ext.rfl' H) R (RepX.still ?_)⟩
      rcases hs with ⟨z, _⟩ | ⟨_, r⟩
      · cases z
      · exact r
    · exact q.elim
  | _ => cases hs
/-- a simple expression raises nothing -/
theorem simp_ps (F : XF0 z X) {s : DL.S} {t : Stmt} {cf : Bool} (hs : simpS s = true) (hm : mS z cf s t = true) (hw : ownS z.kd k lo xo s O ≠ .no) : PS X t (tS z ρ T U k lo xo s O) := by
  cases s with
  | pas =>
    replace hm := ms_pas hm
    split at hm
    · refine PSof ps_pass ?_
      rintro D σ H ⟨S, st, R, q⟩
      exact q S σ H (Ext.rfl' _) R
    · cases hm
  | brk =>
    have hw : (if subO lo O then Wn.top else .no) ≠ .no := hw
    replace hm := ms_brk hm
    split at hm
    · refine PSof ps_break ?_
      rintro D σ H ⟨S, st, R, q⟩
      by_cases hs : subO lo O = true
      · obtain ⟨S1, e1, R1⟩ := R.sub hs
        exact q S1 σ H e1 R1
      · rw [if_neg hs] at hw; exact absurd rfl hw
    · cases hm
  | cnt =>
    have hw : (if subO lo O then Wn.top else .no) ≠ .no := hw
    replace hm := ms_cnt hm
    split at hm
    · refine PSof ps_continue ?_
      rintro D σ H ⟨S, st, R, q⟩
      by_cases hs : subO lo O = true
      · obtain ⟨S1, e1, R1⟩ := R.sub hs
        exact q S1 σ H e1 R1
      · rw [if_neg hs] at hw; exact absurd rfl hw
    · cases hm
  | ret e =>
    replace hs : simpE e = true := hs
    replace hw : (if k == 1 then (match (generalizing := false) e with
        | .var i => if ownB O i then gd xo O [] fun _ => .top else .no
        | _ => if fresh z.kd e then gd xo O (lk z.kd e) fun _ => .top else .no) else gd xo O (lk z.kd e) fun _ => .top) ≠ .no := hw
    have main : ∀ {f : Bool} {v : Expr} {pos : Pos}, f = (k == 1) → (∀ i, own xo i = true → own (rmO O (lk z.kd e)) i = true) → PE X v (tG ρ T (rmO O (lk z.kd e)) e (pX ρ.C ρ.B (rmO O (lk z.kd e)) f)) → PS X (.Return (some v) pos) (tS z ρ T U k lo xo (.ret e) O) := by
      intro f v pos hf h1 hp
      refine PSof (ps_ret hp) ?_
      rintro D σ H ⟨S, st, R, q⟩
      obtain ⟨S1, e1, R1⟩ := R.rm (lk z.kd e)
      exact ret_r hf (fun _ _ _ _ _ _ p => p.1) R1 h1 (KtO.mono q e1)
    replace hm := ms_ret hm
    split at hm
    · rename_i v pos
      by_cases hk : k = 1
      · have hk1 : (k == 1) = true := beq_iff_eq.mpr hk
        rw [if_pos hk1] at hw
        split at hw
        · rename_i i
          by_cases ho : ownB O i = true
          · rw [if_pos ho] at hw
            obtain ⟨h1, _, _⟩ := gd_ok hw
            obtain ⟨n, p, rfl, h3, h4, h5⟩ := inv_var hm
            refine PSof (ps_ret (pe_var (F.slot h3) (F.vis h4) (plainN_d h5).1 (plainN_d h5).2)) ?_
            rintro D σ H ⟨S, st, R, q⟩
            have q : KtO ρ k lo xo _ D S (((match st[i]? with | some (some d) => .ok d | _ => .bad : DL.R)).bindO st fun d => .rt d) := q
            split at q
            · rename_i d hd
              obtain ⟨v, hv, hs⟩ := R.slot i d hd
              have ho' : own O i = true := ho
              rw [ho'] at hs
              refine ⟨v, hv, q S v H (Ext.rfl' _) R.r ?_⟩
              rw [hk1]; exact hs
            · exact q.elim
          · rw [if_neg ho] at hw; exact absurd rfl hw
        · by_cases hfr : fresh z.kd e = true
          · rw [if_pos hfr] at hw
            obtain ⟨h1, _, _⟩ := gd_ok hw
            have := (simp_pe (ρ := ρ) (T := T) F hs hm (rmO_fr O _)).1
            exact main (by rw [hk1, hfr]) h1 this
          · rw [if_neg hfr] at hw; exact absurd rfl hw
      · have hk1 : (k == 1) = false := beq_eq_false_iff_ne.mpr hk
        rw [hk1] at hw
        obtain ⟨h1, _, _⟩ := gd_ok (show gd xo O (lk z.kd e) (fun _ => .top) ≠ .no from hw)
        exact main hk1.symm h1 (PEx (PEf (simp_pe (ρ := ρ) (T := T) F hs hm (rmO_fr O _)).1))
    · have he : e = .non := by cases e <;> first | rfl | cases hm
      subst he
      refine PSof ps_retN ?_
      rintro D σ H ⟨S, st, R, q⟩
      exact q S .non H (Ext.rfl' _) R.r (.inr ⟨fun _ => rfl, .non⟩)
    · cases hm
  | asg i e =>
    have hs : simpE e = true := by
      have hs : (simpE e && _) = true := hs
      rw [Bool.and_eq_true] at hs
      exact hs.1
    have hw : gd xo O (lk z.kd e) (fun O1 => .at (if fresh z.kd e then (rmO O1 [i]).set i true else rmO O1 [i])) ≠ .no := hw
    obtain ⟨h1, h2, _⟩ := gd_ok hw
    replace hm := ms_asg hm
    split at hm
    · rename_i nm py v pos
      simp only [Bool.and_eq_true] at hm
      obtain ⟨⟨h3, h4⟩, h5⟩ := hm
      have hl := F.loc h4
      obtain ⟨p1, p2⟩ := simp_pe (ρ := ρ) (T := T) F hs h5 (rmO_fr O _)
      refine PSof (ps_set (by rw [F.N]; exact F.nd) (F.slot h3) hl.1 p1 (p2 _ _) hl.2) ?_
      rintro D σ H ⟨S, st, R, q⟩
      obtain ⟨S1, e1, R1⟩ := R.rm (lk z.kd e)
      refine stm_r R1 h1 (KtO.mono q e1) (asg_go h2)
    · cases hm
  | _ => cases hs
theorem simp_pss (F : XF0 z X) {cf : Bool} : ∀ {ss : Ss} {ts : List Stmt} {O : Own}, simpSs ss = true → mSs z cf ss ts = true → ownSs z.kd k lo xo ss O ≠ .no → PSs X ts (tSs z ρ T U k lo xo ss O)
  | .nil, [], O, _, _, hw => by
    refine PSsof pss_nil ?_
    rintro D σ H ⟨S, st, R, q⟩
    exact q S σ H (Ext.rfl' _) R
  | .nil, _ :: _, _, _, h, _ => by cases h
  | .cons _ _, [], _, _, h, _ => by cases h
  | .cons s ss, t :: ts, O, hs, h, hw => by
    have hs : (simpS s && simpSs ss) = true := hs
    have h : (mS z cf s t && mSs z cf ss ts) = true := h
    rw [Bool.and_eq_true] at hs h
    exact cons_gen hw (fun n => simp_ps F hs.1 h.1 n) fun O' n => simp_pss F hs.2 h.2 n
/-! ### try -/
theorem XS.tr (F : XS z ρ T U kk X) {W : WX} {pn : List (Addr × Obj)} {xe : Value → Shared → Prop} (tk : Takes (X.tr pn xe) W) (po : PassesOwn (model X.prog X.w) X.A X.env xe) : XS z { ρ with W := W } T U kk (X.tr pn xe) where
  N := F.N
  nd := F.nd
  sc := F.sc
  K := F.K
  calm := F.calm
  hot := F.hot
  room := F.room
  tk := tk
  gf := F.gf
  ux := F.ux
  po := po
  hs := F.hs
  hf := F.hf
/-- the handlers, for the rule -/
def hdL (z : Zx) (ρ : Rn) (T : Tb) (U : Up) (k : Nat) (lo xo : Own) (O : Own) : Hs → List (Value × (Addr → Value → Option Addr → TS))
  | .nil => []
  | .cons c n b hs => (.ref (ρ.C.cx c), fun _ _ _ => tSs z ρ T U k lo xo b O) :: hdL z ρ T U k lo xo O hs
theorem hd_no {c : Nat} {n : Option Nat} {b : Ss} {hs : Hs} (h : ownHs z.kd k lo xo (.cons c n b hs) O ≠ .no) (hn : n.isNone = true) : ownSs z.kd k lo xo b O ≠ .no ∧ ownHs z.kd k lo xo hs O ≠ .no := by
  cases n with
  | some _ => cases hn
  | none =>
    have h : (ownSs z.kd k lo xo b O).meet (ownHs z.kd k lo xo hs O) ≠ .no := h
    exact meet_no h
theorem hds_ok (F : XS z ρ T U kk X) {cf : Bool} : ∀ {hs : Hs} {hds : List ExceptHandler}, mHs z cf hs hds = true → ownHs z.kd k lo xo hs O ≠ .no → HdsOk X hds (hdL z ρ T U k lo xo O hs)
  | .nil, [], _, _ => .nil
  | .nil, _ :: _, h, _ => by cases h
  | .cons c n b hs, [], h, _ => by cases h
  | .cons c n b hs, .ExceptHandler ty nm body pos :: r, h, hw => by
    cases ty with
    | none => cases h
    | some ty =>
      cases ty with
      | Name x p =>
        cases body with
        | nil => cases h
        | cons s ss =>
          have h : (decide (z.clN c = x) && z.okH c && isGl z x && plainN x && n.isNone && nm.isNone && simpSs b && mSs z true b (s :: ss) && mHs z cf hs r) = true := h
          simp only [Bool.and_eq_true, decide_eq_true_eq] at h
          obtain ⟨⟨⟨⟨⟨⟨⟨⟨h1, h2⟩, h3⟩, h4⟩, h5⟩, h6⟩, h7⟩, h8⟩, h9⟩ := h
          obtain ⟨w1, w2⟩ := hd_no hw h5
          cases nm with
          | some _ => cases h6
          | none =>
            have hm := F.gf.hx c h2
            rw [h1] at hm
            exact .cons ⟨F.gl h3, (plainN_d h4).1, .inl hm⟩ (fun a oe cls d pn _ _ => simp_pss (F.toXF.f0 a _) h7 h8 w1) (hds_ok F h9 w2)
      | _ => cases h
theorem meet_as {w0 w1 w2 : Wn} {r : DL.O} (q : KtO ρ k lo xo (w0.meet (w1.meet w2)) D S r) : KtO ρ k lo xo ((w0.meet w1).meet w2) D S r := by
  cases w0 <;> cases w1 <;> cases w2 <;> first | exact q | skip
  rename_i O0 O1 O2
  refine q.wk fun st' _ => ⟨andO (andO O0 O1) O2, andO O0 (andO O1 O2), rfl, rfl, fun i h => ?_⟩
  obtain ⟨h1, h2⟩ := and_own h
  obtain ⟨h3, h4⟩ := and_own h2
  have mk : ∀ {a b : Own}, own a i = true → own b i = true → own (andO a b) i = true := by
    intro a b ha hb
    have hl : i < a.length := by
      unfold own at ha
      rw [List.getD_eq_getElem?_getD] at ha
      by_cases q : i < a.length
      · exact q
      · rw [List.getElem?_eq_none (by omega)] at ha; cases ha
    unfold own andO
    rw [List.getD_eq_getElem?_getD, List.getElem?_map, List.getElem?_range hl]
    show (ownB a i && ownB b i) = true
    have ha' : ownB a i = true := ha
    have hb' : ownB b i = true := hb
    rw [ha', hb']; rfl
  exact mk (mk h1 h3) h4
theorem hds_run (F : XS z ρ T U kk X) {cf : Bool} {c : Nat} {fs : List (Nat × DL.D)} {dx : Option Addr} (hx : ∀ i, own xo i = true → own O i = true) (R : Rel ρ.C ρ.B ρ.S0 S O st σ H) (xr : XRep ρ.C S H dx fs) : ∀ {hs : Hs} {hds : List ExceptHandler} {w0 : Wn},
    mHs z cf hs hds = true → ownHs z.kd k lo xo hs O ≠ .no → w0 ≠ .no → KtO ρ k lo xo (w0.meet (ownHs z.kd k lo xo hs O)) D S (evHs T U hs c fs st) → wMany X.K ρ.W D (hdL z ρ T U k lo xo O hs) (.ref (ρ.C.cx c)) dx σ H
  | .nil, [], w0, _, _, n0, q => by
    have q : KtO ρ k lo xo _ D S (.er c fs st) := q
    obtain ⟨S2, e2, R2⟩ := R.narrow hx
    refine q S2 σ H dx e2 R2 ?_
    cases dx with
    | none => exact xr
    | some d => obtain ⟨vs, h1, h2⟩ := xr; exact ⟨vs, h1, h2.mono e2⟩
  | .nil, _ :: _, _, h, _, _, _ => by cases h
  | .cons c n b hs, [], _, h, _, _, _ => by cases h
  | .cons kc n b hs, .ExceptHandler ty nm body pos :: r, w0, h, hw, n0, q => by
    cases ty with
    | none => cases h
    | some ty =>
      cases ty with
      | Name x p =>
        cases body with
        | nil => cases h
        | cons s ss =>
          have h : (decide (z.clN kc = x) && z.okH kc && isGl z x && plainN x && n.isNone && nm.isNone && simpSs b && mSs z true b (s :: ss) && mHs z cf hs r) = true := h
          simp only [Bool.and_eq_true, decide_eq_true_eq] at h
          obtain ⟨⟨⟨⟨⟨⟨⟨⟨h1, h2⟩, h3⟩, h4⟩, h5⟩, h6⟩, h7⟩, h8⟩, h9⟩ := h
          obtain ⟨w1, w2⟩ := hd_no hw h5
          cases n with
          | some _ => cases h5
          | none =>
            have eo : ownHs z.kd k lo xo (.cons kc none b hs) O = (ownSs z.kd k lo xo b O).meet (ownHs z.kd k lo xo hs O) := rfl
            rw [eo] at q
            have q : KtO ρ k lo xo (w0.meet ((ownSs z.kd k lo xo b O).meet (ownHs z.kd k lo xo hs O))) D S (match U.sub c kc with
              | true => evSs T U b st
              | false => evHs T U hs c fs st) := q
            have hu := F.ux c kc h2
            rw [← F.K] at hu
            refine ⟨U.sub c kc, hu, fun hb => ?_, fun hb => ?_⟩
            · rw [hb] at q
              intro a ha
              have q : KtO ρ k lo xo (w0.meet ((ownSs z.kd k lo xo b O).meet (ownHs z.kd k lo xo hs O))) D S (evSs T U b st) := q
              have n2 : (ownSs z.kd k lo xo b O).meet (ownHs z.kd k lo xo hs O) ≠ .no := hw
              have q2 := meetR q n0 n2 (fun e => tns_all b _ _ (meet_top e).1)
              exact ⟨S, st, R, meetL q2 w1 w2 (fun e => tns_all b _ _ e)⟩
            · rw [hb] at q
              have q : KtO ρ k lo xo (w0.meet ((ownSs z.kd k lo xo b O).meet (ownHs z.kd k lo xo hs O))) D S (evHs T U hs c fs st) := q
              exact hds_run F hx R xr h9 w2 (w0 := w0.meet (ownSs z.kd k lo xo b O)) (by
                revert n0 w1
                cases w0 <;> cases ownSs z.kd k lo xo b O <;> intro n0 w1 <;> first | exact absurd rfl n0 | exact absurd rfl w1 | (intro e; cases e)) (meet_as q)
      | _ => cases h
theorem ss_tri {l : List Nat} {b : Ss} {hs : Hs} (hb : SSs b) : SSt (.tri l b hs) := fun {z ρ T U kk X O stm cf k lo xo} F h hw => by
  have hw : (if subO (mkO O.length l) O && subO xo (mkO O.length l) then (ownSs z.kd k lo (mkO O.length l) b O).meet (ownHs z.kd k lo xo hs (mkO O.length l)) else .no) ≠ .no := hw
  by_cases hc : (subO (mkO O.length l) O && subO xo (mkO O.length l)) = true
  · have ew : ownS z.kd k lo xo (.tri l b hs) O = (ownSs z.kd k lo (mkO O.length l) b O).meet (ownHs z.kd k lo xo hs (mkO O.length l)) := by
      show (if subO (mkO O.length l) O && subO xo (mkO O.length l) then (ownSs z.kd k lo (mkO O.length l) b O).meet (ownHs z.kd k lo xo hs (mkO O.length l)) else .no) = _
      rw [if_pos hc]
    rw [if_pos hc] at hw
    obtain ⟨n1, n2⟩ := meet_no hw
    rw [Bool.and_eq_true] at hc
    obtain ⟨c1, c2⟩ := hc
    replace h := ms_tri h
    split at h
    · rename_i xs hds pos
      cases hds with
      | nil => simp at h
      | cons h0 hds =>
        have h : (mSs z cf b xs && mHs z cf hs (h0 :: hds) && true) = true := h
        simp only [Bool.and_eq_true] at h
        obtain ⟨⟨h1, h2⟩, _⟩ := h
        refine PSof (ps_try_many F.hs F.hf F.tk (fun W pn xe tk po => hb (U := U) (XS.tr F tk po) h1 n1) (hds_ok F h2 n2)) ?_
        rintro D σ H ⟨S, st, R, q⟩
        rw [ew] at q
        refine ⟨S, st, R, ?_⟩
        have q : KtO ρ k lo xo ((ownSs z.kd k lo (mkO O.length l) b O).meet (ownHs z.kd k lo xo hs (mkO O.length l))) D S (match (generalizing := false) evSs T U b st with
          | .er c fs st' => evHs T U hs c fs st'
          | o => o) := q
        have ht := tns_all (z := z.kd) (k := k) (lo := lo) (xo := mkO O.length l) (T := T) (U := U) b O st
        cases e : evSs T U b st with
        | nx st' =>
          rw [e] at q ht
          have := meetL (r := .nx st') q n1 n2 ht
          exact this
        | rt d => rw [e] at q; exact fun S' v H' e r => q S' v H' e ⟨r.bh, r.s0, r.sh, r.nw⟩
        | bk d => rw [e] at q; exact q
        | ct d => rw [e] at q; exact q
        | bad => rw [e] at q; exact q.elim
        | er c fs st' =>
          rw [e] at q
          intro S' σ' H' dx e2 R' xr
          exact hds_run F (fun i => sub_own c2) R' xr h2 n2 n1 (KtO.mono q e2)
    · cases h
  · rw [if_neg hc] at hw; exact absurd rfl hw
theorem ss_rse1 (c : Nat) (e : E) : SSt (.rse1 c e) := fun {z ρ T U kk X O stm cf k lo xo} F h hw => ⟨fun pins s σ H D I ⟨S, st, R, q⟩ => q.elim⟩
theorem allSt (s : DL.S) : SSt s := S.rec (motive_1 := SSt) (motive_2 := SSs) (motive_3 := fun _ => True)
  (fun i e => ss_asg i e) (fun is e => ss_asgT is e) (fun i j a b => ss_par i j a b) (fun i a b c d => ss_swp i a b c d) (fun i a e => ss_sti i a e) (fun i f e => ss_stf i f e) (fun i o e => ss_aug i o e) (fun i a o e => ss_augi i a o e)
  (fun i e => ss_app i e) (fun i e => ss_ext i e) (fun i => ss_pop i) (fun e => ss_exp e) (fun c a b ha hb => ss_ifs ha hb) (fun c l b hb => ss_whl hb) (fun p it l b hb => ss_for hb) (fun e => ss_ret e)
  ss_brk ss_cnt ss_pas (fun c => ss_rse c) (fun c e => ss_rse1 c e) (fun l b hs hb _ => ss_tri hb) sss_nil (fun s ss h1 h2 => sss_cons h1 h2) trivial (fun _ _ _ _ _ _ => trivial) s
theorem allSs : ∀ s : Ss, SSs s
  | .nil => sss_nil
  | .cons s ss => sss_cons (allSt s) (allSs ss)
end DL
end

section
set_option linter.all false
set_option maxRecDepth 100000
set_option maxHeartbeats 1000000
set_option Elab.async false
/-! DLdf: a def keeps its promise. -/
namespace DL
open PySem PySem.Spec PyProof.Rows L2
variable {z : Zx} {C : Cn} {T : Tb} {U : Up} {k : Nat} {P : Program} {w : World} {mg : Str → Option Value} {base : Heap}

theorem xs_of {N ps : List Str} {qual : Str} {scope : Scope} {f : Addr} {cd : Value} {A : Around} {outer : List Env} {s : Shared} {H S : Hp} {E : XK} {B : Hp} (G : GF z C T k P w mg base) (ux : ∀ c k, z.okH k = true → PySem.W.exmOne C.K (.ref (C.cx c)) (.ref (C.cx k)) = some (U.sub c k))
    (hS : FnScope N ps scope) (hN : z.N = N) (hsc : z.sc = scope) (hr : Room (k + 1) (A.deeper (envOfC qual scope s.heap.objs.size f cd))) :
    XS z ⟨C, B, S, fun cls d _ H => E cls d H⟩ T U k (cxOf (L2.CX P w) P w C.K mg base N qual scope f cd A outer s H E) where
  N := hN.symm
  nd := by rw [hN]; exact hS.nd
  sc := hsc.symm
  K := rfl
  calm := rfl
  hot := fun _ _ _ => rfl
  room := hr
  tk := takes_of rfl rfl rfl rfl
  gf := G
  ux := ux
  po := passes_of rfl
  hs := rfl
  hf := rfl
theorem own_rep (n i : Nat) : own (List.replicate n false) i = false := by
  unfold own
  rw [List.getD_eq_getElem?_getD, List.getElem?_replicate]
  split <;> rfl
theorem startD_get {c : CD} {ds : List D} {i : Nat} {d : D} (h : (startD c ds)[i]? = some (some d)) : ds[i]? = some d := by
  unfold startD at h
  by_cases hi : i < ds.length
  · rw [List.getElem?_append_left (by simpa using hi), List.getElem?_map] at h
    cases e : ds[i]? with
    | none => rw [e] at h; cases h
    | some x => rw [e] at h; cases h; rfl
  · rw [List.getElem?_append_right (by simpa using hi), List.getElem?_replicate] at h
    split at h <;> cases h
theorem start_get {N : List Str} {vs : List V} {i : Nat} {v : V} (h : vs[i]? = some v) : (L2.start N vs)[i]? = some (some v) := by
  unfold L2.start
  have hi : i < vs.length := (List.getElem?_eq_some_iff.mp h).1
  rw [List.getElem?_append_left (by simpa using hi), List.getElem?_map, h]; rfl
theorem start_len {N : List Str} {vs : List V} {c : CD} {ds : List D} (hl : vs.length = ds.length) (hn : c.ns = N.length) : (L2.start N vs).length = (startD c ds).length := by
  unfold L2.start startD
  rw [List.length_append, List.length_append, List.length_map, List.length_map, List.length_replicate, List.length_replicate, hl, hn]
theorem rel_start {S H : Hp} {vs : List V} {ds : List D} {N : List Str} {c : CD} {n : Nat} (e : Ext S H) (r : Reps C S vs ds) (hn : c.ns = N.length) : Rel C H S S (List.replicate n false) (startD c ds) (L2.start N vs) H := by
  refine ⟨Ext.rfl' H, Ext.rfl' S, e, fun a h => .inl h, start_len r.length hn, fun i d hd => ?_, fun i j l hi => ?_⟩
  · obtain ⟨v, hv, rv⟩ := r.get' (startD_get hd)
    exact ⟨v, start_get hv, .inr ⟨fun z => (by rw [own_rep] at z; cases z), rv⟩⟩
  · have := hi.1
    rw [own_rep] at this; cases this
/-- the checks of a def -/
def defC (z : Zx) (c : CD) (ps : List Str) (body : List Stmt) (O0 : List Bool) : Bool :=
  C8.scC z.N ps z.sc && decide (c.ns = z.N.length) && decide (c.np = ps.length) && mSs z false c.body body && (match ownSs z.kd c.kind [] [] c.body O0 with | .no => false | _ => true)
theorem KDof {kd : Nat} {S H : Hp} {Q : VK} {E : XK} {r : R} (h : KD C kd S H Q E (kindD kd r)) : KD C kd S H Q E r := by
  unfold kindD at h
  by_cases hk : kd = 2
  · rw [if_pos hk] at h
    cases r with
    | ok d =>
      by_cases hs : isSc d = true
      · simp only [hs, if_true] at h
        exact h
      · simp only [hs] at h
        exact h.elim
    | er c fs =>
      by_cases hs : fs.all (fun p => isSc p.2) = true
      · simp only [hs, if_true] at h
        exact h
      · simp only [hs] at h
        exact h.elim
    | bad => exact h
  · rw [if_neg hk] at h; exact h
theorem kindD_sc {kd : Nat} {S H : Hp} {Q : VK} {E : XK} {r : R} (h : KD C kd S H Q E (kindD kd r)) (hk : kd = 2) : (∀ d, r = .ok d → isSc d = true) ∧ ∀ c fs, r = .er c fs → scF fs = true := by
  unfold kindD at h
  rw [if_pos hk] at h
  refine ⟨fun d e => ?_, fun c fs e => ?_⟩
  · subst e
    by_cases hs : isSc d = true
    · exact hs
    · simp only [hs] at h; exact h.elim
  · subst e
    by_cases hs : fs.all (fun p => isSc p.2) = true
    · exact hs
    · simp only [hs] at h; exact h.elim
theorem def_ok {c : CD} {x qual : Str} {params : Arguments} {body : List Stmt} {f : Addr} {fd : FuncData} {ps : List Str} {dvs : List V} {kws : List (Str × V)} (F : FunD C.K x qual params body z.sc dvs kws f fd) (G : GF z C T k P w mg base)
    (ux : ∀ c k, z.okH k = true → PySem.W.exmOne C.K (.ref (C.cx c)) (.ref (C.cx k)) = some (U.sub c k)) (hc : defC z c ps body (List.replicate z.N.length false) = true) :
    FnOk P w C.K mg base (L2.CX P w) (k + 2) f fd ps (spD C (evDef T U c) c.kind) := by
  unfold defC at hc
  simp only [Bool.and_eq_true, decide_eq_true_eq] at hc
  obtain ⟨⟨⟨⟨h1, h2⟩, h3⟩, h4⟩, h5⟩ := hc
  have hS := C8.fnScope_by h1
  have ho : ownSs z.kd c.kind [] [] c.body (List.replicate z.N.length false) ≠ .no := fun e => by rw [e] at h5; cases h5
  have hlen : ∀ vs H Q E, spD C (evDef T U c) c.kind vs H Q E → vs.length = ps.length := by
    intro vs H Q E ⟨S, ds, e, r, kd⟩
    rw [r.length, ← h3]
    by_cases hl : ds.length = c.np
    · exact hl
    · unfold evDef at kd
      rw [if_neg hl] at kd
      exact kd.elim
  refine F.ok hS hlen fun cdv A outer s H vs Q E hr hsp => ?_
  obtain ⟨S, ds, e, r, kd⟩ := hsp
  have hl : ds.length = c.np := by
    by_cases hl : ds.length = c.np
    · exact hl
    · unfold evDef at kd
      rw [if_neg hl] at kd
      exact kd.elim
  have XX := xs_of (qual := qual) (f := f) (cd := cdv) (A := A) (outer := outer) (s := s) (H := H) (S := S) (E := E) (B := H) (U := U) G ux hS rfl rfl hr
  refine ⟨_, allSs c.body (U := U) XX h4 ho, S, startD c ds, rel_start e r h2, ?_⟩
  unfold evDef at kd
  rw [if_pos hl] at kd
  have kd1 := KDof kd
  have ks := kindD_sc kd
  have ht := tns_all (z := z.kd) (k := c.kind) (lo := []) (xo := []) (T := T) (U := U) c.body (List.replicate z.N.length false) (startD c ds)
  cases eo : evSs T U c.body (startD c ds) with
  | nx st' =>
    rw [eo] at kd1 ks ht
    cases ew : ownSs z.kd c.kind [] [] c.body (List.replicate z.N.length false) with
    | no => exact absurd ew ho
    | top => exact absurd (ht ew) (by simp [isNx])
    | «at» O' =>
      intro S' σ' H' e1 R
      exact kd1 S' .non H' e1 R.bh R.sh R.nw (.inr ⟨fun _ => rfl, .non⟩) fun _ => rfl
  | rt d =>
    rw [eo] at kd1 ks
    intro S' v H' e1 R sl
    exact kd1 S' v H' e1 R.bh R.sh R.nw sl fun hk => (ks hk).1 d rfl
  | bk st' => rw [eo] at kd1; exact kd1.elim
  | ct st' => rw [eo] at kd1; exact kd1.elim
  | er cc fs st' =>
    rw [eo] at kd1 ks
    intro S' σ' H' dx e1 R xr
    exact kd1 S' H' dx e1 R.bh R.sh R.nw xr fun hk => (ks hk).2 cc fs rfl
  | bad => rw [eo] at kd1; exact kd1.elim
end DL
end

section
set_option linter.all false
set_option maxRecDepth 100000
set_option maxHeartbeats 1000000
set_option Elab.async false
/-! DLin: an __init__ keeps its promise: the slot 0 is the new object from start to end. -/
namespace DL
open PySem PySem.Spec PyProof.Rows L2
variable {z : Zx} {ρ : Rn} {C : Cn} {T : Tb} {U : Up} {k kk : Nat} {P : Program} {w : World} {mg : Str → Option Value} {base : Heap} {X : Cx} {O O1 : Own} {σ : L2.St} {H S : Hp} {st : St} {lo xo : Own} {D : Ends} {wn : Wn} {p0 : Option (Option V)}

/-- only what leaves slot 0 as it was -/
def Df (p0 : Option (Option V)) (D : Ends) : Ends := { D with nx := fun σ H => σ[0]? = p0 → D.nx σ H }
def tF (z : Zx) (ρ : Rn) (T : Tb) (U : Up) (p0 : Option (Option V)) (xo : Own) (m : DL.S) (O : Own) : TS := fun D σ H => σ[0]? = p0 ∧ ∃ S st, Rel ρ.C ρ.B ρ.S0 S O st σ H ∧ KtO ρ 0 [] xo (ownS z.kd 0 [] xo m O) (Df p0 D) S (evS T U m st)
def tFs (z : Zx) (ρ : Rn) (T : Tb) (U : Up) (p0 : Option (Option V)) (xo : Own) (m : Ss) (O : Own) : TS := fun D σ H => σ[0]? = p0 ∧ ∃ S st, Rel ρ.C ρ.B ρ.S0 S O st σ H ∧ KtO ρ 0 [] xo (ownSs z.kd 0 [] xo m O) (Df p0 D) S (evSs T U m st)
/-! what may stand in an __init__ -/
mutual
def iniS : DL.S → Bool
  | .asg i _ => i != 0
  | .asgT is _ => !is.contains 0
  | .stf _ _ _ => true
  | .exp _ => true
  | .ifs _ a b => iniSs a && iniSs b
  | .rse _ => true
  | .rse1 _ _ => true
  | .pas => true
  | _ => false
def iniSs : Ss → Bool
  | .nil => true
  | .cons s ss => iniS s && iniSs ss
end
def FS (s : DL.S) : Prop := iniS s = true → ∀ {z : Zx} {ρ : Rn} {T : Tb} {U : Up} {kk : Nat} {X : Cx} {O : Own} {stm : Stmt} {cf : Bool} {xo : Own} {p0 : Option (Option V)}, XS z ρ T U kk X → mS z cf s stm = true → ownS z.kd 0 [] xo s O ≠ .no → PS X stm (tF z ρ T U p0 xo s O)
def FSs (s : Ss) : Prop := iniSs s = true → ∀ {z : Zx} {ρ : Rn} {T : Tb} {U : Up} {kk : Nat} {X : Cx} {O : Own} {stm : List Stmt} {cf : Bool} {xo : Own} {p0 : Option (Option V)}, XS z ρ T U kk X → mSs z cf s stm = true → ownSs z.kd 0 [] xo s O ≠ .no → PSs X stm (tFs z ρ T U p0 xo s O)

theorem fs_asg (i : Nat) (e : E) : FS (.asg i e) := fun hi {z ρ T U kk X O stm cf xo p0} F h hw => by
  have hi : i ≠ 0 := by
    have hi : (i != 0) = true := hi
    simpa using hi
  have hw : gd xo O (lk z.kd e) (fun O1 => .at (if fresh z.kd e then (rmO O1 [i]).set i true else rmO O1 [i])) ≠ .no := hw
  obtain ⟨h1, h2, _⟩ := gd_ok hw
  replace h := ms_asg h
  split at h
  · rename_i nm py v pos
    simp only [Bool.and_eq_true] at h
    obtain ⟨⟨h3, h4⟩, h5⟩ := h
    have hl := F.loc h4
    have fin : ∀ D σ H, tF z ρ T U p0 xo (.asg i e) O D σ H → tAsg (tG ρ T (rmO O (lk z.kd e)) e (pX ρ.C ρ.B (rmO O (lk z.kd e)) (fresh z.kd e))) (gName i) D σ H := by
      rintro D σ H ⟨hp, S, st, R, q⟩
      obtain ⟨S1, e1, R1⟩ := R.rm (lk z.kd e)
      refine stm_r R1 h1 (KtO.mono q e1) fun S' v H' d e2 R' p q' => ?_
      exact asg_go h2 S' v H' d e2 R' p q' (by rw [List.getElem?_set_ne hi]; exact hp)
    rcases swaps_val (nm := nm) (py := py) (n := pos.line) (env := X.env) h5 with hs | ⟨⟨el, gs, sc, p, rfl⟩, hs, hlo⟩
    · exact PSof (ps_set (by rw [F.N]; exact F.nd) (F.slot h3) hl.1 (allE e F.toXF h5 (rmO_fr O _)).pe hs hl.2) fin
    · obtain ⟨hp, hfr⟩ := lc_set F.toXF h5 (rmO_fr O _) (F.slot h3) hlo hs
      exact PSof hp fun D σ H q => by rw [← hfr]; exact fin D σ H q
  · cases h
theorem fs_asgT (is : List Nat) (e : E) : FS (.asgT is e) := fun hi {z ρ T U kk X O stm cf xo p0} F h hw => by
  have hi : 0 ∉ is := by
    have hi : (!is.contains 0) = true := hi
    simpa using hi
  have hw : gd xo O (lk z.kd e) (fun O1 => .at (rmO O1 is)) ≠ .no := hw
  obtain ⟨h1, h2, _⟩ := gd_ok hw
  replace h := ms_asgT h
  split at h
  · rename_i es j tp v pos
    simp only [Bool.and_eq_true, Bool.not_eq_true'] at h
    obtain ⟨⟨h3, h4⟩, h5⟩ := h
    obtain ⟨i1, i2, i3⟩ := pgs_N F.toXF h3
    have hws : swappedStores [.Tuple es j tp] v X.env = pure none := by
      cases v <;> first | rfl | cases h4
    have hss : swapsWithSole [.Tuple es j tp] v pos.line X.env = pure false := by
      show swapsWith v (some (.Tuple es j tp)) pos.line X.env = pure false
      exact swaps_other h5 (fun _ _ q => nomatch q)
    refine PSof (ps_asg (repE F.toXF h5 (rmO_fr O _)) (pg_tup F.calm i1 i2 i3) hss hws rfl) ?_
    rintro D σ H ⟨hp, S, st, R, q⟩
    obtain ⟨S1, e1, R1⟩ := R.rm (lk z.kd e)
    have ew : ownS z.kd 0 [] xo (.asgT is e) O = .at (rmO (rmO O (lk z.kd e)) is) := h2
    rw [ew] at q
    refine stm_r (P := pF ρ.C) R1 h1 (KtO.mono q e1) fun S' v H' d e2 R' p q => ?_
    rw [F.K]
    cases d with
    | tup ds =>
      have q : KtO ρ 0 [] xo (.at (rmO (rmO O (lk z.kd e)) is)) (Df p0 D) S' (match bindIs is ds st with
        | some st' => .nx st'
        | none => .bad) := q
      cases hb : bindIs is ds st with
      | none => rw [hb] at q; exact q.elim
      | some st2 =>
        rw [hb] at q
        obtain ⟨S2, e3, R2⟩ := R'.rm is
        exact bindP_r (p := .tp is) (d := .tup ds) R2 (Rep.mono e3 p) hb (rmO_fr _ is) fun σ' _ hk R3 => q S2 σ' H' e3 R3 (by rw [hk 0 hi]; exact hp)
    | _ => exact q.elim
  · cases h
theorem fs_stf (i f : Nat) (e : E) : FS (.stf i f e) := fun _ {z ρ T U kk X O stm cf xo p0} F h hw => by
  have hw : gdi xo O (lk z.kd e) i ≠ .no := hw
  obtain ⟨h1, h2, h3⟩ := gdi_ok hw
  replace h := ms_stf h
  split at h
  · rename_i nm py s tp v pos
    simp only [Bool.and_eq_true, decide_eq_true_eq] at h
    obtain ⟨⟨⟨⟨⟨h4, h5⟩, h6⟩, h7⟩, h8⟩, h9⟩ := h
    refine PSof (ps_fld (slot_name F.toXF h4 h5 h6) (repE F.toXF h9 (rmO_fr O _)) (swaps_other h9 (fun _ _ q => nomatch q))) ?_
    rintro D σ H ⟨hp, S, st, R, q⟩
    obtain ⟨S1, e1, R1⟩ := R.rm (lk z.kd e)
    have ew : ownS z.kd 0 [] xo (.stf i f e) O = .at (rmO O (lk z.kd e)) := h3
    rw [ew] at q
    refine stm_r (P := pF ρ.C) R1 h1 (KtO.mono q e1) fun S2 v H2 d e2 R2 pv q => ?_
    have q : KtO ρ 0 [] xo (.at (rmO O (lk z.kd e))) (Df p0 D) S2 (match st[i]? with
      | some (some (.obj c fs)) => if fs.length < 900 then .nx (st.set i (some (.obj c (setField f d fs)))) else .bad
      | _ => .bad) := q
    split at q
    · rename_i c fs hst
      obtain ⟨l, hl, al⟩ := R2.mine h2 hst rfl
      obtain ⟨a1, a2, dx, vs, a3, a4⟩ := al
      by_cases hb : fs.length < 900
      · rw [if_pos hb] at q
        refine ⟨_, hl, l, _, dx, vs, rfl, a3, by rw [F.K]; exact F.gf.cls c, by rw [F.K, ← h7, F.gf.atn]; exact F.gf.fld f h8 c, by rw [a4.length]; omega, ?_⟩
        rw [← h7, F.gf.atn]
        exact q S2 σ _ (Ext.rfl' _) (R2.change h2 hst rfl hl ⟨dx, _, rfl, repF_put F.gf.inj pv a4⟩) hp
      · rw [if_neg hb] at q; exact q.elim
    · exact q.elim
  · cases h
theorem fs_exp (e : E) : FS (.exp e) := fun _ {z ρ T U kk X O stm cf xo p0} F h hw => by
  have hw : gd xo O (lk z.kd e) .at ≠ .no := hw
  obtain ⟨h1, h2, _⟩ := gd_ok hw
  replace h := ms_exp h
  split at h
  · refine PSof (ps_expr (repE F.toXF h (rmO_fr O _)) swaps_none) ?_
    rintro D σ H ⟨hp, S, st, R, q⟩
    obtain ⟨S1, e1, R1⟩ := R.rm (lk z.kd e)
    have ew : ownS z.kd 0 [] xo (.exp e) O = .at (rmO O (lk z.kd e)) := h2
    rw [ew] at q
    exact stm_r (P := pF ρ.C) R1 h1 (KtO.mono q e1) fun S2 v H2 d e2 R2 pv q => q S2 σ H2 (Ext.rfl' _) R2 hp
  · cases h
theorem fs_pas : FS .pas := fun _ {z ρ T U kk X O stm cf xo p0} F h hw => by
  replace h := ms_pas h
  split at h
  · refine PSof ps_pass ?_
    rintro D σ H ⟨hp, S, st, R, q⟩
    exact q S σ H (Ext.rfl' _) R hp
  · cases h
theorem fs_rse (c : Nat) : FS (.rse c) := fun _ {z ρ T U kk X O stm cf xo p0} F h hw => by
  refine PSof (allSt (.rse c) (U := U) F h hw) ?_
  rintro D σ H ⟨hp, S, st, R, q⟩
  refine ⟨S, st, R, ?_⟩
  have q : KtO ρ 0 [] xo _ (Df p0 D) S (.er c [] st) := q
  exact q
theorem fs_rse1 (c : Nat) (e : E) : FS (.rse1 c e) := fun _ {z ρ T U kk X O stm cf xo p0} F h hw => ⟨fun pins s σ H D I ⟨_, S, st, R, q⟩ => q.elim⟩
theorem fss_nil : FSs .nil := fun _ {z ρ T U kk X O stm cf xo p0} F h hw => by
  cases stm with
  | cons _ _ => cases h
  | nil =>
    refine PSsof pss_nil ?_
    rintro D σ H ⟨hp, S, st, R, q⟩
    exact q S σ H (Ext.rfl' _) R hp
theorem fss_cons {s : DL.S} {ss : Ss} (h1 : FS s) (h2 : FSs ss) : FSs (.cons s ss) := fun hi {z ρ T U kk X O stm cf xo p0} F h hw => by
  have hi : (iniS s && iniSs ss) = true := hi
  rw [Bool.and_eq_true] at hi
  cases stm with
  | nil => cases h
  | cons t ts =>
    have h : (mS z cf s t && mSs z cf ss ts) = true := h
    rw [Bool.and_eq_true] at h
    have hw' : seqW (ownS z.kd 0 [] xo s O) (ownSs z.kd 0 [] xo ss) ≠ .no := hw
    have n1 : ownS z.kd 0 [] xo s O ≠ .no := fun e => by rw [e] at hw'; exact hw' rfl
    have P1 := h1 hi.1 (U := U) (p0 := p0) F h.1 n1
    cases e : ownS z.kd 0 [] xo s O with
    | no => exact absurd e n1
    | top =>
      refine ⟨fun pins sh σ H D I ⟨hp, S, st, R, q⟩ => ?_⟩
      have et : ownSs z.kd 0 [] xo (.cons s ss) O = .top := by
        show seqW (ownS z.kd 0 [] xo s O) (ownSs z.kd 0 [] xo ss) = .top
        rw [e]; rfl
      rw [et] at q
      have q : KtO ρ 0 [] xo .top (Df p0 D) S ((evS T U s st).bind fun st' => evSs T U ss st') := q
      have hn := tn_all s (T := T) (U := U) (st := st) e
      have q1 : KtO ρ 0 [] xo (ownS z.kd 0 [] xo s O) (Df p0 { D with nx := fun _ _ => False }) S (evS T U s st) := by
        rw [e]
        cases e1 : evS T U s st with
        | nx st' => rw [e1] at hn; cases hn
        | rt d => rw [e1] at q; exact q
        | bk d => rw [e1] at q; exact q
        | ct d => rw [e1] at q; exact q
        | er c fs st' => rw [e1] at q; exact q
        | bad => rw [e1] at q; exact q
      exact (pss_cons (u := fun _ _ _ => False) P1 ⟨fun _ _ _ _ _ _ f => f.elim⟩).run pins sh σ H D I ⟨hp, S, st, R, q1⟩
    | «at» O' =>
      have n2 : ownSs z.kd 0 [] xo ss O' ≠ .no := fun e2 => by
        rw [e] at hw'
        exact hw' e2
      refine PSsof (pss_cons P1 (h2 hi.2 (U := U) (p0 := p0) F h.2 n2)) ?_
      rintro D σ H ⟨hp, S, st, R, q⟩
      have et : ownSs z.kd 0 [] xo (.cons s ss) O = ownSs z.kd 0 [] xo ss O' := by
        show seqW (ownS z.kd 0 [] xo s O) (ownSs z.kd 0 [] xo ss) = _
        rw [e]; rfl
      rw [et] at q
      refine ⟨hp, S, st, R, ?_⟩
      have q : KtO ρ 0 [] xo (ownSs z.kd 0 [] xo ss O') (Df p0 D) S ((evS T U s st).bind fun st' => evSs T U ss st') := q
      rw [e]
      cases e1 : evS T U s st with
      | nx st' =>
        rw [e1] at q
        exact fun S' σ' H' e2 R' hp' => ⟨hp', S', st', R', KtO.mono q e2⟩
      | rt d => rw [e1] at q; exact q
      | bk d => rw [e1] at q; exact q
      | ct d => rw [e1] at q; exact q
      | er c fs st' => rw [e1] at q; exact q
      | bad => rw [e1] at q; exact q
theorem fs_ifs {c : E} {a b : Ss} (ha : FSs a) (hb : FSs b) : FS (.ifs c a b) := fun hi {z ρ T U kk X O stm cf xo p0} F h hw => by
  have hi : (iniSs a && iniSs b) = true := hi
  rw [Bool.and_eq_true] at hi
  have hw : gd xo O (lk z.kd c) (fun O1 => (ownSs z.kd 0 [] xo a O1).meet (ownSs z.kd 0 [] xo b O1)) ≠ .no := hw
  obtain ⟨h1, h2, h3⟩ := gd_ok hw
  obtain ⟨n1, n2⟩ := meet_no h3
  replace h := ms_ifs h
  split at h
  · rename_i t xs ys pos
    simp only [Bool.and_eq_true] at h
    refine PSof (ps_if (allE c F.toXF h.1.1 (rmO_fr O _)).pt (ha hi.1 (U := U) (p0 := p0) F h.1.2 n1) (hb hi.2 (U := U) (p0 := p0) F h.2 n2)) ?_
    rintro D σ H ⟨hp, S, st, R, q⟩
    obtain ⟨S1, e1, R1⟩ := R.rm (lk z.kd c)
    have ew : ownS z.kd 0 [] xo (.ifs c a b) O = (ownSs z.kd 0 [] xo a (rmO O (lk z.kd c))).meet (ownSs z.kd 0 [] xo b (rmO O (lk z.kd c))) := h2
    rw [ew] at q
    refine stm_t (f := fun x => match x with
      | .bl true => evSs T U a st
      | .bl false => evSs T U b st
      | _ => .bad) (fb := fun v => if v = true then evSs T U a st else evSs T U b st) (fun d => by
        cases d with
        | bl v => cases v <;> rfl
        | _ => rfl) R1 h1 (KtO.mono q e1) fun S2 H2 v e2 R2 q => ?_
    cases v with
    | true => exact ⟨hp, S2, st, R2, meetL q n1 n2 (fun e => tns_all a _ _ e)⟩
    | false => exact ⟨hp, S2, st, R2, meetR q n1 n2 (fun e => tns_all b _ _ e)⟩
  · cases h
theorem allF (s : DL.S) : FS s := S.rec (motive_1 := FS) (motive_2 := FSs) (motive_3 := fun _ => True)
  (fun i e => fs_asg i e) (fun is e => fs_asgT is e) (fun i j a b h => nomatch h) (fun i a b c d h => nomatch h) (fun i a e h => nomatch h) (fun i f e => fs_stf i f e) (fun i o e h => nomatch h) (fun i a o e h => nomatch h)
  (fun i e h => nomatch h) (fun i e h => nomatch h) (fun i h => nomatch h) (fun e => fs_exp e) (fun c a b ha hb => fs_ifs ha hb) (fun c l b hb h => nomatch h) (fun p it l b hb h => nomatch h) (fun e h => nomatch h)
  (fun h => nomatch h) (fun h => nomatch h) fs_pas (fun c => fs_rse c) (fun c e => fs_rse1 c e) (fun l b hs hb _ h => nomatch h) fss_nil (fun s ss h1 h2 => fss_cons h1 h2) trivial (fun _ _ _ _ _ _ => trivial) s
theorem allFs : ∀ s : Ss, FSs s
  | .nil => fss_nil
  | .cons s ss => fss_cons (allF s) (allFs ss)

/-- the checks of an __init__ -/
def iniC (z : Zx) (c : CD) (ps : List Str) (body : List Stmt) : Bool :=
  C8.scC z.N ps z.sc && decide (c.ns = z.N.length) && decide (c.np = ps.length) && iniSs c.body && mSs z false c.body body && (match ownSs z.kd 0 [] [] c.body (true :: List.replicate (z.N.length - 1) false) with | .at O' => ownB O' 0 | _ => false)
theorem own_one (n i : Nat) : own (true :: List.replicate n false) i = decide (i = 0) := by
  cases i with
  | zero => rfl
  | succ i =>
    have : own (true :: List.replicate n false) (i + 1) = own (List.replicate n false) i := rfl
    rw [this, own_rep]; rfl
theorem ini_ok {cn : Nat} {c : CD} {x qual : Str} {params : Arguments} {body : List Stmt} {f : Addr} {fd : FuncData} {ps : List Str} {dvs : List V} {kws : List (Str × V)} (F : FunD C.K x qual params body z.sc dvs kws f fd) (G : GF z C T k P w mg base)
    (ux : ∀ c k, z.okH k = true → PySem.W.exmOne C.K (.ref (C.cx c)) (.ref (C.cx k)) = some (U.sub c k)) (hc : iniC z c ps body = true) :
    FnOk P w C.K mg base (L2.CX P w) (k + 2) f fd ps (spI C cn (evIni T U cn c)) := by
  unfold iniC at hc
  simp only [Bool.and_eq_true, decide_eq_true_eq] at hc
  obtain ⟨⟨⟨⟨⟨h1, h2⟩, h3⟩, hi⟩, h4⟩, h5⟩ := hc
  have hS := C8.fnScope_by h1
  have hlen : ∀ vs H Q E, spI C cn (evIni T U cn c) vs H Q E → vs.length = ps.length := by
    intro vs H Q E ⟨y, dx, ws, S, ds, H0, e1, e2, n1, n2, n3, ex, r, kd⟩
    subst e1
    rw [List.length_cons, r.length, ← h3]
    by_cases hl : ds.length + 1 = c.np
    · exact hl
    · unfold evIni at kd
      rw [if_neg hl] at kd
      exact kd.elim
  refine F.ok hS hlen fun cdv A outer s H vs Q E hr hsp => ?_
  obtain ⟨y, dx, ws, S, ds, H0, e1, e2, n1, n2, n3, ex, r, kd⟩ := hsp
  subst e1
  have hl : ds.length + 1 = c.np := by
    by_cases hl : ds.length + 1 = c.np
    · exact hl
    · unfold evIni at kd
      rw [if_neg hl] at kd
      exact kd.elim
  unfold evIni at kd
  rw [if_pos hl] at kd
  cases ew : ownSs z.kd 0 [] [] c.body (true :: List.replicate (z.N.length - 1) false) with
  | no => rw [ew] at h5; cases h5
  | top => rw [ew] at h5; cases h5
  | «at» O' =>
    rw [ew] at h5
    have ho' : own O' 0 = true := h5
    have XX := xs_of (qual := qual) (f := f) (cd := cdv) (A := A) (outer := outer) (s := s) (H := H) (S := S) (E := E) (B := H0) (U := U) G ux hS rfl rfl hr
    have x1 : Ext H0 (upd H0 dx (.own y)) := Ext.new n2
    have n1' : (upd H0 dx (.own y)) y = none := by rw [upd_ne (Ne.symm n3)]; exact n1
    have x2 : Ext H0 H := by rw [e2]; exact x1.trans (Ext.new n1')
    have hy : H y = some (.ins (C.cl cn) dx []) := by rw [e2]; exact upd_same
    have sy : S y = none := ex.none n1
    have R0 : Rel C H0 S S (true :: List.replicate (z.N.length - 1) false) (startD c (.obj cn [] :: ds)) (L2.start z.N (.ref y :: ws)) H := by
      refine ⟨x2, Ext.rfl' S, ex.trans x2, fun a h => .inl h, start_len (by rw [List.length_cons, List.length_cons, r.length]) h2, fun i d hd => ?_, fun i j l hi' hj' => ?_⟩
      · have hd' := startD_get hd
        rw [own_one]
        cases i with
        | zero =>
          cases hd'
          exact ⟨_, start_get (vs := .ref y :: ws) rfl, .inl ⟨rfl, rfl, y, rfl, sy, n1, dx, [], hy, .nil⟩⟩
        | succ i =>
          obtain ⟨v, hv, rv⟩ := r.get' (show ds[i]? = some d from hd')
          exact ⟨v, start_get (vs := .ref y :: ws) (show (V.ref y :: ws)[i + 1]? = some v from hv), .inr ⟨fun z => (by cases z), rv⟩⟩
      · have a1 := hi'.1
        have a2 := hj'.1
        rw [own_one] at a1 a2
        rw [of_decide_eq_true a1, of_decide_eq_true a2]
    have hst0 : (L2.start z.N (.ref y :: ws))[0]? = some (some (.ref y)) := start_get (vs := .ref y :: ws) rfl
    refine ⟨_, allFs c.body hi (U := U) (p0 := some (some (.ref y))) XX h4 (by rw [ew]; exact fun e => nomatch e), hst0, S, _, R0, ?_⟩
    rw [ew]
    cases eo : evSs T U c.body (startD c (.obj cn [] :: ds)) with
    | nx st' =>
      rw [eo] at kd
      intro S' σ' H' e3 R hp
      replace kd : KI C y S H0 Q E (selfD st') := kd
      unfold selfD at kd
      split at kd
      · rename_i cc fs tl
        obtain ⟨v, hv, hs⟩ := R.slot 0 (.obj cc fs) rfl
        have hp : σ'[0]? = some (some (.ref y)) := hp
        rw [hp] at hv
        cases hv
        rw [ho'] at hs
        exact kd S' H' e3 R.bh R.sh R.nw hs
      · exact kd.elim
    | rt d => rw [eo] at kd; exact kd.elim
    | bk st' => rw [eo] at kd; exact kd.elim
    | ct st' => rw [eo] at kd; exact kd.elim
    | er cc fs st' =>
      rw [eo] at kd
      intro S' σ' H' dx' e3 R xr
      exact kd S' H' dx' e3 R.bh R.sh R.nw xr
    | bad => rw [eo] at kd; exact kd.elim
end DL
end

section
set_option linter.all false
set_option maxRecDepth 100000
set_option maxHeartbeats 1000000
set_option Elab.async false
/-! DLhd: all defs of a law at once, level by level; the law's end. -/
namespace DL
open PySem PySem.Spec PyProof.Rows L2

/-- the defs of a law, by their numbers; an __init__ with its class -/
structure Tab where
  dd : Nat → Option (Option Nat × CD)
  me : Nat → Nat → Option Nat
  pr : Nat → Nat → Option Nat
  ini : Nat → Option Nat
  U : Up
def Tab.at (t : Tab) : Nat → Tb
  | 0 => ⟨fun _ _ => .bad, t.me, t.pr, t.ini⟩
  | n + 1 => ⟨fun i ds => match t.dd i with
      | some (none, c) => evDef (t.at n) t.U c ds
      | some (some k, c) => evIni (t.at n) t.U k c ds
      | none => .bad, t.me, t.pr, t.ini⟩
def zOf (z : Zx) (N : List Str) (sc : Scope) : Zx := { z with N := N, sc := sc, hot := fun _ => true }
variable {z : Zx} {C : Cn} {T : Tb} {k : Nat} {P : Program} {w : World} {mg : Str → Option Value} {base : Heap} {t : Tab}
theorem GF.re (G : GF z C T k P w mg base) (N : List Str) (sc : Scope) : GF (zOf z N sc) C T k P w mg base :=
  ⟨G.cst, G.blt, G.fn, G.cls, G.fld, G.me, G.pr, G.mkc, G.rx, G.hx, G.atn, G.inj⟩
/-- what the head tells of a law, whatever the level -/
structure LF (z : Zx) (C : Cn) (t : Tab) (P : Program) (w : World) (mg : Str → Option Value) (base : Heap) : Prop where
  cst : ∀ x v, z.cst x = some v → ∃ u, mg x = some u ∧ RelV (.int v) u
  blt : ∀ x ∈ (["len", "abs", "int", "str", "max", "min", "sum", "sorted", "list", "tuple", "range", "reversed", "zip", "enumerate", "isinstance", "bool", "set", "dict"] : List Str), mg x = none
  fn : ∀ i, z.okF i = true → ∃ c f fd ps, t.dd i = some (none, c) ∧ c.kind = z.kd.fn i ∧ (∀ T k, GF z C T k P w mg base → FnOk P w C.K mg base (L2.CX P w) (k + 2) f fd ps (spD C (evDef T t.U c) c.kind)) ∧ mg (z.fnN i) = some (.ref f) ∧ PySem.W.keepIn C.K (.ref f) = true ∧ Binds C.K fd ps []
  cls : ∀ c, Cls C.K (C.cl c)
  fld : ∀ f, z.okA f = true → ∀ c, NoAttr C.K (C.cl c) (C.an f)
  me : ∀ m, z.okM m = true → ∀ c i, t.me c m = some i → ∃ cd f fd ps, t.dd i = some (none, cd) ∧ cd.kind = z.kd.me m ∧ Meth C.K (C.cl c) (C.an m) f ∧ (∀ T k, GF z C T k P w mg base → FnOk P w C.K mg base (L2.CX P w) (k + 2) f fd ps (spD C (evDef T t.U cd) cd.kind)) ∧ Binds C.K fd ps []
  pr : ∀ f, z.okP f = true → ∀ c i, t.pr c f = some i → ∃ cd p g fd ps, t.dd i = some (none, cd) ∧ cd.kind = 0 ∧ PropOf C.K (C.cl c) (C.an f) p g ∧ (∀ T k, GF z C T k P w mg base → FnOk P w C.K mg base (L2.CX P w) (k + 2) g fd ps (spD C (evDef T t.U cd) cd.kind)) ∧ Binds C.K fd ps []
  mkc : ∀ c, z.okK c = true → ∃ i, t.ini c = some i ∧ ∃ cd f fd ps, t.dd i = some (some c, cd) ∧ Mk C.K (C.cl c) f ∧ (∀ T k, GF z C T k P w mg base → FnOk P w C.K mg base (L2.CX P w) (k + 2) f fd ps (spI C c (evIni T t.U c cd))) ∧ Binds C.K fd ps [] ∧ mg (z.clN c) = some (.ref (C.cl c))
  rx : ∀ c, z.okX c = true → ∃ B newId initId bmB, ExcBaseFacts B newId initId bmB ∧ PySem.W.excIn C.K (C.cx c) bmB newId = true ∧ mg (z.clN c) = some (.ref (C.cx c)) ∧ PySem.W.keepIn C.K (.ref (C.cx c)) = true ∧ (∀ X : Cx, X.K = C.K → Raises X (.ref (C.cx c)))
  hx : ∀ c, z.okH c = true → mg (z.clN c) = some (.ref (C.cx c))
  atn : ∀ f, z.atN f = C.an f
  inj : ∀ f g, C.an f = C.an g → f = g
theorem fn_none {f : Addr} {fd : FuncData} {ps : List Str} {sp : Sp} (h : ∀ vs H Q E, ¬ sp vs H Q E) : FnOk P w C.K mg base (L2.CX P w) k f fd ps sp :=
  ⟨fun vs H Q E q => (h vs H Q E q).elim, fun A outer s H args us vs Q E _ _ _ _ q => (h vs H Q E q).elim⟩
theorem spD_bad {kd : Nat} (vs : List V) (H : Hp) (Q : VK) (E : XK) : ¬ spD C (fun _ => .bad) kd vs H Q E := fun ⟨_, _, _, _, q⟩ => q
theorem spI_bad {c : Nat} (vs : List V) (H : Hp) (Q : VK) (E : XK) : ¬ spI C c (fun _ => .bad) vs H Q E := fun ⟨_, _, _, _, _, _, _, _, _, _, _, _, _, q⟩ => q
theorem gf_all (L : LF z C t P w mg base) : ∀ n, GF z C (t.at n) (2 * n) P w mg base
  | 0 => by
    refine ⟨L.cst, L.blt, fun i h => ?_, L.cls, L.fld, fun m h c i hi => ?_, fun f h c i hi => ?_, fun c h => ?_, L.rx, L.hx, L.atn, L.inj⟩
    · obtain ⟨c, f, fd, ps, h1, h2, h3, h4, h5, h6⟩ := L.fn i h
      exact ⟨f, fd, ps, fn_none spD_bad, h4, h5, h6⟩
    · obtain ⟨cd, f, fd, ps, h1, h2, h3, h4, h5⟩ := L.me m h c i hi
      exact ⟨f, fd, ps, h3, fn_none spD_bad, h5⟩
    · obtain ⟨cd, p, g, fd, ps, h1, h2, h3, h4, h5⟩ := L.pr f h c i hi
      exact ⟨p, g, fd, ps, h3, fn_none spD_bad, h5⟩
    · obtain ⟨i, hi, cd, f, fd, ps, h1, h2, h3, h4, h5⟩ := L.mkc c h
      exact ⟨i, hi, f, fd, ps, h2, fn_none spI_bad, h4, h5⟩
  | n + 1 => by
    have G := gf_all L n
    refine ⟨L.cst, L.blt, fun i h => ?_, L.cls, L.fld, fun m h c i hi => ?_, fun f h c i hi => ?_, fun c h => ?_, L.rx, L.hx, L.atn, L.inj⟩
    · obtain ⟨c, f, fd, ps, h1, h2, h3, h4, h5, h6⟩ := L.fn i h
      have e : (t.at (n + 1)).fn i = evDef (t.at n) t.U c := by
        funext ds
        show (match t.dd i with
          | some (none, c) => evDef (t.at n) t.U c ds
          | some (some k, c) => evIni (t.at n) t.U k c ds
          | none => .bad) = _
        rw [h1]
      rw [e, ← h2]
      exact ⟨f, fd, ps, h3 _ _ G, h4, h5, h6⟩
    · obtain ⟨cd, f, fd, ps, h1, h2, h3, h4, h5⟩ := L.me m h c i hi
      have e : (t.at (n + 1)).fn i = evDef (t.at n) t.U cd := by
        funext ds
        show (match t.dd i with
          | some (none, c) => evDef (t.at n) t.U c ds
          | some (some k, c) => evIni (t.at n) t.U k c ds
          | none => .bad) = _
        rw [h1]
      rw [e, ← h2]
      exact ⟨f, fd, ps, h3, h4 _ _ G, h5⟩
    · obtain ⟨cd, p, g, fd, ps, h1, h2, h3, h4, h5⟩ := L.pr f h c i hi
      have e : (t.at (n + 1)).fn i = evDef (t.at n) t.U cd := by
        funext ds
        show (match t.dd i with
          | some (none, c) => evDef (t.at n) t.U c ds
          | some (some k, c) => evIni (t.at n) t.U k c ds
          | none => .bad) = _
        rw [h1]
      rw [e]
      rw [← h2]
      exact ⟨p, g, fd, ps, h3, h4 _ _ G, h5⟩
    · obtain ⟨i, hi, cd, f, fd, ps, h1, h2, h3, h4, h5⟩ := L.mkc c h
      have e : (t.at (n + 1)).fn i = evIni (t.at n) t.U c cd := by
        funext ds
        show (match t.dd i with
          | some (none, c) => evDef (t.at n) t.U c ds
          | some (some k, c) => evIni (t.at n) t.U k c ds
          | none => .bad) = _
        rw [h1]
      refine ⟨i, hi, f, fd, ps, h2, ?_, h4, h5⟩
      rw [e]
      exact h3 _ _ G
end DL
end

section
set_option linter.all false
set_option maxRecDepth 100000
set_option maxHeartbeats 1000000
set_option Elab.async false
/-! DLhe: the law's walk. -/
namespace DL
open PySem PySem.Spec PyProof.Rows L2
theorem reps_ints {C : Cn} {S : Hp} : ∀ ns : List Int, Reps C S (ns.map V.int) (ns.map D.int)
  | [] => .nil
  | i :: r => .cons (.int i) (reps_ints r)
theorem cx_none {P : Program} {w : World} {H : Hp} {s : Shared} {e : Value} {s' : Shared} (h : L2.CX P w [] H s (fun _ _ _ => False) e s') : False := by
  obtain ⟨a, B, H', cls, d, h1, h2, h3, h4, h5, h6, h7, h8⟩ := h
  exact h8
theorem law_sp {C : Cn} {g : List D → R} {kd : Nat} {H : Hp} {a : Addr} {ns : List Int} (h : LsK C.K H a (ns.map V.int)) (hg : g [.lst (ns.map D.int)] = .ok (.bl true)) : spD C g kd [.ref a] H (fun v _ => v = .bl true) fun _ _ _ => False := by
  refine ⟨H, [.lst (ns.map D.int)], Ext.rfl' H, .cons (.lst h (reps_ints ns)) .nil, ?_⟩
  rw [hg]
  intro S' v H' e1 e2 e3 n sl _
  rcases sl with ⟨_, m, _⟩ | ⟨_, r⟩
  · cases m
  · exact Rep.bl' r
theorem walk_D {l : PySem.W.OpenLaw} {n k : Nat} {q : Program} {loose : List Str} {XP : (Str → Option Value) → Heap → Prop} {YP : World → Heap → Prop} {d : DefRec} {x : Str} (hn : l.most = some n) (hn2 : n ≤ sizeLine) (hdf : d.params.defaults = []) (hr : Room k callerA)
    (F : ∀ (w : World) (mg : Str → Option Value) (fa : Addr) (h : Heap), YP w h → h.Ns mainGlobals mg → mg d.name = some (.ref fa) →
      ∃ (C : Cn) (fd : FuncData) (g : List D → R) (kd : Nat), C.K.In h ∧ (∀ (s : Shared) (u : Value), BindsTo s fd ⟨[u], []⟩ [(x, u)]) ∧ (∀ ns : List Int, ns.length ≤ n → g [.lst (ns.map D.int)] = .ok (.bl true)) ∧
        ∀ base : Heap, C.K.In base → base.Ns mainGlobals mg → FnOk l.prog w C.K mg base (L2.CX l.prog w) k fa fd [x] (spD C g kd)) :
    PySem.W.WalkO q loose XP YP l.row.toRowW d [] (fun f vs => PySem.call f vs) := by
  refine Att.attach_call hn hdf ?_
  intro w s₀ s₁ mg mb fa o pm cd doc a vs ns G Y ho hd hcd hmg hobj hints hlen hgen
  obtain ⟨C, fd, g, kd, KX, hb, hgood, hF⟩ := F w mg fa _ Y G.T.g hmg
  have exact_ : ∀ H : Hp, SqL C.K H a (ns.map V.int) → LsK C.K H a (ns.map V.int) := by
    intro H hS
    rcases hS with hS | ⟨ob, its, m, h1, h2, h3, h4, h5, h6⟩
    · exact .inl hS
    · have e := KX a ob h1
      rw [hobj] at e
      cases e
      refine .inr ⟨its, m, ?_, h5, h6⟩
      rw [h1]
      cases h4
      rfl
  exact law_call (sp := spD C g kd) KX G.T.g G.T.b G.T.builtins G.T.nolimit hgen hobj hints (Nat.le_trans hlen hn2) hr hF hb (fun H _ hS => law_sp (exact_ H hS) (hgood ns hlen)) fun H e s' h => cx_none h
end DL
end

section
set_option linter.all false
set_option maxRecDepth 100000
set_option maxHeartbeats 1000000
set_option Elab.async false
/-! DLhf: helpers for a law's facts. -/
namespace DL
open PySem PySem.Spec PyProof.Rows L2
theorem all_nil {α : Type} {p : α → Prop} : ∀ i ∈ ([] : List α), p i := fun _ h => nomatch h
theorem all_cons {α : Type} {p : α → Prop} {a : α} {l : List α} (h : p a) (t : ∀ i ∈ l, p i) : ∀ i ∈ a :: l, p i := fun i hi => by
  rcases List.mem_cons.mp hi with e | e
  · rw [e]; exact h
  · exact t i e
theorem all_of {p : Nat → Prop} {l : List Nat} (h : ∀ i ∈ l, p i) : ∀ i, l.contains i = true → p i := fun i hi => h i (by simpa using hi)
theorem lookup_mem {α β : Type} [BEq α] [LawfulBEq α] : ∀ {l : List (α × β)} {a : α} {b : β}, l.lookup a = some b → (a, b) ∈ l
  | [], _, _, h => by cases h
  | (x, y) :: l, a, b, h => by
    rw [List.lookup_cons] at h
    cases e : a == x with
    | true =>
      rw [e] at h
      cases h
      rw [eq_of_beq e]; exact List.mem_cons_self ..
    | false =>
      rw [e] at h
      exact List.mem_cons_of_mem _ (lookup_mem h)
/-- a name by its number, with a name for the others -/
def nameOf (l : List (Nat × Str)) (d : Str) (c : Nat) : Str := (l.lookup c).getD d
theorem nameOf_all {l : List (Nat × Str)} {d : Str} {p : Str → Prop} (hd : p d) (hl : ∀ q ∈ l, p q.2) (c : Nat) : p (nameOf l d c) := by
  unfold nameOf
  cases h : l.lookup c with
  | none => exact hd
  | some x => exact hl _ (lookup_mem h)
def atName (l : List Str) (f : Nat) : Str := match l[f]? with
  | some s => s
  | none => ⟨#[0, f]⟩
theorem atName_inj {l : List Str} (nd : l.Nodup) (nz : l.all (fun s => s.cps[0]? != some 0) = true) (f g : Nat) (h : atName l f = atName l g) : f = g := by
  unfold atName at h
  have z : ∀ {s : Str} {i k : Nat}, l[i]? = some s → s = ⟨#[0, k]⟩ → False := by
    intro s i k h1 h2
    rw [List.all_eq_true] at nz
    have := nz s (List.mem_of_getElem? h1)
    subst h2
    simp at this
  cases e1 : l[f]? with
  | some s =>
    cases e2 : l[g]? with
    | some u =>
      rw [e1, e2] at h
      have h : s = u := h
      subst h
      exact (List.getElem?_inj (List.getElem?_eq_some_iff.mp e1).1 nd).mp (e1.trans e2.symm)
    | none =>
      rw [e1, e2] at h
      exact (z e1 h).elim
  | none =>
    cases e2 : l[g]? with
    | some u =>
      rw [e1, e2] at h
      exact (z e2 h.symm).elim
    | none =>
      rw [e1, e2] at h
      have h : (⟨#[0, f]⟩ : Str) = ⟨#[0, g]⟩ := h
      simpa using h
theorem rx_of {K : PySem.W.Frag} {x : Str} (c : (He.Fa.exc x).ok K = true) : ∃ B newId initId bmB, ExcBaseFacts B newId initId bmB ∧ PySem.W.excIn K (He.ga K x) bmB newId = true ∧ PySem.W.keepIn K (.ref (He.ga K x)) = true ∧ (∀ X : Cx, X.K = K → Raises X (.ref (He.ga K x))) := by
  obtain ⟨c1, c2, c3, c4⟩ := He.exc_ok c
  exact ⟨_, _, _, _, PySem.F.excBase_ValueError, c1, c2, fun X e => raises_own (by rw [e]; exact c3) (by rw [e]; exact c4)⟩
end DL
end

section
set_option linter.all false
set_option maxRecDepth 100000
set_option maxHeartbeats 1000000
set_option Elab.async false
/-! PLa: a table whose defs do not call themselves is a fixed point. -/
namespace DL
open PySem
/-- which callees are allowed -/
structure Al where
  f : Nat → Bool
  m : Nat → Bool
  p : Nat → Bool
  i : Nat → Bool
mutual
def rkE (A : Al) : E → Bool
  | .bin _ a b => rkE A a && rkE A b
  | .neg a => rkE A a
  | .cmp _ a b => rkE A a && rkE A b
  | .isc _ a _ => rkE A a
  | .chn _ _ a b c => rkE A a && rkE A b && rkE A c
  | .and a b => rkE A a && rkE A b
  | .or a b => rkE A a && rkE A b
  | .not a => rkE A a
  | .ite c a b => rkE A c && rkE A a && rkE A b
  | .lst es => rkEs A es
  | .tup es => rkEs A es
  | .idx a i => rkE A a && rkE A i
  | .slc a l h => rkE A a && rkE A l && rkE A h
  | .att a _ => rkE A a
  | .prp a f => rkE A a && A.p f
  | .call f es => A.f f && rkEs A es
  | .meth a m es => rkE A a && A.m m && rkEs A es
  | .make c es => A.i c && rkEs A es
  | .blt _ es => rkEs A es
  | .lsr a => rkE A a
  | .bm _ a es => rkE A a && rkEs A es
  | .isi a _ => rkE A a
  | .cmpr x _ it => rkE A x && rkI A it
  | .cmpi x _ it c => rkE A x && rkI A it && rkE A c
  | .cmp2 x _ it _ jt => rkE A x && rkI A it && rkI A jt
  | _ => true
def rkEs (A : Al) : Es → Bool
  | .nil => true
  | .cons e es => rkE A e && rkEs A es
def rkI (A : Al) : I → Bool
  | .seq e => rkE A e
  | .rng1 a => rkE A a
  | .rng2 a b => rkE A a && rkE A b
  | .rng3 a b c => rkE A a && rkE A b && rkE A c
  | .rev e => rkE A e
  | .zip a b => rkE A a && rkE A b
  | .enm e => rkE A e
end
mutual
def rkS (A : Al) : S → Bool
  | .asg _ e => rkE A e
  | .asgT _ e => rkE A e
  | .par _ _ a b => rkE A a && rkE A b
  | .swp _ a b c d => rkE A a && rkE A b && rkE A c && rkE A d
  | .sti _ k e => rkE A k && rkE A e
  | .stf _ _ e => rkE A e
  | .aug _ _ e => rkE A e
  | .augi _ k _ e => rkE A k && rkE A e
  | .app _ e => rkE A e
  | .ext _ e => rkE A e
  | .exp e => rkE A e
  | .ifs c a b => rkE A c && rkSs A a && rkSs A b
  | .whl c _ b => rkE A c && rkSs A b
  | .forr _ it _ b => rkI A it && rkSs A b
  | .ret e => rkE A e
  | .tri _ b hs => rkSs A b && rkHs A hs
  | _ => true
def rkSs (A : Al) : Ss → Bool
  | .nil => true
  | .cons s ss => rkS A s && rkSs A ss
def rkHs (A : Al) : Hs → Bool
  | .nil => true
  | .cons _ _ b hs => rkSs A b && rkHs A hs
end
structure Same (A : Al) (T T' : Tb) : Prop where
  me : T.me = T'.me
  pr : T.pr = T'.pr
  ini : T.ini = T'.ini
  f : ∀ i, A.f i = true → T.fn i = T'.fn i
  m : ∀ m, A.m m = true → ∀ c i, T.me c m = some i → T.fn i = T'.fn i
  p : ∀ m, A.p m = true → ∀ c i, T.pr c m = some i → T.fn i = T'.fn i
  i : ∀ c, A.i c = true → ∀ i, T.ini c = some i → T.fn i = T'.fn i
def isOm : E → Bool
  | .omit => true
  | _ => false
def slcR (lo hi : Bool) (x l h : R) : R := match lo, hi with
  | true, true => x.bind fun x => ofO (slcD x none none)
  | true, false => x.bind fun x => h.bind fun h => match partD h with
    | some h => ofO (slcD x none h)
    | none => .bad
  | false, true => x.bind fun x => l.bind fun l => match partD l with
    | some l => ofO (slcD x l none)
    | none => .bad
  | false, false => x.bind fun x => l.bind fun l => match partD l with
    | some l => h.bind fun h => (match partD h with
      | some h => ofO (slcD x l h)
      | none => .bad)
    | none => .bad
theorem evE_slc {T : Tb} {a l u : E} {st : St} : evE T (.slc a l u) st = slcR (isOm l) (isOm u) (evE T a st) (evE T l st) (evE T u st) := by
  cases l <;> cases u <;> rfl
section
variable {A : Al} {T T' : Tb} {U : Up} (h : Same A T T')
include h
mutual
theorem sameE : ∀ (e : E) (st : St), rkE A e = true → evE T e st = evE T' e st
  | .var _, _, _ => rfl
  | .non, _, _ => rfl
  | .bl _, _, _ => rfl
  | .int _, _, _ => rfl
  | .str _, _, _ => rfl
  | .glo _ _, _, _ => rfl
  | .omit, _, _ => rfl
  | .bin _ a b, st, k => by
    simp only [rkE, Bool.and_eq_true] at k
    simp only [evE, sameE a st k.1, sameE b st k.2]
  | .neg a, st, k => by
    simp only [rkE] at k
    simp only [evE, sameE a st k]
  | .cmp _ a b, st, k => by
    simp only [rkE, Bool.and_eq_true] at k
    simp only [evE, sameE a st k.1, sameE b st k.2]
  | .isc _ a _, st, k => by
    simp only [rkE] at k
    simp only [evE, sameE a st k]
  | .chn _ _ a b c, st, k => by
    simp only [rkE, Bool.and_eq_true] at k
    simp only [evE, sameE a st k.1.1, sameE b st k.1.2, sameE c st k.2]
  | .and a b, st, k => by
    simp only [rkE, Bool.and_eq_true] at k
    simp only [evE, sameE a st k.1, sameE b st k.2]
  | .or a b, st, k => by
    simp only [rkE, Bool.and_eq_true] at k
    simp only [evE, sameE a st k.1, sameE b st k.2]
  | .not a, st, k => by
    simp only [rkE] at k
    simp only [evE, sameE a st k]
  | .ite c a b, st, k => by
    simp only [rkE, Bool.and_eq_true] at k
    simp only [evE, sameE c st k.1.1, sameE a st k.1.2, sameE b st k.2]
  | .lst es, st, k => by
    simp only [rkE] at k
    simp only [evE, sameEs es st k]
  | .tup es, st, k => by
    simp only [rkE] at k
    simp only [evE, sameEs es st k]
  | .idx a b, st, k => by
    simp only [rkE, Bool.and_eq_true] at k
    simp only [evE, sameE a st k.1, sameE b st k.2]
  | .slc a l u, st, k => by
    simp only [rkE, Bool.and_eq_true] at k
    rw [evE_slc, evE_slc, sameE a st k.1.1, sameE l st k.1.2, sameE u st k.2]
  | .att a _, st, k => by
    simp only [rkE] at k
    simp only [evE, sameE a st k]
  | .prp a f, st, k => by
    simp only [rkE, Bool.and_eq_true] at k
    simp only [evE, sameE a st k.1]
    congr 1; funext x
    cases x with
    | obj c fs =>
      show (match T.pr c f with | some g => (T.fn g [.obj c fs]).calm | none => R.bad) = (match T'.pr c f with | some g => (T'.fn g [.obj c fs]).calm | none => R.bad)
      rw [← h.pr]
      cases e : T.pr c f with
      | none => rfl
      | some g => show (T.fn g [.obj c fs]).calm = (T'.fn g [.obj c fs]).calm; rw [h.p f k.2 c g e]
    | _ => rfl
  | .call f es, st, k => by
    simp only [rkE, Bool.and_eq_true] at k
    simp only [evE, sameEs es st k.2, h.f f k.1]
  | .meth a m es, st, k => by
    simp only [rkE, Bool.and_eq_true] at k
    simp only [evE, sameE a st k.1.1, sameEs es st k.2]
    congr 1; funext x
    cases x with
    | obj c fs =>
      show (match T.me c m, fieldOf m fs with | some g, none => (evEs T' es st).bind fun ds => T.fn g (.obj c fs :: ds) | _, _ => R.bad) = (match T'.me c m, fieldOf m fs with | some g, none => (evEs T' es st).bind fun ds => T'.fn g (.obj c fs :: ds) | _, _ => R.bad)
      rw [← h.me]
      cases e : T.me c m with
      | none => rfl
      | some g =>
        cases fieldOf m fs with
        | none => show ((evEs T' es st).bind fun ds => T.fn g (.obj c fs :: ds)) = ((evEs T' es st).bind fun ds => T'.fn g (.obj c fs :: ds)); rw [h.m m k.1.2 c g e]
        | some _ => rfl
    | _ => rfl
  | .make c es, st, k => by
    simp only [rkE, Bool.and_eq_true] at k
    simp only [evE, sameEs es st k.2]
    congr 1; funext ds
    rw [← h.ini]
    cases e : T.ini c with
    | none => rfl
    | some g => show T.fn g ds = T'.fn g ds; rw [h.i c k.1 g e]
  | .blt _ es, st, k => by
    simp only [rkE] at k
    simp only [evE, sameEs es st k]
  | .lsr a, st, k => by
    simp only [rkE] at k
    simp only [evE, sameE a st k]
  | .bm _ a es, st, k => by
    simp only [rkE, Bool.and_eq_true] at k
    simp only [evE, sameE a st k.1, sameEs es st k.2]
  | .isi a _, st, k => by
    simp only [rkE] at k
    simp only [evE, sameE a st k]
  | .cmpr x p it, st, k => by
    simp only [rkE, Bool.and_eq_true] at k
    have e : ∀ s, evE T x s = evE T' x s := fun s => sameE x s k.1
    simp only [evE, sameI it st k.2, e]
  | .cmpi x p it c, st, k => by
    simp only [rkE, Bool.and_eq_true] at k
    have e : ∀ s, evE T x s = evE T' x s := fun s => sameE x s k.1.1
    have e2 : ∀ s, evE T c s = evE T' c s := fun s => sameE c s k.2
    simp only [evE, sameI it st k.1.2, e, e2]
  | .cmp2 x p it q jt, st, k => by
    simp only [rkE, Bool.and_eq_true] at k
    have e : ∀ s, evE T x s = evE T' x s := fun s => sameE x s k.1.1
    have e2 : ∀ s, evI T jt s = evI T' jt s := fun s => sameI jt s k.2
    simp only [evE, sameI it st k.1.2, e, e2]
theorem sameEs : ∀ (e : Es) (st : St), rkEs A e = true → evEs T e st = evEs T' e st
  | .nil, _, _ => rfl
  | .cons e es, st, k => by
    simp only [rkEs, Bool.and_eq_true] at k
    simp only [evEs, sameE e st k.1, sameEs es st k.2]
theorem sameI : ∀ (e : I) (st : St), rkI A e = true → evI T e st = evI T' e st
  | .seq e, st, k => by
    simp only [rkI] at k
    simp only [evI, sameE e st k]
  | .rng1 a, st, k => by
    simp only [rkI] at k
    simp only [evI, sameE a st k]
  | .rng2 a b, st, k => by
    simp only [rkI, Bool.and_eq_true] at k
    simp only [evI, sameE a st k.1, sameE b st k.2]
  | .rng3 a b c, st, k => by
    simp only [rkI, Bool.and_eq_true] at k
    simp only [evI, sameE a st k.1.1, sameE b st k.1.2, sameE c st k.2]
  | .rev e, st, k => by
    simp only [rkI] at k
    simp only [evI, sameE e st k]
  | .zip a b, st, k => by
    simp only [rkI, Bool.and_eq_true] at k
    simp only [evI, sameE a st k.1, sameE b st k.2]
  | .enm e, st, k => by
    simp only [rkI] at k
    simp only [evI, sameE e st k]
end
mutual
theorem sameS : ∀ (s : S) (st : St), rkS A s = true → evS T U s st = evS T' U s st
  | .asg _ e, st, k => by
    simp only [rkS] at k
    simp only [evS, sameE h e st k]
  | .asgT _ e, st, k => by
    simp only [rkS] at k
    simp only [evS, sameE h e st k]
  | .par _ _ a b, st, k => by
    simp only [rkS, Bool.and_eq_true] at k
    simp only [evS, sameE h a st k.1, sameE h b st k.2]
  | .swp _ a b c d, st, k => by
    simp only [rkS, Bool.and_eq_true] at k
    have e1 : ∀ s, evE T a s = evE T' a s := fun s => sameE h a s k.1.1.1
    have e2 : ∀ s, evE T b s = evE T' b s := fun s => sameE h b s k.1.1.2
    have e3 : ∀ s, evE T c s = evE T' c s := fun s => sameE h c s k.1.2
    have e4 : ∀ s, evE T d s = evE T' d s := fun s => sameE h d s k.2
    simp only [evS, e1, e2, e3, e4]
  | .sti _ a e, st, k => by
    simp only [rkS, Bool.and_eq_true] at k
    simp only [evS, sameE h a st k.1, sameE h e st k.2]
  | .stf _ _ e, st, k => by
    simp only [rkS] at k
    simp only [evS, sameE h e st k]
  | .aug _ _ e, st, k => by
    simp only [rkS] at k
    simp only [evS, sameE h e st k]
  | .augi _ a _ e, st, k => by
    simp only [rkS, Bool.and_eq_true] at k
    simp only [evS, sameE h a st k.1, sameE h e st k.2]
  | .app _ e, st, k => by
    simp only [rkS] at k
    simp only [evS, sameE h e st k]
  | .ext _ e, st, k => by
    simp only [rkS] at k
    simp only [evS, sameE h e st k]
  | .pop _, _, _ => rfl
  | .exp e, st, k => by
    simp only [rkS] at k
    simp only [evS, sameE h e st k]
  | .ifs c a b, st, k => by
    simp only [rkS, Bool.and_eq_true] at k
    simp only [evS, sameE h c st k.1.1, sameSs a st k.1.2, sameSs b st k.2]
  | .whl c _ b, st, k => by
    simp only [rkS, Bool.and_eq_true] at k
    have e1 : evE T c = evE T' c := funext fun s => sameE h c s k.1
    have e2 : evSs T U b = evSs T' U b := funext fun s => sameSs b s k.2
    simp only [evS, e1, e2]
  | .forr _ it _ b, st, k => by
    simp only [rkS, Bool.and_eq_true] at k
    have e2 : evSs T U b = evSs T' U b := funext fun s => sameSs b s k.2
    simp only [evS, sameI h it st k.1, e2]
  | .ret e, st, k => by
    simp only [rkS] at k
    simp only [evS, sameE h e st k]
  | .brk, _, _ => rfl
  | .cnt, _, _ => rfl
  | .pas, _, _ => rfl
  | .rse _, _, _ => rfl
  | .rse1 _ _, _, _ => rfl
  | .tri _ b hs, st, k => by
    simp only [rkS, Bool.and_eq_true] at k
    simp only [evS, sameSs b st k.1]
    split
    · exact sameHs hs _ _ _ k.2
    · rfl
theorem sameSs : ∀ (s : Ss) (st : St), rkSs A s = true → evSs T U s st = evSs T' U s st
  | .nil, _, _ => rfl
  | .cons s ss, st, k => by
    simp only [rkSs, Bool.and_eq_true] at k
    have e : ∀ t, evSs T U ss t = evSs T' U ss t := fun t => sameSs ss t k.2
    simp only [evSs, sameS s st k.1, e]
theorem sameHs : ∀ (s : Hs) (c : Nat) (fs : List (Nat × D)) (st : St), rkHs A s = true → evHs T U s c fs st = evHs T' U s c fs st
  | .nil, _, _, _, _ => rfl
  | .cons c n b hs, d, fs, st, k => by
    simp only [rkHs, Bool.and_eq_true] at k
    have e : ∀ t, evSs T U b t = evSs T' U b t := fun t => sameSs b t k.1
    simp only [evHs, e, sameHs hs d fs st k.2]
end
end
theorem sameDef {A : Al} {T T' : Tb} {U : Up} (h : Same A T T') {c : CD} (k : rkSs A c.body = true) : evDef T U c = evDef T' U c := by
  funext ds; unfold evDef; rw [sameSs h c.body _ k]
theorem sameIni {A : Al} {T T' : Tb} {U : Up} (h : Same A T T') {c : CD} {j : Nat} (k : rkSs A c.body = true) : evIni T U j c = evIni T' U j c := by
  funext ds; unfold evIni; rw [sameSs h c.body _ k]

/-- a table by lists, ranks -/
structure TL where
  dd : List (Nat × Option Nat × CD)
  me : List ((Nat × Nat) × Nat)
  pr : List ((Nat × Nat) × Nat)
  ini : List (Nat × Nat)
  rk : List (Nat × Nat)
def TL.tab (t : TL) (U : Up) : Tab := ⟨fun i => t.dd.lookup i, fun c m => t.me.lookup (c, m), fun c m => t.pr.lookup (c, m), fun c => t.ini.lookup c, U⟩
def TL.rank (t : TL) (i : Nat) : Nat := (t.rk.lookup i).getD 1000
def TL.al (t : TL) (r : Nat) : Al := ⟨fun i => decide (t.rank i < r), fun m => t.me.all fun e => e.1.2 != m || decide (t.rank e.2 < r), fun m => t.pr.all fun e => e.1.2 != m || decide (t.rank e.2 < r), fun c => t.ini.all fun e => e.1 != c || decide (t.rank e.2 < r)⟩
def TL.good (t : TL) : Bool := t.dd.all fun e => rkSs (t.al (t.rank e.1)) e.2.2.body
theorem TL.same {t : TL} {U : Up} {n m r : Nat} (h : ∀ i, t.rank i < r → ((t.tab U).at n).fn i = ((t.tab U).at m).fn i) : Same (t.al r) ((t.tab U).at n) ((t.tab U).at m) := by
  refine ⟨by cases n <;> cases m <;> rfl, by cases n <;> cases m <;> rfl, by cases n <;> cases m <;> rfl, fun i hi => h i (by simpa [TL.al] using hi), ?_, ?_, ?_⟩
  · intro k hk c i hi
    have hi : t.me.lookup (c, k) = some i := by cases n <;> exact hi
    have := lookup_mem hi
    have hk : (t.me.all fun e => e.1.2 != k || decide (t.rank e.2 < r)) = true := hk
    rw [List.all_eq_true] at hk
    have := hk _ this
    exact h i (by simpa using this)
  · intro k hk c i hi
    have hi : t.pr.lookup (c, k) = some i := by cases n <;> exact hi
    have := lookup_mem hi
    have hk : (t.pr.all fun e => e.1.2 != k || decide (t.rank e.2 < r)) = true := hk
    rw [List.all_eq_true] at hk
    have := hk _ this
    exact h i (by simpa using this)
  · intro c hk i hi
    have hi : t.ini.lookup c = some i := by cases n <;> exact hi
    have := lookup_mem hi
    have hk : (t.ini.all fun e => e.1 != c || decide (t.rank e.2 < r)) = true := hk
    rw [List.all_eq_true] at hk
    have := hk _ this
    exact h i (by simpa using this)
def evO (T : Tb) (U : Up) (c : CD) : Option Nat → List D → R
  | none => evDef T U c
  | some k => evIni T U k c
theorem TL.fn_eq {t : TL} {U : Up} {n i : Nat} {o : Option Nat} {c : CD} (h : t.dd.lookup i = some (o, c)) : ((t.tab U).at (n + 1)).fn i = evO ((t.tab U).at n) U c o := by
  funext ds
  show (match t.dd.lookup i with
    | some (none, c) => evDef ((t.tab U).at n) U c ds
    | some (some k, c) => evIni ((t.tab U).at n) U k c ds
    | none => .bad) = _
  rw [h]
  cases o <;> rfl
theorem TL.bad_eq {t : TL} {U : Up} {n i : Nat} (h : t.dd.lookup i = none) : ((t.tab U).at (n + 1)).fn i = fun _ => .bad := by
  funext ds
  show (match t.dd.lookup i with
    | some (none, c) => evDef ((t.tab U).at n) U c ds
    | some (some k, c) => evIni ((t.tab U).at n) U k c ds
    | none => .bad) = _
  rw [h]
theorem TL.stable {t : TL} {U : Up} (g : t.good = true) : ∀ n i, t.rank i ≤ n → ((t.tab U).at (n + 1)).fn i = ((t.tab U).at (n + 2)).fn i := by
  intro n
  induction n with
  | zero =>
    intro i hi
    cases e : t.dd.lookup i with
    | none => rw [TL.bad_eq e, TL.bad_eq e]
    | some oc =>
      obtain ⟨o, c⟩ := oc
      have k := List.all_eq_true.mp g _ (lookup_mem e)
      have s : Same (t.al (t.rank i)) ((t.tab U).at 0) ((t.tab U).at 1) := TL.same fun j hj => by omega
      rw [TL.fn_eq e, TL.fn_eq e]
      cases o with
      | none => exact sameDef s k
      | some j => exact sameIni s k
  | succ n ih =>
    intro i hi
    cases e : t.dd.lookup i with
    | none => rw [TL.bad_eq e, TL.bad_eq e]
    | some oc =>
      obtain ⟨o, c⟩ := oc
      have k := List.all_eq_true.mp g _ (lookup_mem e)
      have s : Same (t.al (t.rank i)) ((t.tab U).at (n + 1)) ((t.tab U).at (n + 2)) := TL.same fun j hj => ih j (by omega)
      rw [TL.fn_eq e, TL.fn_eq e]
      cases o with
      | none => exact sameDef s k
      | some j => exact sameIni s k
/-- the fixed point -/
theorem TL.fix {t : TL} {U : Up} {i : Nat} (N : Nat) (g : t.good = true) (hr : t.rk.all (fun e => decide (e.2 ≤ N)) = true) {c : CD} (h : t.dd.lookup i = some (none, c)) (hi : t.rank i ≤ N) : ((t.tab U).at (N + 2)).fn i = evDef ((t.tab U).at (N + 2)) U c := by
  rw [← TL.stable g (N) i hi, TL.fn_eq h]
  have k := List.all_eq_true.mp g _ (lookup_mem h)
  have s1 : Same (t.al (t.rank i)) ((t.tab U).at N) ((t.tab U).at (N + 1)) := by
    cases N with
    | zero => exact TL.same fun j hj => by omega
    | succ N => exact TL.same fun j hj => TL.stable g N j (by omega)
  have s2 : Same (t.al (t.rank i)) ((t.tab U).at (N + 1)) ((t.tab U).at (N + 2)) := TL.same fun j hj => TL.stable g N j (by omega)
  exact (sameDef s1 k).trans (sameDef s2 k)
theorem TL.fixI {t : TL} {U : Up} {i j : Nat} (N : Nat) (g : t.good = true) (hr : t.rk.all (fun e => decide (e.2 ≤ N)) = true) {c : CD} (h : t.dd.lookup i = some (some j, c)) (hi : t.rank i ≤ N) : ((t.tab U).at (N + 2)).fn i = evIni ((t.tab U).at (N + 2)) U j c := by
  rw [← TL.stable g (N) i hi, TL.fn_eq h]
  have k := List.all_eq_true.mp g _ (lookup_mem h)
  have s1 : Same (t.al (t.rank i)) ((t.tab U).at N) ((t.tab U).at (N + 1)) := by
    cases N with
    | zero => exact TL.same fun j hj => by omega
    | succ N => exact TL.same fun j hj => TL.stable g N j (by omega)
  have s2 : Same (t.al (t.rank i)) ((t.tab U).at (N + 1)) ((t.tab U).at (N + 2)) := TL.same fun j hj => TL.stable g N j (by omega)
  exact (sameIni s1 k).trans (sameIni s2 k)
end DL
end

section
set_option linter.all false
set_option maxRecDepth 1000000
set_option maxHeartbeats 0
set_option Elab.async false
namespace Lw
open PySem PySem.Spec PyProof.Rows L2 DL
def top (i : Nat) : Stmt := PySem.Challenge.pw_nearestword_k74_written_fields_and_words.main.body.getD i (.Pass ⟨0, 0, 0, 0⟩)
def anL : List Str := (["__init__", "digits", "element", "all_elements", "plus", "negative", "minus", "times", "inverse", "over", "power", "order_of"] : List Str) ++ (["primitive_element", "log", "same_as", "rows", "pivots", "checks", "size", "check_word", "word_for", "syndrome", "contains", "message_of"] : List Str) ++ (["words", "leaders_of", "corrected", "nearest", "columns_at", "is_determined_by", "can_fill", "filled", "matrix_for", "messages_of", "linear", "mended"] : List Str) ++ (["columns_mended", "is_near", "points", "_values", "message_for", "error_locator", "_written", "_blocks", "_read", "judged", "outer_received", "generator"] : List Str) ++ (["check_polynomial", "shifted", "_power", "syndromes", "_places", "_changed", "_parts", "__enter__", "__exit__", "computed", "change_to", "add_code"] : List Str) ++ (["replace_code", "remove_code", "receive", "code_names", "code_of", "received_words", "answers", "answer_of", "undo", "redo", "trial", "change_all"] : List Str) ++ (["make", "after", "check_bits", "advance", "remainder", "sealed", "is_good", "remainder_by_blocks", "period", "finds_odd", "_fed", "states_for"] : List Str) ++ (["_unfed", "grown", "restart", "take", "costs", "settled", "answer", "moves_from", "costs_table", "best_moves", "found", "states"] : List Str) ++ (["line", "name", "prime", "modulus", "degree", "order", "field", "length", "dimension", "_rows", "_pivots", "_checks"] : List Str) ++ (["_size", "code", "table", "row_code", "column_code", "width", "height", "_row_distance", "_column_distance", "distance", "_points", "outer"] : List Str) ++ (["inner", "_inner_distance", "_generator", "_check", "base", "root", "_cyclic", "depth", "burst_mended", "burst_filled", "workshop", "state"] : List Str) ++ (["past", "future", "known", "taps", "memory", "outputs", "state_count", "cost", "count_of", "first", "start_of", "encoder"] : List Str) ++ (["_table", "steps", "_summaries", "message_length"] : List Str)
def an (f : Nat) : Str := atName anL f
theorem an_inj (f g : Nat) (h : an f = an g) : f = g := atName_inj (by decide +kernel) (by decide +kernel) f g h
def fnL : List (Nat × Str) := [(153, "int_power"), (154, "is_prime"), (155, "base_digits"), (156, "integer_remainder"), (157, "is_irreducible"), (158, "is_modulus"), (315, "format_field"), (316, "format_word"), (318, "read_number"), (319, "read_line"), (320, "read_field"), (321, "parse_field"), (324, "parse_word"), (1000, "_law_row"), (1001, "_law_numbers"), (1002, "_law_field"), (1003, "_law_order"), (1004, "_law_is_integer"), (1005, "law")]
def clL : List (Nat × Str) := [(0, "CodeError"), (1, "InvalidField"), (16, "InvalidNotation"), (21, "Field")]
def ocL : List (Nat × Str) := [(21, "Field")]
def xcL : List (Nat × Str) := [(0, "CodeError"), (1, "InvalidField"), (16, "InvalidNotation")]
def mkC (K : PySem.W.Frag) : Cn := ⟨K, fun c => He.ga K (nameOf ocL "Field" c), fun c => He.ga K (nameOf xcL "CodeError" c), an⟩
abbrev s_int_power : Stmt := (top 8)
def n_int_power : List Str := (["base", "exponent", "result", "_"] : List Str)
def p_int_power : List Str := (["base", "exponent"] : List Str)
def c_int_power : CD := ⟨2, 4, (.cons (.asg 2 (.int 1)) (.cons (.forr (.nm 3) (.rng1 (.var 1)) [2] (.cons (.asg 2 (.bin .mul (.var 2) (.var 0))) .nil)) (.cons (.ret (.var 2)) .nil))), 2⟩
abbrev s_is_prime : Stmt := (top 9)
def n_is_prime : List Str := (["n", "divisor"] : List Str)
def p_is_prime : List Str := (["n"] : List Str)
def c_is_prime : CD := ⟨1, 2, (.cons (.ifs (.cmp .lt (.var 0) (.int 2)) (.cons (.ret (.bl false)) .nil) .nil) (.cons (.forr (.nm 1) (.rng2 (.int 2) (.var 0)) [] (.cons (.ifs (.cmp .eq (.bin .mod (.var 0) (.var 1)) (.int 0)) (.cons (.ret (.bl false)) .nil) .nil) .nil)) (.cons (.ret (.bl true)) .nil))), 2⟩
abbrev s_base_digits : Stmt := (top 10)
def n_base_digits : List Str := (["n", "base", "size", "digits", "_"] : List Str)
def p_base_digits : List Str := (["n", "base", "size"] : List Str)
def c_base_digits : CD := ⟨3, 5, (.cons (.asg 3 (.lst .nil)) (.cons (.forr (.nm 4) (.rng1 (.var 2)) [3] (.cons (.app 3 (.bin .mod (.var 0) (.var 1))) (.cons (.asg 0 (.bin .fdiv (.var 0) (.var 1))) .nil))) (.cons (.ret (.var 3)) .nil))), 1⟩
abbrev s_integer_remainder : Stmt := (top 11)
def n_integer_remainder : List Str := (["prime", "items", "divisor", "size", "rest", "factor", "start", "k"] : List Str)
def p_integer_remainder : List Str := (["prime", "items", "divisor"] : List Str)
def c_integer_remainder : CD := ⟨3, 8, (.cons (.asg 3 (.bin .sub (.blt .len (.cons (.var 2) .nil)) (.int 1))) (.cons (.asg 4 (.blt .list (.cons (.var 1) .nil))) (.cons (.whl (.cmp .gt (.blt .len (.cons (.var 4) .nil)) (.var 3)) [3, 4] (.cons (.asg 5 (.idx (.var 4) (.neg (.int 1)))) (.cons (.asg 6 (.bin .sub (.bin .sub (.blt .len (.cons (.var 4) .nil)) (.int 1)) (.var 3))) (.cons (.forr (.nm 7) (.rng1 (.bin .add (.var 3) (.int 1))) [3, 4, 6] (.cons (.sti 4 (.bin .add (.var 6) (.var 7)) (.bin .mod (.bin .sub (.idx (.var 4) (.bin .add (.var 6) (.var 7))) (.bin .mul (.var 5) (.idx (.var 2) (.var 7)))) (.var 0))) .nil)) (.cons (.pop 4) .nil))))) (.cons (.ret (.var 4)) .nil)))), 1⟩
abbrev s_is_irreducible : Stmt := (top 12)
def n_is_irreducible : List Str := (["prime", "modulus", "size", "n", "divisor", "rest"] : List Str)
def p_is_irreducible : List Str := (["prime", "modulus"] : List Str)
def c_is_irreducible : CD := ⟨2, 6, (.cons (.forr (.nm 2) (.rng2 (.int 1) (.bin .sub (.blt .len (.cons (.var 1) .nil)) (.int 1))) [] (.cons (.forr (.nm 3) (.rng1 (.call 153 (.cons (.var 0) (.cons (.var 2) .nil)))) [] (.cons (.asg 4 (.bin .add (.call 155 (.cons (.var 3) (.cons (.var 0) (.cons (.var 2) .nil)))) (.lst (.cons (.int 1) .nil)))) (.cons (.asg 5 (.call 156 (.cons (.var 0) (.cons (.var 1) (.cons (.var 4) .nil))))) (.cons (.ifs (.cmp .eq (.var 5) (.bin .mul (.lst (.cons (.int 0) .nil)) (.var 2))) (.cons (.ret (.bl false)) .nil) .nil) .nil)))) .nil)) (.cons (.ret (.bl true)) .nil)), 2⟩
abbrev s_is_modulus : Stmt := (top 13)
def n_is_modulus : List Str := (["prime", "modulus", "item"] : List Str)
def p_is_modulus : List Str := (["prime", "modulus"] : List Str)
def c_is_modulus : CD := ⟨2, 3, (.cons (.ifs (.or (.cmp .lt (.blt .len (.cons (.var 1) .nil)) (.int 2)) (.or (.cmp .gt (.blt .len (.cons (.var 1) .nil)) (.int 9)) (.cmp .ne (.idx (.var 1) (.neg (.int 1))) (.int 1)))) (.cons (.ret (.bl false)) .nil) .nil) (.cons (.ifs (.cmp .gt (.call 153 (.cons (.var 0) (.cons (.bin .sub (.blt .len (.cons (.var 1) .nil)) (.int 1)) .nil))) (.glo 0 256)) (.cons (.ret (.bl false)) .nil) .nil) (.cons (.forr (.nm 2) (.seq (.var 1)) [] (.cons (.ifs (.or (.cmp .lt (.var 2) (.int 0)) (.cmp .ge (.var 2) (.var 0))) (.cons (.ret (.bl false)) .nil) .nil) .nil)) (.cons (.ret (.call 157 (.cons (.var 0) (.cons (.var 1) .nil)))) .nil)))), 2⟩
abbrev s_Field___init__ : Stmt := (inClass (top 14) 0)
def n_Field___init__ : List Str := (["self", "prime", "modulus"] : List Str)
def p_Field___init__ : List Str := (["self", "prime", "modulus"] : List Str)
def c_Field___init__ : CD := ⟨3, 3, (.cons (.ifs (.or (.cmp .gt (.var 1) (.glo 0 31)) (.not (.call 154 (.cons (.var 1) .nil)))) (.cons (.rse 1) .nil) .nil) (.cons (.ifs (.not (.call 158 (.cons (.var 1) (.cons (.var 2) .nil)))) (.cons (.rse 1) .nil) .nil) (.cons (.stf 0 98 (.var 1)) (.cons (.stf 0 99 (.var 2)) (.cons (.stf 0 100 (.bin .sub (.blt .len (.cons (.var 2) .nil)) (.int 1))) (.cons (.stf 0 101 (.call 153 (.cons (.var 1) (.cons (.att (.var 0) 100) .nil)))) .nil)))))), 0⟩
abbrev s_Field_digits : Stmt := (inClass (top 14) 1)
def n_Field_digits : List Str := (["self", "a"] : List Str)
def p_Field_digits : List Str := (["self", "a"] : List Str)
def c_Field_digits : CD := ⟨2, 2, (.cons (.ret (.call 155 (.cons (.var 1) (.cons (.att (.var 0) 98) (.cons (.att (.var 0) 100) .nil))))) .nil), 1⟩
abbrev s_Field_element : Stmt := (inClass (top 14) 2)
def n_Field_element : List Str := (["self", "digits", "result", "digit"] : List Str)
def p_Field_element : List Str := (["self", "digits"] : List Str)
def c_Field_element : CD := ⟨2, 4, (.cons (.asg 2 (.int 0)) (.cons (.forr (.nm 3) (.rev (.var 1)) [2] (.cons (.asg 2 (.bin .add (.bin .mul (.var 2) (.att (.var 0) 98)) (.var 3))) .nil)) (.cons (.ret (.var 2)) .nil))), 2⟩
abbrev s_Field_times : Stmt := (inClass (top 14) 7)
def n_Field_times : List Str := (["self", "a", "b", "first", "second", "product", "i", "j"] : List Str)
def p_Field_times : List Str := (["self", "a", "b"] : List Str)
def c_Field_times : CD := ⟨3, 8, (.cons (.ifs (.cmp .eq (.att (.var 0) 100) (.int 1)) (.cons (.ret (.bin .mod (.bin .mul (.var 1) (.var 2)) (.att (.var 0) 98))) .nil) .nil) (.cons (.asg 3 (.meth (.var 0) 1 (.cons (.var 1) .nil))) (.cons (.asg 4 (.meth (.var 0) 1 (.cons (.var 2) .nil))) (.cons (.asg 5 (.bin .mul (.lst (.cons (.int 0) .nil)) (.bin .sub (.bin .mul (.int 2) (.att (.var 0) 100)) (.int 1)))) (.cons (.forr (.nm 6) (.rng1 (.att (.var 0) 100)) [3, 4, 5] (.cons (.forr (.nm 7) (.rng1 (.att (.var 0) 100)) [3, 4, 5] (.cons (.sti 5 (.bin .add (.var 6) (.var 7)) (.bin .mod (.bin .add (.idx (.var 5) (.bin .add (.var 6) (.var 7))) (.bin .mul (.idx (.var 3) (.var 6)) (.idx (.var 4) (.var 7)))) (.att (.var 0) 98))) .nil)) .nil)) (.cons (.ret (.meth (.var 0) 2 (.cons (.call 156 (.cons (.att (.var 0) 98) (.cons (.var 5) (.cons (.att (.var 0) 99) .nil)))) .nil))) .nil)))))), 2⟩
abbrev s_Field_power : Stmt := (inClass (top 14) 10)
def n_Field_power : List Str := (["self", "a", "exponent", "result", "square"] : List Str)
def p_Field_power : List Str := (["self", "a", "exponent"] : List Str)
def c_Field_power : CD := ⟨3, 5, (.cons (.asg 3 (.int 1)) (.cons (.asg 4 (.var 1)) (.cons (.whl (.cmp .gt (.var 2) (.int 0)) [3] (.cons (.ifs (.cmp .eq (.bin .mod (.var 2) (.int 2)) (.int 1)) (.cons (.asg 3 (.meth (.var 0) 7 (.cons (.var 3) (.cons (.var 4) .nil)))) .nil) .nil) (.cons (.asg 4 (.meth (.var 0) 7 (.cons (.var 4) (.cons (.var 4) .nil)))) (.cons (.asg 2 (.bin .fdiv (.var 2) (.int 2))) .nil)))) (.cons (.ret (.var 3)) .nil)))), 2⟩
abbrev s_Field_same_as : Stmt := (inClass (top 14) 14)
def n_Field_same_as : List Str := (["self", "other"] : List Str)
def p_Field_same_as : List Str := (["self", "other"] : List Str)
def c_Field_same_as : CD := ⟨2, 2, (.cons (.ret (.and (.cmp .eq (.att (.var 0) 98) (.att (.var 1) 98)) (.cmp .eq (.att (.var 0) 99) (.att (.var 1) 99)))) .nil), 2⟩
abbrev s_format_field : Stmt := (top 16)
def n_format_field : List Str := (["field", "numbers", "coefficient"] : List Str)
def p_format_field : List Str := (["field"] : List Str)
def c_format_field : CD := ⟨1, 3, (.cons (.asg 1 (.lst (.cons (.att (.var 0) 98) .nil))) (.cons (.forr (.nm 2) (.seq (.att (.var 0) 99)) [1] (.cons (.app 1 (.var 2)) .nil)) (.cons (.ret (.bin .add (.str "field ") (.call 316 (.cons (.var 1) .nil)))) .nil))), 2⟩
abbrev s_format_word : Stmt := (top 17)
def n_format_word : List Str := (["word", "parts", "item"] : List Str)
def p_format_word : List Str := (["word"] : List Str)
def c_format_word : CD := ⟨1, 3, (.cons (.asg 1 (.lst .nil)) (.cons (.forr (.nm 2) (.seq (.var 0)) [1] (.cons (.ifs (.isc false (.var 2) none) (.cons (.app 1 (.str "?")) .nil) (.cons (.app 1 (.blt .str (.cons (.var 2) .nil))) .nil)) .nil)) (.cons (.ret (.bm .join (.str " ") (.cons (.var 1) .nil))) .nil))), 2⟩
abbrev s_read_number : Stmt := (top 18)
def n_read_number : List Str := (["part", "char"] : List Str)
def p_read_number : List Str := (["part"] : List Str)
def c_read_number : CD := ⟨1, 2, (.cons (.ifs (.not (.chn .le .le (.int 1) (.blt .len (.cons (.var 0) .nil)) (.int 3))) (.cons (.ret .non) .nil) .nil) (.cons (.forr (.nm 1) (.seq (.var 0)) [] (.cons (.ifs (.cmp .notin (.var 1) (.str "0123456789")) (.cons (.ret .non) .nil) .nil) .nil)) (.cons (.ifs (.and (.cmp .gt (.blt .len (.cons (.var 0) .nil)) (.int 1)) (.cmp .eq (.idx (.var 0) (.int 0)) (.str "0"))) (.cons (.ret .non) .nil) .nil) (.cons (.ret (.blt .int (.cons (.var 0) .nil))) .nil)))), 2⟩
abbrev s_read_line : Stmt := (top 19)
def n_read_line : List Str := (["text", "word", "parts", "numbers", "part"] : List Str)
def p_read_line : List Str := (["text", "word"] : List Str)
def c_read_line : CD := ⟨2, 5, (.cons (.asg 2 (.bm .split (.var 0) (.cons (.str " ") .nil))) (.cons (.ifs (.cmp .ne (.idx (.var 2) (.int 0)) (.var 1)) (.cons (.ret .non) .nil) .nil) (.cons (.asg 3 (.cmpr (.call 318 (.cons (.var 4) .nil)) (.nm 4) (.seq (.slc (.var 2) (.int 1) .omit)))) (.cons (.ifs (.cmp .isin .non (.var 3)) (.cons (.ret .non) .nil) .nil) (.cons (.ret (.var 3)) .nil))))), 1⟩
abbrev s_read_field : Stmt := (top 20)
def n_read_field : List Str := (["line", "numbers"] : List Str)
def p_read_field : List Str := (["line"] : List Str)
def c_read_field : CD := ⟨1, 2, (.cons (.asg 1 (.call 319 (.cons (.var 0) (.cons (.str "field") .nil)))) (.cons (.ifs (.or (.isc false (.var 1) none) (.cmp .lt (.blt .len (.cons (.var 1) .nil)) (.int 2))) (.cons (.ret .non) .nil) .nil) (.cons (.tri [1] (.cons (.ret (.make 21 (.cons (.idx (.var 1) (.int 0)) (.cons (.blt .tuple (.cons (.slc (.var 1) (.int 1) .omit) .nil)) .nil)))) .nil) (.cons 1 none (.cons (.ret .non) .nil) .nil)) .nil))), 1⟩
abbrev s_parse_field : Stmt := (top 21)
def n_parse_field : List Str := (["text", "lines", "field"] : List Str)
def p_parse_field : List Str := (["text"] : List Str)
def c_parse_field : CD := ⟨1, 3, (.cons (.asg 1 (.bm .split (.var 0) (.cons (.str "\n") .nil))) (.cons (.asg 2 (.call 320 (.cons (.idx (.var 1) (.int 0)) .nil))) (.cons (.ifs (.isc false (.var 2) none) (.cons (.rse1 0 .omit) .nil) .nil) (.cons (.ifs (.cmp .gt (.blt .len (.cons (.var 1) .nil)) (.int 1)) (.cons (.rse1 0 .omit) .nil) .nil) (.cons (.ret (.var 2)) .nil))))), 1⟩
abbrev s_parse_word : Stmt := (top 22)
def n_parse_word : List Str := (["field", "text", "word", "part", "number"] : List Str)
def p_parse_word : List Str := (["field", "text"] : List Str)
def c_parse_word : CD := ⟨2, 5, (.cons (.asg 2 (.lst .nil)) (.cons (.forr (.nm 3) (.seq (.bm .split (.var 1) (.cons (.str " ") .nil))) [2] (.cons (.ifs (.cmp .eq (.var 3) (.str "?")) (.cons (.app 2 .non) (.cons .cnt .nil)) .nil) (.cons (.asg 4 (.call 318 (.cons (.var 3) .nil))) (.cons (.ifs (.or (.isc false (.var 4) none) (.cmp .ge (.var 4) (.att (.var 0) 101))) (.cons (.rse1 0 .omit) .nil) .nil) (.cons (.app 2 (.var 4)) .nil))))) (.cons (.ifs (.cmp .gt (.blt .len (.cons (.var 2) .nil)) (.int 255)) (.cons (.rse1 0 .omit) .nil) .nil) (.cons (.ret (.var 2)) .nil)))), 1⟩
abbrev s__law_row : Stmt := (top 24)
def n__law_row : List Str := (["_law_cell", "_law_many", "_law_row_here", "_law_rest", "_law_state", "_law_k"] : List Str)
def p__law_row : List Str := (["_law_cell", "_law_many"] : List Str)
def c__law_row : CD := ⟨2, 6, (.cons (.asg 2 (.lst .nil)) (.cons (.asg 3 (.int 0)) (.cons (.ifs (.cmp .ge (.blt .abs (.cons (.var 0) .nil)) (.bin .pow (.int 10) (.int 18))) (.cons (.asg 3 (.blt .abs (.cons (.var 0) .nil))) .nil) .nil) (.cons (.asg 4 (.bin .mod (.blt .int (.cons (.blt .abs (.cons (.var 0) .nil)) .nil)) (.int 2147483647))) (.cons (.forr (.nm 5) (.rng1 (.var 1)) [2, 3, 4] (.cons (.asg 4 (.bin .mod (.blt .int (.cons (.bin .add (.bin .mul (.bin .add (.var 4) (.int 1)) (.int 48271)) (.bin .mul (.int 69621) (.var 5))) .nil)) (.int 2147483647))) (.cons (.ifs (.cmp .gt (.var 3) (.int 0)) (.cons (.app 2 (.bin .mod (.blt .int (.cons (.var 3) .nil)) (.int 1009))) (.cons (.asg 3 (.bin .fdiv (.var 3) (.int 1009))) .nil)) (.cons (.app 2 (.bin .mod (.blt .int (.cons (.bin .fdiv (.var 4) (.int 2048)) .nil)) (.int 1009))) .nil)) .nil))) (.cons (.ret (.var 2)) .nil)))))), 1⟩
abbrev s__law_numbers : Stmt := (top 25)
def n__law_numbers : List Str := (["_law_script", "_law_many", "_law_cells", "_law_each", "_law_numbers_here", "_law_cell", "_law_number"] : List Str)
def p__law_numbers : List Str := (["_law_script", "_law_many"] : List Str)
def c__law_numbers : CD := ⟨2, 7, (.cons (.asg 2 (.slc (.var 0) .omit (.int 63))) (.cons (.asg 3 (.bin .add (.int 1) (.bin .fdiv (.var 1) (.blt .max (.cons (.int 1) (.cons (.blt .len (.cons (.var 2) .nil)) .nil)))))) (.cons (.asg 4 (.lst .nil)) (.cons (.forr (.nm 5) (.seq (.var 2)) [4] (.cons (.forr (.nm 6) (.seq (.call 1000 (.cons (.var 5) (.cons (.var 3) .nil)))) [4] (.cons (.app 4 (.var 6)) .nil)) .nil)) (.cons (.whl (.cmp .lt (.blt .len (.cons (.var 4) .nil)) (.var 1)) [4] (.cons (.app 4 (.int 0)) .nil)) (.cons (.ret (.slc (.var 4) .omit (.var 1))) .nil)))))), 1⟩
abbrev s__law_field : Stmt := (top 26)
def n__law_field : List Str := (["_law_number", "_law_choices"] : List Str)
def p__law_field : List Str := (["_law_number"] : List Str)
def c__law_field : CD := ⟨1, 2, (.cons (.asg 1 (.lst (.cons (.tup (.cons (.int 2) (.cons (.tup (.cons (.int 0) (.cons (.int 1) .nil))) .nil))) (.cons (.tup (.cons (.int 3) (.cons (.tup (.cons (.int 0) (.cons (.int 1) .nil))) .nil))) (.cons (.tup (.cons (.int 2) (.cons (.tup (.cons (.int 1) (.cons (.int 1) (.cons (.int 1) .nil)))) .nil))) (.cons (.tup (.cons (.int 5) (.cons (.tup (.cons (.int 0) (.cons (.int 1) .nil))) .nil))) (.cons (.tup (.cons (.int 13) (.cons (.tup (.cons (.int 0) (.cons (.int 1) .nil))) .nil))) (.cons (.tup (.cons (.int 7) (.cons (.tup (.cons (.int 0) (.cons (.int 1) .nil))) .nil))) (.cons (.tup (.cons (.int 3) (.cons (.tup (.cons (.int 1) (.cons (.int 0) (.cons (.int 1) .nil)))) .nil))) (.cons (.tup (.cons (.int 2) (.cons (.tup (.cons (.int 1) (.cons (.int 1) (.cons (.int 0) (.cons (.int 1) .nil))))) .nil))) .nil)))))))))) (.cons (.asg 1 (.bin .add (.var 1) (.lst (.cons (.tup (.cons (.int 31) (.cons (.tup (.cons (.int 0) (.cons (.int 1) .nil))) .nil))) (.cons (.tup (.cons (.int 2) (.cons (.tup (.cons (.int 1) (.cons (.int 1) (.cons (.int 0) (.cons (.int 1) (.cons (.int 0) (.cons (.int 1) (.cons (.int 0) (.cons (.int 0) (.cons (.int 1) .nil)))))))))) .nil))) (.cons (.tup (.cons (.int 13) (.cons (.tup (.cons (.int 12) (.cons (.int 1) .nil))) .nil))) (.cons (.tup (.cons (.int 11) (.cons (.tup (.cons (.int 1) (.cons (.int 0) (.cons (.int 1) .nil)))) .nil))) .nil))))))) (.cons (.ret (.idx (.var 1) (.bin .mod (.blt .int (.cons (.var 0) .nil)) (.int 12)))) .nil))), 0⟩
abbrev s__law_order : Stmt := (top 27)
def n__law_order : List Str := (["_law_pair", "_law_order_here", "_law_k"] : List Str)
def p__law_order : List Str := (["_law_pair"] : List Str)
def c__law_order : CD := ⟨1, 3, (.cons (.asg 1 (.int 1)) (.cons (.forr (.nm 2) (.rng1 (.bin .sub (.blt .len (.cons (.idx (.var 0) (.int 1)) .nil)) (.int 1))) [1] (.cons (.asg 1 (.bin .mul (.var 1) (.idx (.var 0) (.int 0)))) .nil)) (.cons (.ret (.var 1)) .nil))), 1⟩
abbrev s__law_is_integer : Stmt := (top 28)
def n__law_is_integer : List Str := (["_law_actual"] : List Str)
def p__law_is_integer : List Str := (["_law_actual"] : List Str)
def c__law_is_integer : CD := ⟨1, 1, (.cons (.ret (.and (.isi (.var 0) .int) (.not (.isi (.var 0) .bool)))) .nil), 0⟩
abbrev s_law : Stmt := (top 29)
def n_law : List Str := (["_law_script", "_law_numbers_here", "_law_pair", "_law_order_here", "_law_field_here", "_law_line", "_law_coefficient", "_law_again", "_law_size", "_law_word", "_law_k", "_law_item"] : List Str) ++ (["_law_given", "_law_text", "_law_due", "_law_told"] : List Str)
def p_law : List Str := (["_law_script"] : List Str)
def c_law : CD := ⟨1, 16, (.cons (.asg 1 (.call 1001 (.cons (.var 0) (.cons (.int 300) .nil)))) (.cons (.asg 2 (.call 1002 (.cons (.idx (.var 1) (.int 0)) .nil))) (.cons (.asg 3 (.call 1003 (.cons (.var 2) .nil))) (.cons (.asg 4 (.make 21 (.cons (.idx (.var 2) (.int 0)) (.cons (.idx (.var 2) (.int 1)) .nil)))) (.cons (.asg 5 (.bin .add (.str "field ") (.blt .str (.cons (.idx (.var 2) (.int 0)) .nil)))) (.cons (.forr (.nm 6) (.seq (.idx (.var 2) (.int 1))) [1, 3, 4, 5] (.cons (.asg 5 (.bin .add (.bin .add (.var 5) (.str " ")) (.blt .str (.cons (.var 6) .nil)))) .nil)) (.cons (.ifs (.cmp .ne (.call 315 (.cons (.var 4) .nil)) (.var 5)) (.cons (.ret (.bl false)) .nil) .nil) (.cons (.asg 7 (.call 321 (.cons (.var 5) .nil))) (.cons (.ifs (.or (.cmp .ne (.att (.var 7) 98) (.idx (.var 2) (.int 0))) (.or (.cmp .ne (.att (.var 7) 99) (.idx (.var 2) (.int 1))) (.isc true (.meth (.var 7) 14 (.cons (.var 4) .nil)) (some true)))) (.cons (.ret (.bl false)) .nil) .nil) (.cons (.asg 8 (.bin .add (.int 1) (.bin .mod (.blt .int (.cons (.idx (.var 1) (.int 1)) .nil)) (.int 12)))) (.cons (.ifs (.cmp .eq (.bin .mod (.blt .int (.cons (.idx (.var 1) (.int 2)) .nil)) (.int 4)) (.int 0)) (.cons (.asg 8 (.bin .add (.int 13) (.bin .mod (.blt .int (.cons (.idx (.var 1) (.int 1)) .nil)) (.int 243)))) .nil) .nil) (.cons (.asg 9 (.lst .nil)) (.cons (.forr (.nm 10) (.rng1 (.var 8)) [1, 3, 4, 8, 9] (.cons (.asg 11 (.bin .mod (.blt .int (.cons (.idx (.var 1) (.bin .add (.int 10) (.var 10))) .nil)) (.bin .add (.var 3) (.int 1)))) (.cons (.ifs (.cmp .eq (.var 11) (.var 3)) (.cons (.app 9 .non) .nil) (.cons (.app 9 (.var 11)) .nil)) .nil))) (.cons (.asg 12 (.blt .list (.cons (.var 9) .nil))) (.cons (.asg 13 (.call 316 (.cons (.var 12) .nil))) (.cons (.asg 14 (.lst .nil)) (.cons (.forr (.nm 11) (.seq (.var 9)) [1, 3, 4, 8, 12, 13, 14] (.cons (.ifs (.isc false (.var 11) none) (.cons (.app 14 (.str "?")) .nil) (.cons (.app 14 (.blt .str (.cons (.var 11) .nil))) .nil)) .nil)) (.cons (.ifs (.or (.cmp .ne (.var 13) (.bm .join (.str " ") (.cons (.var 14) .nil))) (.cmp .ne (.var 12) (.var 9))) (.cons (.ret (.bl false)) .nil) .nil) (.cons (.asg 15 (.call 324 (.cons (.var 4) (.cons (.var 13) .nil)))) (.cons (.ifs (.or (.not (.isi (.var 15) .list)) (.cmp .ne (.var 15) (.var 9))) (.cons (.ret (.bl false)) .nil) .nil) (.cons (.ret (.cmp .eq (.blt .len (.cons (.cmpi (.var 11) (.nm 11) (.seq (.var 15)) (.and (.isc true (.var 11) none) (.not (.call 1004 (.cons (.var 11) .nil))))) .nil)) (.int 0))) .nil))))))))))))))))))))), 1⟩
def ddL : List (Nat × Option Nat × CD) := [(153, none, c_int_power), (154, none, c_is_prime), (155, none, c_base_digits), (156, none, c_integer_remainder), (157, none, c_is_irreducible), (158, none, c_is_modulus), (5, some 21, c_Field___init__), (6, none, c_Field_digits), (7, none, c_Field_element), (12, none, c_Field_times), (15, none, c_Field_power), (19, none, c_Field_same_as), (315, none, c_format_field), (316, none, c_format_word), (318, none, c_read_number), (319, none, c_read_line), (320, none, c_read_field), (321, none, c_parse_field), (324, none, c_parse_word), (1000, none, c__law_row), (1001, none, c__law_numbers), (1002, none, c__law_field), (1003, none, c__law_order), (1004, none, c__law_is_integer), (1005, none, c_law)]
def meL : List ((Nat × Nat) × Nat) := [((21, 1), 6), ((21, 2), 7), ((21, 7), 12), ((21, 10), 15), ((21, 14), 19)]
def prL : List ((Nat × Nat) × Nat) := []
def inL : List (Nat × Nat) := [(21, 5)]
def subL : List (Str × Str) := [("InvalidField", "InvalidField")]
def U : Up := ⟨fun c k => subL.contains (nameOf xcL "CodeError" c, nameOf xcL "CodeError" k)⟩
def rkL : List (Nat × Nat) := [(153, 0), (154, 0), (155, 0), (156, 0), (157, 1), (158, 2), (5, 3), (6, 1), (7, 0), (12, 2), (15, 3), (19, 0), (315, 1), (316, 0), (318, 0), (319, 1), (320, 4), (321, 5), (324, 1), (1000, 0), (1001, 1), (1002, 0), (1003, 0), (1004, 0), (1005, 6)]
def tl : TL := ⟨ddL, meL, prL, inL, rkL⟩
def tab : Tab := tl.tab U
def cstL : List (Str × Int) := [("LARGEST_PRIME", 31), ("LARGEST_ORDER", 256)]
def kd : Kd := ⟨fun i => (([(153, 2), (154, 2), (155, 1), (156, 1), (157, 2), (158, 2), (315, 2), (316, 2), (318, 2), (319, 1), (320, 1), (321, 1), (324, 1), (1000, 1), (1001, 1), (1003, 1), (1005, 1)] : List (Nat × Nat)).lookup i).getD 0, fun m => (([(1, 1), (2, 2), (7, 2), (10, 2), (14, 2)] : List (Nat × Nat)).lookup m).getD 0⟩
def z0 : Zx where
  N := []
  sc := ⟨.function, [], false, false, []⟩
  kd := kd
  fnN := nameOf fnL ""
  clN := nameOf clL ""
  atN := an
  cst := fun x => cstL.lookup x
  okF := fun i => List.contains ([153, 154, 155, 156, 157, 158, 315, 316, 318, 319, 320, 321, 324, 1000, 1001, 1002, 1003, 1004, 1005] : List Nat) i
  okM := fun i => List.contains ([1, 2, 7, 10, 14] : List Nat) i
  okP := fun i => List.contains ([] : List Nat) i
  okK := fun i => List.contains ([21] : List Nat) i
  okX := fun i => List.contains ([1] : List Nat) i
  okY := fun _ => false
  okA := fun i => List.contains ([98, 99, 100, 101] : List Nat) i
  okH := fun i => List.contains ([1] : List Nat) i
  hot := fun _ => false
def fa : List He.Fa := ([.glo "int_power", .glo "is_prime", .glo "base_digits", .glo "integer_remainder", .glo "is_irreducible", .glo "is_modulus", .glo "format_field", .glo "format_word", .glo "read_number", .glo "read_line", .glo "read_field", .glo "parse_field", .glo "parse_word", .glo "_law_row", .glo "_law_numbers", .glo "_law_field"] : List He.Fa) ++ ([.glo "_law_order", .glo "_law_is_integer", .glo "law", .glo "CodeError", .glo "InvalidField", .glo "InvalidNotation", .glo "Field", .free "len", .free "abs", .free "int", .free "str", .free "max", .free "min", .free "sum", .free "sorted", .free "list"] : List He.Fa) ++ ([.free "tuple", .free "range", .free "reversed", .free "zip", .free "enumerate", .free "isinstance", .free "bool", .free "set", .free "dict", .int "LARGEST_PRIME" 31, .int "LARGEST_ORDER" 256, .cls "Field", .noat "Field" "prime", .noat "Field" "modulus", .noat "Field" "degree", .noat "Field" "order"] : List He.Fa) ++ ([.meth "Field" "digits", .meth "Field" "element", .meth "Field" "times", .meth "Field" "power", .meth "Field" "same_as", .mkr "Field", .exc "InvalidField", .exm "CodeError" "InvalidField" false, .exm "InvalidField" "InvalidField" true, .exm "InvalidNotation" "InvalidField" false] : List He.Fa)
def d_int_power : He.DefD := ⟨("int_power", none), "int_power", "int_power", defArgs s_int_power, defBody s_int_power, defScope s_int_power, [], []⟩
def d_is_prime : He.DefD := ⟨("is_prime", none), "is_prime", "is_prime", defArgs s_is_prime, defBody s_is_prime, defScope s_is_prime, [], []⟩
def d_base_digits : He.DefD := ⟨("base_digits", none), "base_digits", "base_digits", defArgs s_base_digits, defBody s_base_digits, defScope s_base_digits, [], []⟩
def d_integer_remainder : He.DefD := ⟨("integer_remainder", none), "integer_remainder", "integer_remainder", defArgs s_integer_remainder, defBody s_integer_remainder, defScope s_integer_remainder, [], []⟩
def d_is_irreducible : He.DefD := ⟨("is_irreducible", none), "is_irreducible", "is_irreducible", defArgs s_is_irreducible, defBody s_is_irreducible, defScope s_is_irreducible, [], []⟩
def d_is_modulus : He.DefD := ⟨("is_modulus", none), "is_modulus", "is_modulus", defArgs s_is_modulus, defBody s_is_modulus, defScope s_is_modulus, [], []⟩
def d_Field___init__ : He.DefD := ⟨("Field", some "__init__"), "__init__", "Field.__init__", defArgs s_Field___init__, defBody s_Field___init__, defScope s_Field___init__, [.adr (He.dflAt ("Field", some "__init__") 0)], []⟩
def d_Field_digits : He.DefD := ⟨("Field", some "digits"), "digits", "Field.digits", defArgs s_Field_digits, defBody s_Field_digits, defScope s_Field_digits, [], []⟩
def d_Field_element : He.DefD := ⟨("Field", some "element"), "element", "Field.element", defArgs s_Field_element, defBody s_Field_element, defScope s_Field_element, [], []⟩
def d_Field_times : He.DefD := ⟨("Field", some "times"), "times", "Field.times", defArgs s_Field_times, defBody s_Field_times, defScope s_Field_times, [], []⟩
def d_Field_power : He.DefD := ⟨("Field", some "power"), "power", "Field.power", defArgs s_Field_power, defBody s_Field_power, defScope s_Field_power, [], []⟩
def d_Field_same_as : He.DefD := ⟨("Field", some "same_as"), "same_as", "Field.same_as", defArgs s_Field_same_as, defBody s_Field_same_as, defScope s_Field_same_as, [], []⟩
def d_format_field : He.DefD := ⟨("format_field", none), "format_field", "format_field", defArgs s_format_field, defBody s_format_field, defScope s_format_field, [], []⟩
def d_format_word : He.DefD := ⟨("format_word", none), "format_word", "format_word", defArgs s_format_word, defBody s_format_word, defScope s_format_word, [], []⟩
def d_read_number : He.DefD := ⟨("read_number", none), "read_number", "read_number", defArgs s_read_number, defBody s_read_number, defScope s_read_number, [], []⟩
def d_read_line : He.DefD := ⟨("read_line", none), "read_line", "read_line", defArgs s_read_line, defBody s_read_line, defScope s_read_line, [], []⟩
def d_read_field : He.DefD := ⟨("read_field", none), "read_field", "read_field", defArgs s_read_field, defBody s_read_field, defScope s_read_field, [], []⟩
def d_parse_field : He.DefD := ⟨("parse_field", none), "parse_field", "parse_field", defArgs s_parse_field, defBody s_parse_field, defScope s_parse_field, [], []⟩
def d_parse_word : He.DefD := ⟨("parse_word", none), "parse_word", "parse_word", defArgs s_parse_word, defBody s_parse_word, defScope s_parse_word, [], []⟩
def d__law_row : He.DefD := ⟨("_law_row", none), "_law_row", "_law_row", defArgs s__law_row, defBody s__law_row, defScope s__law_row, [], []⟩
def d__law_numbers : He.DefD := ⟨("_law_numbers", none), "_law_numbers", "_law_numbers", defArgs s__law_numbers, defBody s__law_numbers, defScope s__law_numbers, [], []⟩
def d__law_field : He.DefD := ⟨("_law_field", none), "_law_field", "_law_field", defArgs s__law_field, defBody s__law_field, defScope s__law_field, [], []⟩
def d__law_order : He.DefD := ⟨("_law_order", none), "_law_order", "_law_order", defArgs s__law_order, defBody s__law_order, defScope s__law_order, [], []⟩
def d__law_is_integer : He.DefD := ⟨("_law_is_integer", none), "_law_is_integer", "_law_is_integer", defArgs s__law_is_integer, defBody s__law_is_integer, defScope s__law_is_integer, [], []⟩
def d_law : He.DefD := ⟨("law", none), "law", "law", defArgs s_law, defBody s_law, defScope s_law, [], []⟩
def fn : List He.DefD := [d_int_power, d_is_prime, d_base_digits, d_integer_remainder, d_is_irreducible, d_is_modulus, d_Field___init__, d_Field_digits, d_Field_element, d_Field_times, d_Field_power, d_Field_same_as, d_format_field, d_format_word, d_read_number, d_read_line, d_read_field, d_parse_field, d_parse_word, d__law_row, d__law_numbers, d__law_field, d__law_order, d__law_is_integer, d_law]
abbrev RwR : PySem.W.OpenRow := PySem.W.OpenLaw.row PySem.Challenge.rw_nearestword_k74_written_fields_and_words
abbrev hk : PySem.W.Hook := He.hookD 5 fa fn
def ob (s : PySem.W.SharedT) : He.AlD := He.obsDG 5 fa fn (HandSHeadRun.getT s)
theorem ob_eq (s : PySem.W.SharedT) : ob s = hk.obs s.abs := He.obsDG_eq (HandSHeadRun.getT_eq s)
def loose : List Str := (["_wall", "__name__", "CodeError", "InvalidField", "InvalidNotation", "LARGEST_PRIME", "LARGEST_ORDER", "int_power", "is_prime", "base_digits", "integer_remainder", "is_irreducible"] : List Str) ++ (["is_modulus", "Field", "format_field", "format_word", "read_number", "read_line", "read_field", "parse_field", "parse_word", "_law_row", "_law_numbers", "_law_field"] : List Str) ++ (["_law_order", "_law_is_integer"] : List Str)
theorem run (w : World) : HandSHeadRun.RunEq RwR (PySem.W.view RwR.prog [29]) hk ob 4000 loose w := by
  intro os
  kernel_rfl
theorem k_int_power : defC (zOf z0 n_int_power (defScope s_int_power)) c_int_power p_int_power (defBody s_int_power) (List.replicate (zOf z0 n_int_power (defScope s_int_power)).N.length false) = true := by decide +kernel
theorem k_is_prime : defC (zOf z0 n_is_prime (defScope s_is_prime)) c_is_prime p_is_prime (defBody s_is_prime) (List.replicate (zOf z0 n_is_prime (defScope s_is_prime)).N.length false) = true := by decide +kernel
theorem k_base_digits : defC (zOf z0 n_base_digits (defScope s_base_digits)) c_base_digits p_base_digits (defBody s_base_digits) (List.replicate (zOf z0 n_base_digits (defScope s_base_digits)).N.length false) = true := by decide +kernel
theorem k_integer_remainder : defC (zOf z0 n_integer_remainder (defScope s_integer_remainder)) c_integer_remainder p_integer_remainder (defBody s_integer_remainder) (List.replicate (zOf z0 n_integer_remainder (defScope s_integer_remainder)).N.length false) = true := by decide +kernel
theorem k_is_irreducible : defC (zOf z0 n_is_irreducible (defScope s_is_irreducible)) c_is_irreducible p_is_irreducible (defBody s_is_irreducible) (List.replicate (zOf z0 n_is_irreducible (defScope s_is_irreducible)).N.length false) = true := by decide +kernel
theorem k_is_modulus : defC (zOf z0 n_is_modulus (defScope s_is_modulus)) c_is_modulus p_is_modulus (defBody s_is_modulus) (List.replicate (zOf z0 n_is_modulus (defScope s_is_modulus)).N.length false) = true := by decide +kernel
theorem k_Field___init__ : iniC (zOf z0 n_Field___init__ (defScope s_Field___init__)) c_Field___init__ p_Field___init__ (defBody s_Field___init__) = true := by decide +kernel
theorem k_Field_digits : defC (zOf z0 n_Field_digits (defScope s_Field_digits)) c_Field_digits p_Field_digits (defBody s_Field_digits) (List.replicate (zOf z0 n_Field_digits (defScope s_Field_digits)).N.length false) = true := by decide +kernel
theorem k_Field_element : defC (zOf z0 n_Field_element (defScope s_Field_element)) c_Field_element p_Field_element (defBody s_Field_element) (List.replicate (zOf z0 n_Field_element (defScope s_Field_element)).N.length false) = true := by decide +kernel
theorem k_Field_times : defC (zOf z0 n_Field_times (defScope s_Field_times)) c_Field_times p_Field_times (defBody s_Field_times) (List.replicate (zOf z0 n_Field_times (defScope s_Field_times)).N.length false) = true := by decide +kernel
theorem k_Field_power : defC (zOf z0 n_Field_power (defScope s_Field_power)) c_Field_power p_Field_power (defBody s_Field_power) (List.replicate (zOf z0 n_Field_power (defScope s_Field_power)).N.length false) = true := by decide +kernel
theorem k_Field_same_as : defC (zOf z0 n_Field_same_as (defScope s_Field_same_as)) c_Field_same_as p_Field_same_as (defBody s_Field_same_as) (List.replicate (zOf z0 n_Field_same_as (defScope s_Field_same_as)).N.length false) = true := by decide +kernel
theorem k_format_field : defC (zOf z0 n_format_field (defScope s_format_field)) c_format_field p_format_field (defBody s_format_field) (List.replicate (zOf z0 n_format_field (defScope s_format_field)).N.length false) = true := by decide +kernel
theorem k_format_word : defC (zOf z0 n_format_word (defScope s_format_word)) c_format_word p_format_word (defBody s_format_word) (List.replicate (zOf z0 n_format_word (defScope s_format_word)).N.length false) = true := by decide +kernel
theorem k_read_number : defC (zOf z0 n_read_number (defScope s_read_number)) c_read_number p_read_number (defBody s_read_number) (List.replicate (zOf z0 n_read_number (defScope s_read_number)).N.length false) = true := by decide +kernel
theorem k_read_line : defC (zOf z0 n_read_line (defScope s_read_line)) c_read_line p_read_line (defBody s_read_line) (List.replicate (zOf z0 n_read_line (defScope s_read_line)).N.length false) = true := by decide +kernel
theorem k_read_field : defC (zOf z0 n_read_field (defScope s_read_field)) c_read_field p_read_field (defBody s_read_field) (List.replicate (zOf z0 n_read_field (defScope s_read_field)).N.length false) = true := by decide +kernel
theorem k_parse_field : defC (zOf z0 n_parse_field (defScope s_parse_field)) c_parse_field p_parse_field (defBody s_parse_field) (List.replicate (zOf z0 n_parse_field (defScope s_parse_field)).N.length false) = true := by decide +kernel
theorem k_parse_word : defC (zOf z0 n_parse_word (defScope s_parse_word)) c_parse_word p_parse_word (defBody s_parse_word) (List.replicate (zOf z0 n_parse_word (defScope s_parse_word)).N.length false) = true := by decide +kernel
theorem k__law_row : defC (zOf z0 n__law_row (defScope s__law_row)) c__law_row p__law_row (defBody s__law_row) (List.replicate (zOf z0 n__law_row (defScope s__law_row)).N.length false) = true := by decide +kernel
theorem k__law_numbers : defC (zOf z0 n__law_numbers (defScope s__law_numbers)) c__law_numbers p__law_numbers (defBody s__law_numbers) (List.replicate (zOf z0 n__law_numbers (defScope s__law_numbers)).N.length false) = true := by decide +kernel
theorem k__law_field : defC (zOf z0 n__law_field (defScope s__law_field)) c__law_field p__law_field (defBody s__law_field) (List.replicate (zOf z0 n__law_field (defScope s__law_field)).N.length false) = true := by decide +kernel
theorem k__law_order : defC (zOf z0 n__law_order (defScope s__law_order)) c__law_order p__law_order (defBody s__law_order) (List.replicate (zOf z0 n__law_order (defScope s__law_order)).N.length false) = true := by decide +kernel
theorem k__law_is_integer : defC (zOf z0 n__law_is_integer (defScope s__law_is_integer)) c__law_is_integer p__law_is_integer (defBody s__law_is_integer) (List.replicate (zOf z0 n__law_is_integer (defScope s__law_is_integer)).N.length false) = true := by decide +kernel
theorem k_law : defC (zOf z0 n_law (defScope s_law)) c_law p_law (defBody s_law) (List.replicate (zOf z0 n_law (defScope s_law)).N.length false) = true := by decide +kernel
section
variable {K : PySem.W.Frag} {h : Heap} {mg : Str → Option Value} {P : Program} {w : World} {base : Heap}
theorem ux (c : He.SaysD fa fn K) (a k : Nat) (hk : z0.okH k = true) : PySem.W.exmOne (mkC K).K (.ref ((mkC K).cx a)) (.ref ((mkC K).cx k)) = some (U.sub a k) := by
  revert k
  refine all_of (l := [1]) ?_
  exact (all_cons (nameOf_all (p := fun s => PySem.W.exmOne K (.ref (He.ga K s)) (.ref (He.ga K "InvalidField")) = some (subL.contains (s, "InvalidField"))) (He.exm_ok (c.fact 55 (f := .exm "CodeError" "InvalidField" false) rfl)) (all_cons (He.exm_ok (c.fact 55 (f := .exm "CodeError" "InvalidField" false) rfl)) (all_cons (He.exm_ok (c.fact 56 (f := .exm "InvalidField" "InvalidField" true) rfl)) (all_cons (He.exm_ok (c.fact 57 (f := .exm "InvalidNotation" "InvalidField" false) rfl)) all_nil))) a) all_nil)
theorem fnG (KX : K.In h) (NS : h.Ns mainGlobals mg) (c : He.SaysD fa fn K) : ∀ i, z0.okF i = true → ∃ c f fd ps, tab.dd i = some (none, c) ∧ c.kind = z0.kd.fn i ∧ (∀ T k, GF z0 (mkC K) T k P w mg base → FnOk P w (mkC K).K mg base (L2.CX P w) (k + 2) f fd ps (spD (mkC K) (evDef T tab.U c) c.kind)) ∧ mg (z0.fnN i) = some (.ref f) ∧ PySem.W.keepIn (mkC K).K (.ref f) = true ∧ Binds (mkC K).K fd ps [] := by
  refine all_of (l := [153, 154, 155, 156, 157, 158, 315, 316, 318, 319, 320, 321, 324, 1000, 1001, 1002, 1003, 1004, 1005]) ?_
  refine all_cons (p := fun i => ∃ c f fd ps, tab.dd i = some (none, c) ∧ c.kind = z0.kd.fn i ∧ (∀ T k, GF z0 (mkC K) T k P w mg base → FnOk P w (mkC K).K mg base (L2.CX P w) (k + 2) f fd ps (spD (mkC K) (evDef T tab.U c) c.kind)) ∧ mg (z0.fnN i) = some (.ref f) ∧ PySem.W.keepIn (mkC K).K (.ref f) = true ∧ Binds (mkC K).K fd ps []) (by
      obtain ⟨fd, F⟩ := c.def_ 0 (d := d_int_power) rfl
      exact ⟨c_int_power, _, fd, p_int_power, rfl, rfl, fun T k G => def_ok (z := zOf z0 n_int_power (defScope s_int_power)) F (G.re n_int_power (defScope s_int_power)) (ux c) k_int_power, He.glo_ok KX NS (c.fact 0 (f := .glo "int_power") rfl), F.kp, F.bindsN (fun _ _ _ _ _ _ us hl => match us, hl with | [_, _], _ => rfl)⟩) ?_
  refine all_cons (p := fun i => ∃ c f fd ps, tab.dd i = some (none, c) ∧ c.kind = z0.kd.fn i ∧ (∀ T k, GF z0 (mkC K) T k P w mg base → FnOk P w (mkC K).K mg base (L2.CX P w) (k + 2) f fd ps (spD (mkC K) (evDef T tab.U c) c.kind)) ∧ mg (z0.fnN i) = some (.ref f) ∧ PySem.W.keepIn (mkC K).K (.ref f) = true ∧ Binds (mkC K).K fd ps []) (by
      obtain ⟨fd, F⟩ := c.def_ 1 (d := d_is_prime) rfl
      exact ⟨c_is_prime, _, fd, p_is_prime, rfl, rfl, fun T k G => def_ok (z := zOf z0 n_is_prime (defScope s_is_prime)) F (G.re n_is_prime (defScope s_is_prime)) (ux c) k_is_prime, He.glo_ok KX NS (c.fact 1 (f := .glo "is_prime") rfl), F.kp, F.bindsN (fun _ _ _ _ _ _ us hl => match us, hl with | [_], _ => rfl)⟩) ?_
  refine all_cons (p := fun i => ∃ c f fd ps, tab.dd i = some (none, c) ∧ c.kind = z0.kd.fn i ∧ (∀ T k, GF z0 (mkC K) T k P w mg base → FnOk P w (mkC K).K mg base (L2.CX P w) (k + 2) f fd ps (spD (mkC K) (evDef T tab.U c) c.kind)) ∧ mg (z0.fnN i) = some (.ref f) ∧ PySem.W.keepIn (mkC K).K (.ref f) = true ∧ Binds (mkC K).K fd ps []) (by
      obtain ⟨fd, F⟩ := c.def_ 2 (d := d_base_digits) rfl
      exact ⟨c_base_digits, _, fd, p_base_digits, rfl, rfl, fun T k G => def_ok (z := zOf z0 n_base_digits (defScope s_base_digits)) F (G.re n_base_digits (defScope s_base_digits)) (ux c) k_base_digits, He.glo_ok KX NS (c.fact 2 (f := .glo "base_digits") rfl), F.kp, F.bindsN (fun _ _ _ _ _ _ us hl => match us, hl with | [_, _, _], _ => rfl)⟩) ?_
  refine all_cons (p := fun i => ∃ c f fd ps, tab.dd i = some (none, c) ∧ c.kind = z0.kd.fn i ∧ (∀ T k, GF z0 (mkC K) T k P w mg base → FnOk P w (mkC K).K mg base (L2.CX P w) (k + 2) f fd ps (spD (mkC K) (evDef T tab.U c) c.kind)) ∧ mg (z0.fnN i) = some (.ref f) ∧ PySem.W.keepIn (mkC K).K (.ref f) = true ∧ Binds (mkC K).K fd ps []) (by
      obtain ⟨fd, F⟩ := c.def_ 3 (d := d_integer_remainder) rfl
      exact ⟨c_integer_remainder, _, fd, p_integer_remainder, rfl, rfl, fun T k G => def_ok (z := zOf z0 n_integer_remainder (defScope s_integer_remainder)) F (G.re n_integer_remainder (defScope s_integer_remainder)) (ux c) k_integer_remainder, He.glo_ok KX NS (c.fact 3 (f := .glo "integer_remainder") rfl), F.kp, F.bindsN (fun _ _ _ _ _ _ us hl => match us, hl with | [_, _, _], _ => rfl)⟩) ?_
  refine all_cons (p := fun i => ∃ c f fd ps, tab.dd i = some (none, c) ∧ c.kind = z0.kd.fn i ∧ (∀ T k, GF z0 (mkC K) T k P w mg base → FnOk P w (mkC K).K mg base (L2.CX P w) (k + 2) f fd ps (spD (mkC K) (evDef T tab.U c) c.kind)) ∧ mg (z0.fnN i) = some (.ref f) ∧ PySem.W.keepIn (mkC K).K (.ref f) = true ∧ Binds (mkC K).K fd ps []) (by
      obtain ⟨fd, F⟩ := c.def_ 4 (d := d_is_irreducible) rfl
      exact ⟨c_is_irreducible, _, fd, p_is_irreducible, rfl, rfl, fun T k G => def_ok (z := zOf z0 n_is_irreducible (defScope s_is_irreducible)) F (G.re n_is_irreducible (defScope s_is_irreducible)) (ux c) k_is_irreducible, He.glo_ok KX NS (c.fact 4 (f := .glo "is_irreducible") rfl), F.kp, F.bindsN (fun _ _ _ _ _ _ us hl => match us, hl with | [_, _], _ => rfl)⟩) ?_
  refine all_cons (p := fun i => ∃ c f fd ps, tab.dd i = some (none, c) ∧ c.kind = z0.kd.fn i ∧ (∀ T k, GF z0 (mkC K) T k P w mg base → FnOk P w (mkC K).K mg base (L2.CX P w) (k + 2) f fd ps (spD (mkC K) (evDef T tab.U c) c.kind)) ∧ mg (z0.fnN i) = some (.ref f) ∧ PySem.W.keepIn (mkC K).K (.ref f) = true ∧ Binds (mkC K).K fd ps []) (by
      obtain ⟨fd, F⟩ := c.def_ 5 (d := d_is_modulus) rfl
      exact ⟨c_is_modulus, _, fd, p_is_modulus, rfl, rfl, fun T k G => def_ok (z := zOf z0 n_is_modulus (defScope s_is_modulus)) F (G.re n_is_modulus (defScope s_is_modulus)) (ux c) k_is_modulus, He.glo_ok KX NS (c.fact 5 (f := .glo "is_modulus") rfl), F.kp, F.bindsN (fun _ _ _ _ _ _ us hl => match us, hl with | [_, _], _ => rfl)⟩) ?_
  refine all_cons (p := fun i => ∃ c f fd ps, tab.dd i = some (none, c) ∧ c.kind = z0.kd.fn i ∧ (∀ T k, GF z0 (mkC K) T k P w mg base → FnOk P w (mkC K).K mg base (L2.CX P w) (k + 2) f fd ps (spD (mkC K) (evDef T tab.U c) c.kind)) ∧ mg (z0.fnN i) = some (.ref f) ∧ PySem.W.keepIn (mkC K).K (.ref f) = true ∧ Binds (mkC K).K fd ps []) (by
      obtain ⟨fd, F⟩ := c.def_ 12 (d := d_format_field) rfl
      exact ⟨c_format_field, _, fd, p_format_field, rfl, rfl, fun T k G => def_ok (z := zOf z0 n_format_field (defScope s_format_field)) F (G.re n_format_field (defScope s_format_field)) (ux c) k_format_field, He.glo_ok KX NS (c.fact 6 (f := .glo "format_field") rfl), F.kp, F.bindsN (fun _ _ _ _ _ _ us hl => match us, hl with | [_], _ => rfl)⟩) ?_
  refine all_cons (p := fun i => ∃ c f fd ps, tab.dd i = some (none, c) ∧ c.kind = z0.kd.fn i ∧ (∀ T k, GF z0 (mkC K) T k P w mg base → FnOk P w (mkC K).K mg base (L2.CX P w) (k + 2) f fd ps (spD (mkC K) (evDef T tab.U c) c.kind)) ∧ mg (z0.fnN i) = some (.ref f) ∧ PySem.W.keepIn (mkC K).K (.ref f) = true ∧ Binds (mkC K).K fd ps []) (by
      obtain ⟨fd, F⟩ := c.def_ 13 (d := d_format_word) rfl
      exact ⟨c_format_word, _, fd, p_format_word, rfl, rfl, fun T k G => def_ok (z := zOf z0 n_format_word (defScope s_format_word)) F (G.re n_format_word (defScope s_format_word)) (ux c) k_format_word, He.glo_ok KX NS (c.fact 7 (f := .glo "format_word") rfl), F.kp, F.bindsN (fun _ _ _ _ _ _ us hl => match us, hl with | [_], _ => rfl)⟩) ?_
  refine all_cons (p := fun i => ∃ c f fd ps, tab.dd i = some (none, c) ∧ c.kind = z0.kd.fn i ∧ (∀ T k, GF z0 (mkC K) T k P w mg base → FnOk P w (mkC K).K mg base (L2.CX P w) (k + 2) f fd ps (spD (mkC K) (evDef T tab.U c) c.kind)) ∧ mg (z0.fnN i) = some (.ref f) ∧ PySem.W.keepIn (mkC K).K (.ref f) = true ∧ Binds (mkC K).K fd ps []) (by
      obtain ⟨fd, F⟩ := c.def_ 14 (d := d_read_number) rfl
      exact ⟨c_read_number, _, fd, p_read_number, rfl, rfl, fun T k G => def_ok (z := zOf z0 n_read_number (defScope s_read_number)) F (G.re n_read_number (defScope s_read_number)) (ux c) k_read_number, He.glo_ok KX NS (c.fact 8 (f := .glo "read_number") rfl), F.kp, F.bindsN (fun _ _ _ _ _ _ us hl => match us, hl with | [_], _ => rfl)⟩) ?_
  refine all_cons (p := fun i => ∃ c f fd ps, tab.dd i = some (none, c) ∧ c.kind = z0.kd.fn i ∧ (∀ T k, GF z0 (mkC K) T k P w mg base → FnOk P w (mkC K).K mg base (L2.CX P w) (k + 2) f fd ps (spD (mkC K) (evDef T tab.U c) c.kind)) ∧ mg (z0.fnN i) = some (.ref f) ∧ PySem.W.keepIn (mkC K).K (.ref f) = true ∧ Binds (mkC K).K fd ps []) (by
      obtain ⟨fd, F⟩ := c.def_ 15 (d := d_read_line) rfl
      exact ⟨c_read_line, _, fd, p_read_line, rfl, rfl, fun T k G => def_ok (z := zOf z0 n_read_line (defScope s_read_line)) F (G.re n_read_line (defScope s_read_line)) (ux c) k_read_line, He.glo_ok KX NS (c.fact 9 (f := .glo "read_line") rfl), F.kp, F.bindsN (fun _ _ _ _ _ _ us hl => match us, hl with | [_, _], _ => rfl)⟩) ?_
  refine all_cons (p := fun i => ∃ c f fd ps, tab.dd i = some (none, c) ∧ c.kind = z0.kd.fn i ∧ (∀ T k, GF z0 (mkC K) T k P w mg base → FnOk P w (mkC K).K mg base (L2.CX P w) (k + 2) f fd ps (spD (mkC K) (evDef T tab.U c) c.kind)) ∧ mg (z0.fnN i) = some (.ref f) ∧ PySem.W.keepIn (mkC K).K (.ref f) = true ∧ Binds (mkC K).K fd ps []) (by
      obtain ⟨fd, F⟩ := c.def_ 16 (d := d_read_field) rfl
      exact ⟨c_read_field, _, fd, p_read_field, rfl, rfl, fun T k G => def_ok (z := zOf z0 n_read_field (defScope s_read_field)) F (G.re n_read_field (defScope s_read_field)) (ux c) k_read_field, He.glo_ok KX NS (c.fact 10 (f := .glo "read_field") rfl), F.kp, F.bindsN (fun _ _ _ _ _ _ us hl => match us, hl with | [_], _ => rfl)⟩) ?_
  refine all_cons (p := fun i => ∃ c f fd ps, tab.dd i = some (none, c) ∧ c.kind = z0.kd.fn i ∧ (∀ T k, GF z0 (mkC K) T k P w mg base → FnOk P w (mkC K).K mg base (L2.CX P w) (k + 2) f fd ps (spD (mkC K) (evDef T tab.U c) c.kind)) ∧ mg (z0.fnN i) = some (.ref f) ∧ PySem.W.keepIn (mkC K).K (.ref f) = true ∧ Binds (mkC K).K fd ps []) (by
      obtain ⟨fd, F⟩ := c.def_ 17 (d := d_parse_field) rfl
      exact ⟨c_parse_field, _, fd, p_parse_field, rfl, rfl, fun T k G => def_ok (z := zOf z0 n_parse_field (defScope s_parse_field)) F (G.re n_parse_field (defScope s_parse_field)) (ux c) k_parse_field, He.glo_ok KX NS (c.fact 11 (f := .glo "parse_field") rfl), F.kp, F.bindsN (fun _ _ _ _ _ _ us hl => match us, hl with | [_], _ => rfl)⟩) ?_
  refine all_cons (p := fun i => ∃ c f fd ps, tab.dd i = some (none, c) ∧ c.kind = z0.kd.fn i ∧ (∀ T k, GF z0 (mkC K) T k P w mg base → FnOk P w (mkC K).K mg base (L2.CX P w) (k + 2) f fd ps (spD (mkC K) (evDef T tab.U c) c.kind)) ∧ mg (z0.fnN i) = some (.ref f) ∧ PySem.W.keepIn (mkC K).K (.ref f) = true ∧ Binds (mkC K).K fd ps []) (by
      obtain ⟨fd, F⟩ := c.def_ 18 (d := d_parse_word) rfl
      exact ⟨c_parse_word, _, fd, p_parse_word, rfl, rfl, fun T k G => def_ok (z := zOf z0 n_parse_word (defScope s_parse_word)) F (G.re n_parse_word (defScope s_parse_word)) (ux c) k_parse_word, He.glo_ok KX NS (c.fact 12 (f := .glo "parse_word") rfl), F.kp, F.bindsN (fun _ _ _ _ _ _ us hl => match us, hl with | [_, _], _ => rfl)⟩) ?_
  refine all_cons (p := fun i => ∃ c f fd ps, tab.dd i = some (none, c) ∧ c.kind = z0.kd.fn i ∧ (∀ T k, GF z0 (mkC K) T k P w mg base → FnOk P w (mkC K).K mg base (L2.CX P w) (k + 2) f fd ps (spD (mkC K) (evDef T tab.U c) c.kind)) ∧ mg (z0.fnN i) = some (.ref f) ∧ PySem.W.keepIn (mkC K).K (.ref f) = true ∧ Binds (mkC K).K fd ps []) (by
      obtain ⟨fd, F⟩ := c.def_ 19 (d := d__law_row) rfl
      exact ⟨c__law_row, _, fd, p__law_row, rfl, rfl, fun T k G => def_ok (z := zOf z0 n__law_row (defScope s__law_row)) F (G.re n__law_row (defScope s__law_row)) (ux c) k__law_row, He.glo_ok KX NS (c.fact 13 (f := .glo "_law_row") rfl), F.kp, F.bindsN (fun _ _ _ _ _ _ us hl => match us, hl with | [_, _], _ => rfl)⟩) ?_
  refine all_cons (p := fun i => ∃ c f fd ps, tab.dd i = some (none, c) ∧ c.kind = z0.kd.fn i ∧ (∀ T k, GF z0 (mkC K) T k P w mg base → FnOk P w (mkC K).K mg base (L2.CX P w) (k + 2) f fd ps (spD (mkC K) (evDef T tab.U c) c.kind)) ∧ mg (z0.fnN i) = some (.ref f) ∧ PySem.W.keepIn (mkC K).K (.ref f) = true ∧ Binds (mkC K).K fd ps []) (by
      obtain ⟨fd, F⟩ := c.def_ 20 (d := d__law_numbers) rfl
      exact ⟨c__law_numbers, _, fd, p__law_numbers, rfl, rfl, fun T k G => def_ok (z := zOf z0 n__law_numbers (defScope s__law_numbers)) F (G.re n__law_numbers (defScope s__law_numbers)) (ux c) k__law_numbers, He.glo_ok KX NS (c.fact 14 (f := .glo "_law_numbers") rfl), F.kp, F.bindsN (fun _ _ _ _ _ _ us hl => match us, hl with | [_, _], _ => rfl)⟩) ?_
  refine all_cons (p := fun i => ∃ c f fd ps, tab.dd i = some (none, c) ∧ c.kind = z0.kd.fn i ∧ (∀ T k, GF z0 (mkC K) T k P w mg base → FnOk P w (mkC K).K mg base (L2.CX P w) (k + 2) f fd ps (spD (mkC K) (evDef T tab.U c) c.kind)) ∧ mg (z0.fnN i) = some (.ref f) ∧ PySem.W.keepIn (mkC K).K (.ref f) = true ∧ Binds (mkC K).K fd ps []) (by
      obtain ⟨fd, F⟩ := c.def_ 21 (d := d__law_field) rfl
      exact ⟨c__law_field, _, fd, p__law_field, rfl, rfl, fun T k G => def_ok (z := zOf z0 n__law_field (defScope s__law_field)) F (G.re n__law_field (defScope s__law_field)) (ux c) k__law_field, He.glo_ok KX NS (c.fact 15 (f := .glo "_law_field") rfl), F.kp, F.bindsN (fun _ _ _ _ _ _ us hl => match us, hl with | [_], _ => rfl)⟩) ?_
  refine all_cons (p := fun i => ∃ c f fd ps, tab.dd i = some (none, c) ∧ c.kind = z0.kd.fn i ∧ (∀ T k, GF z0 (mkC K) T k P w mg base → FnOk P w (mkC K).K mg base (L2.CX P w) (k + 2) f fd ps (spD (mkC K) (evDef T tab.U c) c.kind)) ∧ mg (z0.fnN i) = some (.ref f) ∧ PySem.W.keepIn (mkC K).K (.ref f) = true ∧ Binds (mkC K).K fd ps []) (by
      obtain ⟨fd, F⟩ := c.def_ 22 (d := d__law_order) rfl
      exact ⟨c__law_order, _, fd, p__law_order, rfl, rfl, fun T k G => def_ok (z := zOf z0 n__law_order (defScope s__law_order)) F (G.re n__law_order (defScope s__law_order)) (ux c) k__law_order, He.glo_ok KX NS (c.fact 16 (f := .glo "_law_order") rfl), F.kp, F.bindsN (fun _ _ _ _ _ _ us hl => match us, hl with | [_], _ => rfl)⟩) ?_
  refine all_cons (p := fun i => ∃ c f fd ps, tab.dd i = some (none, c) ∧ c.kind = z0.kd.fn i ∧ (∀ T k, GF z0 (mkC K) T k P w mg base → FnOk P w (mkC K).K mg base (L2.CX P w) (k + 2) f fd ps (spD (mkC K) (evDef T tab.U c) c.kind)) ∧ mg (z0.fnN i) = some (.ref f) ∧ PySem.W.keepIn (mkC K).K (.ref f) = true ∧ Binds (mkC K).K fd ps []) (by
      obtain ⟨fd, F⟩ := c.def_ 23 (d := d__law_is_integer) rfl
      exact ⟨c__law_is_integer, _, fd, p__law_is_integer, rfl, rfl, fun T k G => def_ok (z := zOf z0 n__law_is_integer (defScope s__law_is_integer)) F (G.re n__law_is_integer (defScope s__law_is_integer)) (ux c) k__law_is_integer, He.glo_ok KX NS (c.fact 17 (f := .glo "_law_is_integer") rfl), F.kp, F.bindsN (fun _ _ _ _ _ _ us hl => match us, hl with | [_], _ => rfl)⟩) ?_
  refine all_cons (p := fun i => ∃ c f fd ps, tab.dd i = some (none, c) ∧ c.kind = z0.kd.fn i ∧ (∀ T k, GF z0 (mkC K) T k P w mg base → FnOk P w (mkC K).K mg base (L2.CX P w) (k + 2) f fd ps (spD (mkC K) (evDef T tab.U c) c.kind)) ∧ mg (z0.fnN i) = some (.ref f) ∧ PySem.W.keepIn (mkC K).K (.ref f) = true ∧ Binds (mkC K).K fd ps []) (by
      obtain ⟨fd, F⟩ := c.def_ 24 (d := d_law) rfl
      exact ⟨c_law, _, fd, p_law, rfl, rfl, fun T k G => def_ok (z := zOf z0 n_law (defScope s_law)) F (G.re n_law (defScope s_law)) (ux c) k_law, He.glo_ok KX NS (c.fact 18 (f := .glo "law") rfl), F.kp, F.bindsN (fun _ _ _ _ _ _ us hl => match us, hl with | [_], _ => rfl)⟩) ?_
  exact all_nil
theorem meG (KX : K.In h) (NS : h.Ns mainGlobals mg) (c : He.SaysD fa fn K) : ∀ e : (Nat × Nat) × Nat, e ∈ meL → ∃ cd f fd ps, tab.dd e.2 = some (none, cd) ∧ cd.kind = z0.kd.me e.1.2 ∧ Meth (mkC K).K ((mkC K).cl e.1.1) ((mkC K).an e.1.2) f ∧ (∀ T k, GF z0 (mkC K) T k P w mg base → FnOk P w (mkC K).K mg base (L2.CX P w) (k + 2) f fd ps (spD (mkC K) (evDef T tab.U cd) cd.kind)) ∧ Binds (mkC K).K fd ps [] := by
  refine all_cons (p := fun e : (Nat × Nat) × Nat => ∃ cd f fd ps, tab.dd e.2 = some (none, cd) ∧ cd.kind = z0.kd.me e.1.2 ∧ Meth (mkC K).K ((mkC K).cl e.1.1) ((mkC K).an e.1.2) f ∧ (∀ T k, GF z0 (mkC K) T k P w mg base → FnOk P w (mkC K).K mg base (L2.CX P w) (k + 2) f fd ps (spD (mkC K) (evDef T tab.U cd) cd.kind)) ∧ Binds (mkC K).K fd ps []) (by
      obtain ⟨fd, F⟩ := c.def_ 7 (d := d_Field_digits) rfl
      exact ⟨c_Field_digits, _, fd, p_Field_digits, rfl, rfl, He.meth_ok (c.fact 48 (f := .meth "Field" "digits") rfl), fun T k G => def_ok (z := zOf z0 n_Field_digits (defScope s_Field_digits)) F (G.re n_Field_digits (defScope s_Field_digits)) (ux c) k_Field_digits, F.bindsN (fun _ _ _ _ _ _ us hl => match us, hl with | [_, _], _ => rfl)⟩) ?_
  refine all_cons (p := fun e : (Nat × Nat) × Nat => ∃ cd f fd ps, tab.dd e.2 = some (none, cd) ∧ cd.kind = z0.kd.me e.1.2 ∧ Meth (mkC K).K ((mkC K).cl e.1.1) ((mkC K).an e.1.2) f ∧ (∀ T k, GF z0 (mkC K) T k P w mg base → FnOk P w (mkC K).K mg base (L2.CX P w) (k + 2) f fd ps (spD (mkC K) (evDef T tab.U cd) cd.kind)) ∧ Binds (mkC K).K fd ps []) (by
      obtain ⟨fd, F⟩ := c.def_ 8 (d := d_Field_element) rfl
      exact ⟨c_Field_element, _, fd, p_Field_element, rfl, rfl, He.meth_ok (c.fact 49 (f := .meth "Field" "element") rfl), fun T k G => def_ok (z := zOf z0 n_Field_element (defScope s_Field_element)) F (G.re n_Field_element (defScope s_Field_element)) (ux c) k_Field_element, F.bindsN (fun _ _ _ _ _ _ us hl => match us, hl with | [_, _], _ => rfl)⟩) ?_
  refine all_cons (p := fun e : (Nat × Nat) × Nat => ∃ cd f fd ps, tab.dd e.2 = some (none, cd) ∧ cd.kind = z0.kd.me e.1.2 ∧ Meth (mkC K).K ((mkC K).cl e.1.1) ((mkC K).an e.1.2) f ∧ (∀ T k, GF z0 (mkC K) T k P w mg base → FnOk P w (mkC K).K mg base (L2.CX P w) (k + 2) f fd ps (spD (mkC K) (evDef T tab.U cd) cd.kind)) ∧ Binds (mkC K).K fd ps []) (by
      obtain ⟨fd, F⟩ := c.def_ 9 (d := d_Field_times) rfl
      exact ⟨c_Field_times, _, fd, p_Field_times, rfl, rfl, He.meth_ok (c.fact 50 (f := .meth "Field" "times") rfl), fun T k G => def_ok (z := zOf z0 n_Field_times (defScope s_Field_times)) F (G.re n_Field_times (defScope s_Field_times)) (ux c) k_Field_times, F.bindsN (fun _ _ _ _ _ _ us hl => match us, hl with | [_, _, _], _ => rfl)⟩) ?_
  refine all_cons (p := fun e : (Nat × Nat) × Nat => ∃ cd f fd ps, tab.dd e.2 = some (none, cd) ∧ cd.kind = z0.kd.me e.1.2 ∧ Meth (mkC K).K ((mkC K).cl e.1.1) ((mkC K).an e.1.2) f ∧ (∀ T k, GF z0 (mkC K) T k P w mg base → FnOk P w (mkC K).K mg base (L2.CX P w) (k + 2) f fd ps (spD (mkC K) (evDef T tab.U cd) cd.kind)) ∧ Binds (mkC K).K fd ps []) (by
      obtain ⟨fd, F⟩ := c.def_ 10 (d := d_Field_power) rfl
      exact ⟨c_Field_power, _, fd, p_Field_power, rfl, rfl, He.meth_ok (c.fact 51 (f := .meth "Field" "power") rfl), fun T k G => def_ok (z := zOf z0 n_Field_power (defScope s_Field_power)) F (G.re n_Field_power (defScope s_Field_power)) (ux c) k_Field_power, F.bindsN (fun _ _ _ _ _ _ us hl => match us, hl with | [_, _, _], _ => rfl)⟩) ?_
  refine all_cons (p := fun e : (Nat × Nat) × Nat => ∃ cd f fd ps, tab.dd e.2 = some (none, cd) ∧ cd.kind = z0.kd.me e.1.2 ∧ Meth (mkC K).K ((mkC K).cl e.1.1) ((mkC K).an e.1.2) f ∧ (∀ T k, GF z0 (mkC K) T k P w mg base → FnOk P w (mkC K).K mg base (L2.CX P w) (k + 2) f fd ps (spD (mkC K) (evDef T tab.U cd) cd.kind)) ∧ Binds (mkC K).K fd ps []) (by
      obtain ⟨fd, F⟩ := c.def_ 11 (d := d_Field_same_as) rfl
      exact ⟨c_Field_same_as, _, fd, p_Field_same_as, rfl, rfl, He.meth_ok (c.fact 52 (f := .meth "Field" "same_as") rfl), fun T k G => def_ok (z := zOf z0 n_Field_same_as (defScope s_Field_same_as)) F (G.re n_Field_same_as (defScope s_Field_same_as)) (ux c) k_Field_same_as, F.bindsN (fun _ _ _ _ _ _ us hl => match us, hl with | [_, _], _ => rfl)⟩) ?_
  exact all_nil
theorem mkG (KX : K.In h) (NS : h.Ns mainGlobals mg) (c : He.SaysD fa fn K) : ∀ e : Nat × Nat, e ∈ inL → ∃ i, tab.ini e.1 = some i ∧ ∃ cd f fd ps, tab.dd i = some (some e.1, cd) ∧ Mk (mkC K).K ((mkC K).cl e.1) f ∧ (∀ T k, GF z0 (mkC K) T k P w mg base → FnOk P w (mkC K).K mg base (L2.CX P w) (k + 2) f fd ps (spI (mkC K) e.1 (evIni T tab.U e.1 cd))) ∧ Binds (mkC K).K fd ps [] ∧ mg (z0.clN e.1) = some (.ref ((mkC K).cl e.1)) := by
  refine all_cons (p := fun e : Nat × Nat => ∃ i, tab.ini e.1 = some i ∧ ∃ cd f fd ps, tab.dd i = some (some e.1, cd) ∧ Mk (mkC K).K ((mkC K).cl e.1) f ∧ (∀ T k, GF z0 (mkC K) T k P w mg base → FnOk P w (mkC K).K mg base (L2.CX P w) (k + 2) f fd ps (spI (mkC K) e.1 (evIni T tab.U e.1 cd))) ∧ Binds (mkC K).K fd ps [] ∧ mg (z0.clN e.1) = some (.ref ((mkC K).cl e.1))) (by
      obtain ⟨fd, F⟩ := c.def_ 6 (d := d_Field___init__) rfl
      have B : Binds K fd p_Field___init__ [] := by
        obtain ⟨ds, hv, hb⟩ := F.binds1 (ps := p_Field___init__) 3 1 (fun z => List.cons_ne_nil _ _ z) rfl (fun T kV doc pm an cdv ct us its hu hi => match us, hu, its, hi with | [_, _, _], _, [_], _ => ⟨_, rfl, rfl⟩)
        cases hv
        exact hb
      exact ⟨5, rfl, c_Field___init__, _, fd, p_Field___init__, rfl, He.mkr_ok (c.fact 53 (f := .mkr "Field") rfl), fun T k G => ini_ok (z := zOf z0 n_Field___init__ (defScope s_Field___init__)) F (G.re n_Field___init__ (defScope s_Field___init__)) (ux c) k_Field___init__, B, He.glo_ok KX NS (c.fact 22 (f := .glo "Field") rfl)⟩) ?_
  exact all_nil
theorem lf (KX : K.In h) (NS : h.Ns mainGlobals mg) (c : He.SaysD fa fn K) : LF z0 (mkC K) tab P w mg base := by
  refine ⟨?cst, ?blt, fnG KX NS c, ?cls, ?fld, ?me, ?pr, ?mkc, ?rx, ?hx, fun _ => rfl, an_inj⟩
  case cst =>
    intro x v hx
    have hx := lookup_mem (l := cstL) hx
    revert hx
    exact fun hx => (show ∀ e ∈ cstL, ∃ u, mg e.1 = some u ∧ RelV (.int e.2) u from (all_cons (p := fun e : Str × Int => ∃ u, mg e.1 = some u ∧ RelV (.int e.2) u) ((He.int_ok KX NS (c.fact 41 (f := .int "LARGEST_PRIME" 31) rfl)).elim fun t e => ⟨_, e, _, rfl⟩) (all_cons (p := fun e : Str × Int => ∃ u, mg e.1 = some u ∧ RelV (.int e.2) u) ((He.int_ok KX NS (c.fact 42 (f := .int "LARGEST_ORDER" 256) rfl)).elim fun t e => ⟨_, e, _, rfl⟩) all_nil))) (x, v) hx
  case blt =>
    exact (all_cons (p := fun x : Str => mg x = none) (He.free_ok KX NS (c.fact 23 (f := .free "len") rfl)) (all_cons (p := fun x : Str => mg x = none) (He.free_ok KX NS (c.fact 24 (f := .free "abs") rfl)) (all_cons (p := fun x : Str => mg x = none) (He.free_ok KX NS (c.fact 25 (f := .free "int") rfl)) (all_cons (p := fun x : Str => mg x = none) (He.free_ok KX NS (c.fact 26 (f := .free "str") rfl)) (all_cons (p := fun x : Str => mg x = none) (He.free_ok KX NS (c.fact 27 (f := .free "max") rfl)) (all_cons (p := fun x : Str => mg x = none) (He.free_ok KX NS (c.fact 28 (f := .free "min") rfl)) (all_cons (p := fun x : Str => mg x = none) (He.free_ok KX NS (c.fact 29 (f := .free "sum") rfl)) (all_cons (p := fun x : Str => mg x = none) (He.free_ok KX NS (c.fact 30 (f := .free "sorted") rfl)) (all_cons (p := fun x : Str => mg x = none) (He.free_ok KX NS (c.fact 31 (f := .free "list") rfl)) (all_cons (p := fun x : Str => mg x = none) (He.free_ok KX NS (c.fact 32 (f := .free "tuple") rfl)) (all_cons (p := fun x : Str => mg x = none) (He.free_ok KX NS (c.fact 33 (f := .free "range") rfl)) (all_cons (p := fun x : Str => mg x = none) (He.free_ok KX NS (c.fact 34 (f := .free "reversed") rfl)) (all_cons (p := fun x : Str => mg x = none) (He.free_ok KX NS (c.fact 35 (f := .free "zip") rfl)) (all_cons (p := fun x : Str => mg x = none) (He.free_ok KX NS (c.fact 36 (f := .free "enumerate") rfl)) (all_cons (p := fun x : Str => mg x = none) (He.free_ok KX NS (c.fact 37 (f := .free "isinstance") rfl)) (all_cons (p := fun x : Str => mg x = none) (He.free_ok KX NS (c.fact 38 (f := .free "bool") rfl)) (all_cons (p := fun x : Str => mg x = none) (He.free_ok KX NS (c.fact 39 (f := .free "set") rfl)) (all_cons (p := fun x : Str => mg x = none) (He.free_ok KX NS (c.fact 40 (f := .free "dict") rfl)) all_nil))))))))))))))))))
  case cls =>
    exact fun k => nameOf_all (p := fun s => Cls K (He.ga K s)) (He.cls_ok (c.fact 43 (f := .cls "Field") rfl)) (all_cons (p := fun e : Nat × Str => Cls K (He.ga K e.2)) (He.cls_ok (c.fact 43 (f := .cls "Field") rfl)) all_nil) k
  case fld =>
    refine all_of (l := [98, 99, 100, 101]) ?_
    refine all_cons (p := fun f => ∀ k, NoAttr (mkC K).K ((mkC K).cl k) ((mkC K).an f)) (fun k => nameOf_all (p := fun s => NoAttr K (He.ga K s) (an 98)) (He.noat_ok (c.fact 44 (f := .noat "Field" "prime") rfl)) (all_cons (p := fun e : Nat × Str => NoAttr K (He.ga K e.2) (an 98)) (He.noat_ok (c.fact 44 (f := .noat "Field" "prime") rfl)) all_nil) k) ?_
    refine all_cons (p := fun f => ∀ k, NoAttr (mkC K).K ((mkC K).cl k) ((mkC K).an f)) (fun k => nameOf_all (p := fun s => NoAttr K (He.ga K s) (an 99)) (He.noat_ok (c.fact 45 (f := .noat "Field" "modulus") rfl)) (all_cons (p := fun e : Nat × Str => NoAttr K (He.ga K e.2) (an 99)) (He.noat_ok (c.fact 45 (f := .noat "Field" "modulus") rfl)) all_nil) k) ?_
    refine all_cons (p := fun f => ∀ k, NoAttr (mkC K).K ((mkC K).cl k) ((mkC K).an f)) (fun k => nameOf_all (p := fun s => NoAttr K (He.ga K s) (an 100)) (He.noat_ok (c.fact 46 (f := .noat "Field" "degree") rfl)) (all_cons (p := fun e : Nat × Str => NoAttr K (He.ga K e.2) (an 100)) (He.noat_ok (c.fact 46 (f := .noat "Field" "degree") rfl)) all_nil) k) ?_
    refine all_cons (p := fun f => ∀ k, NoAttr (mkC K).K ((mkC K).cl k) ((mkC K).an f)) (fun k => nameOf_all (p := fun s => NoAttr K (He.ga K s) (an 101)) (He.noat_ok (c.fact 47 (f := .noat "Field" "order") rfl)) (all_cons (p := fun e : Nat × Str => NoAttr K (He.ga K e.2) (an 101)) (He.noat_ok (c.fact 47 (f := .noat "Field" "order") rfl)) all_nil) k) ?_
    exact all_nil
  case me =>
    intro m _ k i hi
    exact meG KX NS c ((k, m), i) (lookup_mem (l := meL) hi)
  case pr =>
    intro f _ k i hi
    cases hi
  case mkc =>
    refine all_of (l := [21]) ?_
    refine all_cons (p := fun k => ∃ i, tab.ini k = some i ∧ ∃ cd f fd ps, tab.dd i = some (some k, cd) ∧ Mk (mkC K).K ((mkC K).cl k) f ∧ (∀ T j, GF z0 (mkC K) T j P w mg base → FnOk P w (mkC K).K mg base (L2.CX P w) (j + 2) f fd ps (spI (mkC K) k (evIni T tab.U k cd))) ∧ Binds (mkC K).K fd ps [] ∧ mg (z0.clN k) = some (.ref ((mkC K).cl k))) (mkG KX NS c (21, 5) (by decide)) ?_
    exact all_nil
  case rx =>
    refine all_of (l := [1]) ?_
    refine all_cons (p := fun k => ∃ B newId initId bmB, ExcBaseFacts B newId initId bmB ∧ PySem.W.excIn (mkC K).K ((mkC K).cx k) bmB newId = true ∧ mg (z0.clN k) = some (.ref ((mkC K).cx k)) ∧ PySem.W.keepIn (mkC K).K (.ref ((mkC K).cx k)) = true ∧ (∀ X : Cx, X.K = (mkC K).K → Raises X (.ref ((mkC K).cx k)))) (by
      obtain ⟨B, nw, ii, bm, e1, e2, e3, e4⟩ := rx_of (c.fact 54 (f := .exc "InvalidField") rfl)
      exact ⟨B, nw, ii, bm, e1, e2, He.glo_ok KX NS (c.fact 20 (f := .glo "InvalidField") rfl), e3, e4⟩) ?_
    exact all_nil
  case hx =>
    refine all_of (l := [1]) ?_
    refine all_cons (p := fun k => mg (z0.clN k) = some (.ref ((mkC K).cx k))) (He.glo_ok KX NS (c.fact 20 (f := .glo "InvalidField") rfl)) ?_
    exact all_nil
abbrev LV : Nat := 8
def TT : Tb := tab.at LV
theorem tl_good : tl.good = true := by decide +kernel
theorem tl_rk : tl.rk.all (fun e => decide (e.2 ≤ 6)) = true := by decide +kernel
theorem fx_int_power : TT.fn 153 = evDef TT U c_int_power := TL.fix 6 tl_good tl_rk rfl (by decide +kernel)
theorem fx_is_prime : TT.fn 154 = evDef TT U c_is_prime := TL.fix 6 tl_good tl_rk rfl (by decide +kernel)
theorem fx_base_digits : TT.fn 155 = evDef TT U c_base_digits := TL.fix 6 tl_good tl_rk rfl (by decide +kernel)
theorem fx_integer_remainder : TT.fn 156 = evDef TT U c_integer_remainder := TL.fix 6 tl_good tl_rk rfl (by decide +kernel)
theorem fx_is_irreducible : TT.fn 157 = evDef TT U c_is_irreducible := TL.fix 6 tl_good tl_rk rfl (by decide +kernel)
theorem fx_is_modulus : TT.fn 158 = evDef TT U c_is_modulus := TL.fix 6 tl_good tl_rk rfl (by decide +kernel)
theorem fx_Field___init__ : TT.fn 5 = evIni TT U 21 c_Field___init__ := TL.fixI 6 tl_good tl_rk rfl (by decide +kernel)
theorem fx_Field_digits : TT.fn 6 = evDef TT U c_Field_digits := TL.fix 6 tl_good tl_rk rfl (by decide +kernel)
theorem fx_Field_element : TT.fn 7 = evDef TT U c_Field_element := TL.fix 6 tl_good tl_rk rfl (by decide +kernel)
theorem fx_Field_times : TT.fn 12 = evDef TT U c_Field_times := TL.fix 6 tl_good tl_rk rfl (by decide +kernel)
theorem fx_Field_power : TT.fn 15 = evDef TT U c_Field_power := TL.fix 6 tl_good tl_rk rfl (by decide +kernel)
theorem fx_Field_same_as : TT.fn 19 = evDef TT U c_Field_same_as := TL.fix 6 tl_good tl_rk rfl (by decide +kernel)
theorem fx_format_field : TT.fn 315 = evDef TT U c_format_field := TL.fix 6 tl_good tl_rk rfl (by decide +kernel)
theorem fx_format_word : TT.fn 316 = evDef TT U c_format_word := TL.fix 6 tl_good tl_rk rfl (by decide +kernel)
theorem fx_read_number : TT.fn 318 = evDef TT U c_read_number := TL.fix 6 tl_good tl_rk rfl (by decide +kernel)
theorem fx_read_line : TT.fn 319 = evDef TT U c_read_line := TL.fix 6 tl_good tl_rk rfl (by decide +kernel)
theorem fx_read_field : TT.fn 320 = evDef TT U c_read_field := TL.fix 6 tl_good tl_rk rfl (by decide +kernel)
theorem fx_parse_field : TT.fn 321 = evDef TT U c_parse_field := TL.fix 6 tl_good tl_rk rfl (by decide +kernel)
theorem fx_parse_word : TT.fn 324 = evDef TT U c_parse_word := TL.fix 6 tl_good tl_rk rfl (by decide +kernel)
theorem fx__law_row : TT.fn 1000 = evDef TT U c__law_row := TL.fix 6 tl_good tl_rk rfl (by decide +kernel)
theorem fx__law_numbers : TT.fn 1001 = evDef TT U c__law_numbers := TL.fix 6 tl_good tl_rk rfl (by decide +kernel)
theorem fx__law_field : TT.fn 1002 = evDef TT U c__law_field := TL.fix 6 tl_good tl_rk rfl (by decide +kernel)
theorem fx__law_order : TT.fn 1003 = evDef TT U c__law_order := TL.fix 6 tl_good tl_rk rfl (by decide +kernel)
theorem fx__law_is_integer : TT.fn 1004 = evDef TT U c__law_is_integer := TL.fix 6 tl_good tl_rk rfl (by decide +kernel)
theorem fx_law : TT.fn 1005 = evDef TT U c_law := TL.fix 6 tl_good tl_rk rfl (by decide +kernel)
theorem me_Field_digits : TT.me 21 1 = some 6 := rfl
theorem me_Field_element : TT.me 21 2 = some 7 := rfl
theorem me_Field_times : TT.me 21 7 = some 12 := rfl
theorem me_Field_power : TT.me 21 10 = some 15 := rfl
theorem me_Field_same_as : TT.me 21 14 = some 19 := rfl
theorem in_Field : TT.ini 21 = some 5 := rfl
theorem facts {f : Addr} (KX : K.In h) (NS : h.Ns mainGlobals mg) (hfa : mg ("law" : Str) = some (.ref f)) (c : He.SaysD fa fn K) :
    ∃ fd : FuncData, (∀ (s : Shared) (v : Value), BindsTo s fd ⟨[v], []⟩ [(("_law_script" : Str), v)]) ∧ ∀ base : Heap, K.In base → base.Ns mainGlobals mg → FnOk P w K mg base (L2.CX P w) (2 * LV + 2) f fd ["_law_script"] (spD (mkC K) (evDef TT U c_law) c_law.kind) := by
  obtain ⟨fd, F⟩ := c.def_ 24 (d := d_law) rfl
  have e := hfa.symm.trans (He.glo_ok KX NS (c.fact 18 (f := .glo "law") rfl))
  cases e
  have b := FunD.bindsA (ps := ["_law_script"]) F fun _ _ _ _ _ _ us hl => match us, hl with | [_], _ => rfl
  exact ⟨fd, fun s v => b s [v] rfl, fun base _ _ => def_ok (z := zOf z0 n_law (defScope s_law)) F ((gf_all (lf KX NS c) LV).re n_law (defScope s_law)) (ux c) k_law⟩
end
end Lw
end

section
set_option linter.all false
set_option maxRecDepth 100000
set_option maxHeartbeats 1000000
set_option Elab.async false
/-! PLb: the evaluator by rewriting. -/
namespace DL
open PySem
def R.bd (r : R) (k : D → R) : R := r.bind k
def R.bdL (r : R) (k : D → RL) : RL := r.bindL k
def R.bdO (r : R) (st : St) (k : D → O) : O := r.bindO st k
def RL.bd (r : RL) (k : List D → R) : R := r.bind k
def RL.bdL (r : RL) (k : List D → RL) : RL := r.bindL k
def RL.bdO (r : RL) (st : St) (k : List D → O) : O := r.bindO st k
def O.bd (o : O) (k : St → O) : O := o.bind k
def R.cm (r : R) : R := r.calm
section ev
variable {T : Tb} {U : Up} {st : St}
def getR (st : St) (i : Nat) : R := match st[i]? with
  | some (some d) => .ok d
  | _ => .bad
theorem getR_z {d : D} : getR (some d :: st) 0 = .ok d := rfl
theorem getR_s {a : Option D} {i : Nat} : getR (a :: st) (i + 1) = getR st i := rfl
theorem get_z {a : Option D} : (a :: st)[0]? = some a := rfl
theorem get_s {a : Option D} {i : Nat} : (a :: st)[i + 1]? = st[i]? := rfl
theorem set_z {a b : Option D} : (a :: st).set 0 b = b :: st := rfl
theorem set_s {a b : Option D} {i : Nat} : (a :: st).set (i + 1) b = a :: st.set i b := rfl
/- results -/
theorem bind_ok {d : D} {k : D → R} : (R.ok d).bd k = k d := rfl
theorem bind_er {c : Nat} {fs} {k : D → R} : (R.er c fs).bd k = .er c fs := rfl
theorem bindL_ok {d : D} {k : D → RL} : (R.ok d).bdL k = k d := rfl
theorem bindL_er {c : Nat} {fs} {k : D → RL} : (R.er c fs).bdL k = .er c fs := rfl
theorem lbind_ok {d : List D} {k : List D → R} : (RL.ok d).bd k = k d := rfl
theorem lbind_er {c : Nat} {fs} {k : List D → R} : (RL.er c fs).bd k = .er c fs := rfl
theorem lbindL_ok {d : List D} {k : List D → RL} : (RL.ok d).bdL k = k d := rfl
theorem lbindL_er {c : Nat} {fs} {k : List D → RL} : (RL.er c fs).bdL k = .er c fs := rfl
theorem bindO_ok {d : D} {k : D → O} : (R.ok d).bdO st k = k d := rfl
theorem bindO_er {c : Nat} {fs} {k : D → O} : (R.er c fs).bdO st k = .er c fs st := rfl
theorem lbindO_ok {d : List D} {k : List D → O} : (RL.ok d).bdO st k = k d := rfl
theorem lbindO_er {c : Nat} {fs} {k : List D → O} : (RL.er c fs).bdO st k = .er c fs st := rfl
theorem obind_nx {k : St → O} : (O.nx st).bd k = k st := rfl
theorem obind_rt {d : D} {k : St → O} : (O.rt d).bd k = .rt d := rfl
theorem obind_bk {k : St → O} : (O.bk st).bd k = .bk st := rfl
theorem obind_ct {k : St → O} : (O.ct st).bd k = .ct st := rfl
theorem obind_er {c : Nat} {fs} {k : St → O} : (O.er c fs st).bd k = .er c fs st := rfl
theorem obind_ite {p : Prop} [Decidable p] {a b : O} {k : St → O} : (if p then a else b).bd k = if p then a.bd k else b.bd k := by split <;> rfl
theorem ofO_some {d : D} : ofO (some d) = .ok d := rfl
theorem calm_ok {d : D} : (R.ok d).cm = .ok d := rfl
theorem outD_nx : outD (.nx st) = .ok .non := rfl
theorem outD_rt {d : D} : outD (.rt d) = .ok d := rfl
theorem outD_er {c : Nat} {fs} : outD (.er c fs st) = .er c fs := rfl
theorem outI_nx {c : Nat} {fs} : outI (.nx (some (.obj c fs) :: st)) = .ok (.obj c fs) := rfl
theorem outI_er {c : Nat} {fs} : outI (.er c fs st) = .er c fs := rfl
theorem kind0 {r : R} : kindD 0 r = r := rfl
theorem kind1 {r : R} : kindD 1 r = r := rfl
theorem kind2_int {i : Int} : kindD 2 (.ok (.int i)) = .ok (.int i) := rfl
theorem kind2_bl {b : Bool} : kindD 2 (.ok (.bl b)) = .ok (.bl b) := rfl
theorem kind2_str {s : Str} : kindD 2 (.ok (.str s)) = .ok (.str s) := rfl
theorem kind2_non : kindD 2 (.ok .non) = .ok .non := rfl
theorem kind2_er {c : Nat} : kindD 2 (.er c []) = .er c [] := rfl
theorem toL_ok {d : D} : toL (.ok d) = some (some d) := rfl
/- on truth values -/
def onB (x : D) (a b : R) : R := match x with
  | .bl true => a
  | .bl false => b
  | _ => .bad
def onO (x : D) (a b : O) : O := match x with
  | .bl true => a
  | .bl false => b
  | _ => .bad
theorem onB_t {a b : R} : onB (.bl true) a b = a := rfl
theorem onB_f {a b : R} : onB (.bl false) a b = b := rfl
theorem onO_t {a b : O} : onO (.bl true) a b = a := rfl
theorem onO_f {a b : O} : onO (.bl false) a b = b := rfl
theorem onB_dec {p : Prop} [Decidable p] {a b : R} : onB (.bl (decide p)) a b = if p then a else b := by
  by_cases h : p <;> simp [h, onB]
theorem onO_dec {p : Prop} [Decidable p] {a b : O} : onO (.bl (decide p)) a b = if p then a else b := by
  by_cases h : p <;> simp [h, onO]
theorem onB_not {p : Bool} {a b : R} : onB (.bl (!p)) a b = onB (.bl p) b a := by cases p <;> rfl
theorem onO_not {p : Bool} {a b : O} : onO (.bl (!p)) a b = onO (.bl p) b a := by cases p <;> rfl
def notR (x : D) : R := match x with
  | .bl b => .ok (.bl (!b))
  | _ => .bad
theorem notR_bl {b : Bool} : notR (.bl b) = .ok (.bl (!b)) := rfl
/- expressions -/
theorem evE_var {i : Nat} : evE T (.var i) st = getR st i := rfl
theorem evE_non : evE T .non st = .ok .non := rfl
theorem evE_bl {b : Bool} : evE T (.bl b) st = .ok (.bl b) := rfl
theorem evE_int {i : Int} : evE T (.int i) st = .ok (.int i) := rfl
theorem evE_str {s : String} : evE T (.str s) st = .ok (.str (Str.ofString s)) := rfl
theorem evE_glo {k : Nat} {v : Int} : evE T (.glo k v) st = .ok (.int v) := rfl
theorem evE_bin {o : BO} {a b : E} : evE T (.bin o a b) st = (evE T a st).bd fun x => (evE T b st).bd fun y => ofO (binD o x y) := rfl
theorem evE_neg {a : E} : evE T (.neg a) st = (evE T a st).bd fun x => ofO (negD x) := rfl
theorem evE_cmp {o : CO} {a b : E} : evE T (.cmp o a b) st = (evE T a st).bd fun x => (evE T b st).bd fun y => ofO (cmpD o x y) := rfl
theorem evE_isc {n : Bool} {a : E} {c : Option Bool} : evE T (.isc n a c) st = (evE T a st).bd fun x => ofO (isD n x c) := rfl
theorem evE_chn {o p : CO} {a b c : E} : evE T (.chn o p a b c) st = (evE T a st).bd fun x => (evE T b st).bd fun y => (ofO (cmpD o x y)).bd fun r => onB r ((evE T c st).bd fun z => ofO (cmpD p y z)) (.ok (.bl false)) := rfl
theorem evE_and {a b : E} : evE T (.and a b) st = (evE T a st).bd fun x => onB x (evE T b st) (.ok (.bl false)) := rfl
theorem evE_or {a b : E} : evE T (.or a b) st = (evE T a st).bd fun x => onB x (.ok (.bl true)) (evE T b st) := rfl
theorem evE_not {a : E} : evE T (.not a) st = (evE T a st).bd fun x => notR x := rfl
theorem evE_ite {c a b : E} : evE T (.ite c a b) st = (evE T c st).bd fun x => onB x (evE T a st) (evE T b st) := rfl
theorem evE_lst {es : Es} : evE T (.lst es) st = (evEs T es st).bd fun ds => .ok (.lst ds) := rfl
theorem evE_tup {es : Es} : evE T (.tup es) st = (evEs T es st).bd fun ds => .ok (.tup ds) := rfl
theorem evE_idx {a i : E} : evE T (.idx a i) st = (evE T a st).bd fun x => (evE T i st).bd fun y => ofO (idxD x y) := rfl
theorem slc_tt {x l h : R} : slcR true true x l h = x.bd fun x => ofO (slcD x none none) := rfl
def partR (d : D) (k : Option Int → R) : R := match partD d with
  | some h => k h
  | none => .bad
theorem partR_int {i : Int} {k : Option Int → R} : partR (.int i) k = k (some i) := rfl
theorem slc_tf {x l h : R} : slcR true false x l h = x.bd fun x => h.bd fun h => partR h fun h => ofO (slcD x none h) := rfl
theorem slc_ft {x l h : R} : slcR false true x l h = x.bd fun x => l.bd fun l => partR l fun l => ofO (slcD x l none) := rfl
theorem slc_ff {x l h : R} : slcR false false x l h = x.bd fun x => l.bd fun l => partR l fun l => h.bd fun h => partR h fun h => ofO (slcD x l h) := rfl
def attR (f : Nat) (x : D) : R := match x with
  | .obj _ fs => ofO (fieldOf f fs)
  | .exn _ fs => ofO (fieldOf f fs)
  | _ => .bad
theorem evE_att {a : E} {f : Nat} : evE T (.att a f) st = (evE T a st).bd (attR f) := rfl
theorem attR_obj {f c : Nat} {fs} : attR f (.obj c fs) = ofO (fieldOf f fs) := rfl
theorem attR_exn {f c : Nat} {fs} : attR f (.exn c fs) = ofO (fieldOf f fs) := rfl
def prpR (T : Tb) (f : Nat) (x : D) : R := match x with
  | .obj c fs => (match T.pr c f with
    | some g => (T.fn g [.obj c fs]).cm
    | none => .bad)
  | _ => .bad
theorem evE_prp {a : E} {f : Nat} : evE T (.prp a f) st = (evE T a st).bd (prpR T f) := rfl
theorem prpR_obj {f c g : Nat} {fs} (h : T.pr c f = some g) : prpR T f (.obj c fs) = (T.fn g [.obj c fs]).cm := by
  simp only [prpR, h]
theorem evE_call {f : Nat} {es : Es} : evE T (.call f es) st = (evEs T es st).bd fun ds => T.fn f ds := rfl
def methR (T : Tb) (m : Nat) (x : D) (r : RL) : R := match x with
  | .obj c fs => (match T.me c m, fieldOf m fs with
    | some g, none => r.bd fun ds => T.fn g (.obj c fs :: ds)
    | _, _ => .bad)
  | _ => .bad
theorem evE_meth {a : E} {m : Nat} {es : Es} : evE T (.meth a m es) st = (evE T a st).bd fun x => methR T m x (evEs T es st) := rfl
theorem methR_obj {m c g : Nat} {fs} {r : RL} (h : T.me c m = some g) (hf : fieldOf m fs = none) : methR T m (.obj c fs) r = r.bd fun ds => T.fn g (.obj c fs :: ds) := by
  simp only [methR, h, hf]
def makeR (T : Tb) (c : Nat) (ds : List D) : R := match T.ini c with
  | some g => T.fn g ds
  | none => .bad
theorem evE_make {c : Nat} {es : Es} : evE T (.make c es) st = (evEs T es st).bd (makeR T c) := rfl
theorem makeR_of {c g : Nat} {ds : List D} (h : T.ini c = some g) : makeR T c ds = T.fn g ds := by simp only [makeR, h]
theorem evE_blt {f : BF} {es : Es} : evE T (.blt f es) st = (evEs T es st).bd fun ds => ofO (bltD f ds) := rfl
def lsrR (x : D) : R := match x with
  | .int n => if rngOk 0 n then .ok (.lst (rngD 0 n)) else .bad
  | _ => .bad
theorem evE_lsr {a : E} : evE T (.lsr a) st = (evE T a st).bd lsrR := rfl
def bmR (m : BM) (x : D) (r : RL) : R := match x with
  | .str s => r.bd fun ds => ofO (bmD m (.str s) ds)
  | _ => .bad
theorem evE_bm {m : BM} {a : E} {es : Es} : evE T (.bm m a es) st = (evE T a st).bd fun x => bmR m x (evEs T es st) := rfl
theorem bmR_str {m : BM} {s : Str} {r : RL} : bmR m (.str s) r = r.bd fun ds => ofO (bmD m (.str s) ds) := rfl
def isiR (t : Ty) (x : D) : R := match isiD t x with
  | some b => .ok (.bl b)
  | none => .bad
theorem evE_isi {a : E} {t : Ty} : evE T (.isi a t) st = (evE T a st).bd (isiR t) := rfl
def lstR (o : Option (List D)) : R := match o with
  | some ys => .ok (.lst ys)
  | none => .bad
theorem lstR_some {ys : List D} : lstR (some ys) = .ok (.lst ys) := rfl
def onSt (o : Option St) (k : St → Option (Option D)) : Option (Option D) := match o with
  | some s => k s
  | none => none
theorem onSt_some {k : St → Option (Option D)} : onSt (some st) k = k st := rfl
def keepL (r : R) (k : Option (Option D)) : Option (Option D) := match r with
  | .ok (.bl true) => k
  | .ok (.bl false) => some none
  | _ => none
theorem keepL_dec {p : Prop} [Decidable p] {k : Option (Option D)} : keepL (.ok (.bl (decide p))) k = if p then k else some none := by
  by_cases h : p <;> simp [h, keepL]
theorem keepL_t {k : Option (Option D)} : keepL (.ok (.bl true)) k = k := rfl
theorem keepL_f {k : Option (Option D)} : keepL (.ok (.bl false)) k = some none := rfl
theorem keepL_not {p : Prop} [Decidable p] {k : Option (Option D)} : keepL (.ok (.bl (!decide p))) k = if p then some none else k := by
  by_cases h : p <;> simp [h, keepL]
theorem evE_cmpr {x : E} {p : P} {it : I} : evE T (.cmpr x p it) st = (evI T it st).bd fun ds => if ds.length ≤ big then lstR (mapL (fun d => onSt (bindP p d (wipeD st p.slots)) fun s => toL (evE T x s)) ds) else .bad := by
  simp only [evE]; rfl
theorem evE_cmpi {x c : E} {p : P} {it : I} : evE T (.cmpi x p it c) st = (evI T it st).bd fun ds => if ds.length ≤ big then lstR (mapL (fun d => onSt (bindP p d (wipeD st p.slots)) fun s => keepL (evE T c s) (toL (evE T x s))) ds) else .bad := by
  simp only [evE]; rfl
theorem evEs_nil : evEs T .nil st = .ok [] := rfl
theorem evEs_cons {e : E} {es : Es} : evEs T (.cons e es) st = (evE T e st).bdL fun d => (evEs T es st).bdL fun ds => .ok (d :: ds) := rfl
/- iterables -/
def seqR (x : D) : RL := match x with
  | .lst xs => .ok xs
  | .tup xs => .ok xs
  | .str s => .ok (s.cps.toList.map fun c => .str ⟨#[c]⟩)
  | _ => .bad
theorem evI_seq {e : E} : evI T (.seq e) st = (evE T e st).bdL seqR := rfl
theorem seqR_lst {xs : List D} : seqR (.lst xs) = .ok xs := rfl
theorem seqR_tup {xs : List D} : seqR (.tup xs) = .ok xs := rfl
theorem seqR_str {s : Str} : seqR (.str s) = .ok (s.cps.toList.map fun c => .str ⟨#[c]⟩) := rfl
def rngR (x y : D) : RL := match x, y with
  | .int l, .int h => if rngOk l h then .ok (rngD l h) else .bad
  | _, _ => .bad
theorem evI_rng1 {a : E} : evI T (.rng1 a) st = (evE T a st).bdL fun x => rngR (.int 0) x := by
  simp only [evI]; congr 1; funext x; cases x <;> rfl
theorem evI_rng2 {a b : E} : evI T (.rng2 a b) st = (evE T a st).bdL fun x => (evE T b st).bdL fun y => rngR x y := rfl
theorem rngOk_of {l h : Int} (h1 : -1000000 ≤ l) (h2 : l ≤ 1000000) (h3 : -1000000 ≤ h) (h4 : h ≤ 1000000) : rngOk l h = true := decide_eq_true ⟨h1, h2, h3, h4⟩
theorem rngR_of {l h : Int} (k : rngOk l h = true) : rngR (.int l) (.int h) = .ok (rngD l h) := by simp only [rngR, k, if_true]
theorem lsrR_of {n : Int} (k : rngOk 0 n = true) : lsrR (.int n) = .ok (.lst (rngD 0 n)) := by simp only [lsrR, k, if_true]
def rng3R (x y z : D) : RL := match x, y, z with
  | .int l, .int h, .int (-1) => if rngOk l h then .ok ((List.range (l - h).toNat).map fun k => .int (l - (k : Nat))) else .bad
  | _, _, _ => .bad
theorem evI_rng3 {a b c : E} : evI T (.rng3 a b c) st = (evE T a st).bdL fun x => (evE T b st).bdL fun y => (evE T c st).bdL fun z => rng3R x y z := rfl
def revR (x : D) : RL := match x with
  | .lst xs => .ok xs.reverse
  | .tup xs => .ok xs.reverse
  | _ => .bad
theorem evI_rev {e : E} : evI T (.rev e) st = (evE T e st).bdL revR := rfl
theorem revR_lst {xs : List D} : revR (.lst xs) = .ok xs.reverse := rfl
theorem revR_tup {xs : List D} : revR (.tup xs) = .ok xs.reverse := rfl
def zipR (x y : D) : RL := match x, y with
  | .lst xs, .lst ys => .ok (pairUp xs ys)
  | .tup xs, .tup ys => .ok (pairUp xs ys)
  | _, _ => .bad
theorem evI_zip {a b : E} : evI T (.zip a b) st = (evE T a st).bdL fun x => (evE T b st).bdL fun y => zipR x y := rfl
theorem zipR_lst {xs ys : List D} : zipR (.lst xs) (.lst ys) = .ok (pairUp xs ys) := rfl
theorem evI_enm {e : E} : evI T (.enm e) st = (evE T e st).bdL fun x => match x with
    | .lst xs => .ok (numbered 0 xs)
    | _ => .bad := rfl
/- statements -/
theorem evSs_nil : evSs T U .nil st = .nx st := rfl
theorem evSs_cons {s : S} {ss : Ss} : evSs T U (.cons s ss) st = (evS T U s st).bd (evSs T U ss) := rfl
theorem evS_asg {i : Nat} {e : E} : evS T U (.asg i e) st = (evE T e st).bdO st fun d => .nx (st.set i (some d)) := rfl
def tupO (st : St) (is : List Nat) (d : D) : O := match d with
  | .tup ds => (match bindIs is ds st with
    | some st' => .nx st'
    | none => .bad)
  | _ => .bad
theorem evS_asgT {is : List Nat} {e : E} : evS T U (.asgT is e) st = (evE T e st).bdO st (tupO st is) := rfl
theorem tupO_2 {i j : Nat} {a b : D} : tupO st [i, j] (.tup [a, b]) = .nx ((st.set i (some a)).set j (some b)) := rfl
theorem tupO_3 {i j k : Nat} {a b c : D} : tupO st [i, j, k] (.tup [a, b, c]) = .nx (((st.set i (some a)).set j (some b)).set k (some c)) := rfl
theorem evS_par {i j : Nat} {a b : E} : evS T U (.par i j a b) st = (evE T a st).bdO st fun x => (evE T b st).bdO st fun y => .nx ((st.set i (some x)).set j (some y)) := rfl
def setO (st : St) (i : Nat) (x : D) (l y : D) : O := match l, y with
  | .lst xs, .int k => (match placeOf xs.length k with
        | some j => .nx (st.set i (some (.lst (xs.set j x))))
        | none => .bad)
  | _, _ => .bad
def onL (st : St) (i : Nat) (k : List D → O) : O := match st[i]? with
  | some (some (.lst xs)) => k xs
  | _ => .bad
def onI (y : D) (k : Int → O) : O := match y with
  | .int i => k i
  | _ => .bad
def onP (o : Option Nat) (k : Nat → O) : O := match o with
  | some j => k j
  | none => .bad
theorem onL_of {i : Nat} {xs : List D} {k : List D → O} (h : st[i]? = some (some (.lst xs))) : onL st i k = k xs := by simp only [onL, h]
theorem onI_int {i : Int} {k : Int → O} : onI (.int i) k = k i := rfl
theorem onP_some {j : Nat} {k : Nat → O} : onP (some j) k = k j := rfl
theorem evS_sti {i : Nat} {k e : E} : evS T U (.sti i k e) st = (evE T e st).bdO st fun x => onL st i fun xs => (evE T k st).bdO st fun y => onI y fun k => onP (placeOf xs.length k) fun j => .nx (st.set i (some (.lst (xs.set j x)))) := rfl
theorem evS_swp {i : Nat} {a b c d : E} : evS T U (.swp i a b c d) st = (evE T c st).bdO st fun x => (evE T d st).bdO st fun y => onL st i fun xs => (evE T a st).bdO st fun k => onI k fun k => onP (placeOf xs.length k) fun j =>
    (evE T b (st.set i (some (.lst (xs.set j x))))).bdO (st.set i (some (.lst (xs.set j x)))) fun l => onI l fun l => onP (placeOf (xs.set j x).length l) fun m => .nx (st.set i (some (.lst ((xs.set j x).set m y)))) := rfl
def stfO (st : St) (i f : Nat) (x : D) : O := match st[i]? with
    | some (some (.obj c fs)) => if fs.length < 900 then .nx (st.set i (some (.obj c (setField f x fs)))) else .bad
    | _ => .bad
theorem evS_stf {i f : Nat} {e : E} : evS T U (.stf i f e) st = (evE T e st).bdO st (stfO st i f) := rfl
theorem stfO_z {f c : Nat} {fs} {x : D} (h : fs.length < 900) : stfO (some (.obj c fs) :: st) 0 f x = .nx (some (.obj c (setField f x fs)) :: st) := by
  simp only [stfO, get_z, h, if_true, set_z]
def augO (st : St) (i : Nat) (o : BO) (x y : D) : O := match o, x, y with
      | .add, .int a, .int b => .nx (st.set i (some (.int (a + b))))
      | .sub, .int a, .int b => .nx (st.set i (some (.int (a - b))))
      | _, _, _ => .bad
theorem augO_add {i : Nat} {a b : Int} : augO st i .add (.int a) (.int b) = .nx (st.set i (some (.int (a + b)))) := rfl
theorem augO_sub {i : Nat} {a b : Int} : augO st i .sub (.int a) (.int b) = .nx (st.set i (some (.int (a - b)))) := rfl
def onV (st : St) (i : Nat) (k : D → O) : O := match st[i]? with
  | some (some x) => k x
  | _ => .bad
theorem onV_z {x : D} {k : D → O} : onV (some x :: st) 0 k = k x := rfl
theorem onV_s {a : Option D} {i : Nat} {k : D → O} : onV (a :: st) (i + 1) k = onV st i k := rfl
theorem onL_z {xs : List D} {k : List D → O} : onL (some (.lst xs) :: st) 0 k = k xs := rfl
theorem onL_s {a : Option D} {i : Nat} {k : List D → O} : onL (a :: st) (i + 1) k = onL st i k := rfl
theorem evS_aug {i : Nat} {o : BO} {e : E} : evS T U (.aug i o e) st = onV st i fun x => (evE T e st).bdO st (augO st i o x) := rfl
theorem evS_app {i : Nat} {e : E} : evS T U (.app i e) st = onL st i fun xs => (evE T e st).bdO st fun d => if xs.length < big then .nx (st.set i (some (.lst (xs ++ [d])))) else .bad := rfl
theorem evS_ext {i : Nat} {e : E} : evS T U (.ext i e) st = onL st i fun xs => (evE T e st).bdO st fun d => (match d with
      | .lst ys => if xs.length + ys.length < big then .nx (st.set i (some (.lst (xs ++ ys)))) else .bad
      | _ => .bad) := rfl
theorem evS_pop {i : Nat} : evS T U (.pop i) st = onL st i fun xs => if xs.length = 0 then .bad else .nx (st.set i (some (.lst xs.dropLast))) := rfl
theorem evS_exp {e : E} : evS T U (.exp e) st = (evE T e st).bdO st fun _ => .nx st := rfl
theorem evS_ifs {c : E} {a b : Ss} : evS T U (.ifs c a b) st = (evE T c st).bdO st fun x => onO x (evSs T U a st) (evSs T U b st) := rfl
theorem evS_whl {c : E} {l : List Nat} {b : Ss} : evS T U (.whl c l b) st = whileL (evE T c) (evSs T U b) FUEL st := rfl
theorem evS_forr {p : P} {it : I} {l : List Nat} {b : Ss} : evS T U (.forr p it l b) st = (evI T it st).bdO st fun ds => forL (bindP p) (evSs T U b) ds st := rfl
theorem evS_ret {e : E} : evS T U (.ret e) st = (evE T e st).bdO st fun d => .rt d := rfl
theorem evS_brk : evS T U .brk st = .bk st := rfl
theorem evS_cnt : evS T U .cnt st = .ct st := rfl
theorem evS_pas : evS T U .pas st = .nx st := rfl
theorem evS_rse {c : Nat} : evS T U (.rse c) st = .er c [] st := rfl
def triO (o : O) (k : Nat → List (Nat × D) → St → O) : O := match o with
  | .er c fs st' => k c fs st'
  | o => o
theorem evS_tri {l : List Nat} {b : Ss} {hs : Hs} : evS T U (.tri l b hs) st = triO (evSs T U b st) (evHs T U hs) := by
  simp only [evS, triO]; all_goals (cases evSs T U b st <;> rfl)
theorem triO_nx {k} : triO (.nx st) k = .nx st := rfl
theorem triO_rt {d : D} {k} : triO (.rt d) k = .rt d := rfl
theorem triO_bk {k} : triO (.bk st) k = .bk st := rfl
theorem triO_ct {k} : triO (.ct st) k = .ct st := rfl
theorem triO_er {c : Nat} {fs} {k} : triO (.er c fs st) k = k c fs st := rfl
def afterH (i : Nat) (o : O) : O := match o with
  | .nx st' => .nx (st'.set i none)
  | .bk st' => .bk (st'.set i none)
  | .ct st' => .ct (st'.set i none)
  | .rt d => .rt d
  | .er c fs st' => .er c fs st'
  | .bad => .bad
theorem evHs_nil {c : Nat} {fs} : evHs T U .nil c fs st = .er c fs st := rfl
theorem evHs_no {k c : Nat} {n : Option Nat} {b : Ss} {hs : Hs} {fs} (h : U.sub c k = false) : evHs T U (.cons k n b hs) c fs st = evHs T U hs c fs st := by
  simp only [evHs, h]
theorem evHs_yes {k c : Nat} {b : Ss} {hs : Hs} {fs} (h : U.sub c k = true) : evHs T U (.cons k none b hs) c fs st = evSs T U b st := by
  simp only [evHs, h]
theorem evHs_yes_n {k c i : Nat} {b : Ss} {hs : Hs} {fs} (h : U.sub c k = true) : evHs T U (.cons k (some i) b hs) c fs st = afterH i (evSs T U b (st.set i (some (.exn c fs)))) := by
  simp only [evHs, h]
  unfold afterH
  cases evSs T U b (st.set i (some (.exn c fs))) <;> rfl
/- defs -/
theorem evDef_eq {np ns k : Nat} {b : Ss} {ds : List D} (h : ds.length = np) : evDef T U ⟨np, ns, b, k⟩ ds = kindD k (outD (evSs T U b (ds.map some ++ List.replicate (ns - ds.length) none))) := by
  simp only [evDef, h, if_true, startD]
theorem evIni_eq {np ns k j : Nat} {b : Ss} {ds : List D} (h : ds.length + 1 = np) : evIni T U j ⟨np, ns, b, k⟩ ds = outI (evSs T U b (some (.obj j []) :: (ds.map some ++ List.replicate (ns - (ds.length + 1)) none))) := by
  simp only [evIni, h, if_true, startD]
  subst h
  rfl
/- binding -/
theorem bindP_nm {i : Nat} {d : D} : bindP (.nm i) d st = some (st.set i (some d)) := rfl
theorem bindP_tp2 {i j : Nat} {a b : D} : bindP (.tp [i, j]) (.tup [a, b]) st = some ((st.set i (some a)).set j (some b)) := rfl
theorem wipe_nm {i : Nat} : wipeD st (P.slots (.nm i)) = st.set i none := rfl
theorem wipe_tp2 {i j : Nat} : wipeD st (P.slots (.tp [i, j])) = (st.set j none).set i none := rfl
end ev

def nD (n : Nat) : D := .int (n : Int)
/-! ### operations on written values -/
theorem bin_add {i j : Int} : binD .add (.int i) (.int j) = some (.int (i + j)) := rfl
theorem bin_sub {i j : Int} : binD .sub (.int i) (.int j) = some (.int (i - j)) := rfl
theorem bin_mul {i j : Int} (h : intOk j = true) : binD .mul (.int i) (.int j) = some (.int (i * j)) := by simp [binD, h]
theorem bin_mul' {i j : Int} (h : intOk i = true) : binD .mul (.int i) (.int j) = some (.int (i * j)) := by simp [binD, h]
theorem intOk_of {i : Int} (h1 : -18446744073709551616 < i) (h2 : i < 18446744073709551616) : intOk i = true := decide_eq_true ⟨h1, h2⟩
theorem bin_fdiv {i j : Int} (h1 : 0 < j) (h2 : j < 1073741824) : binD .fdiv (.int i) (.int j) = some (.int (i / j)) := by simp [binD, h1, h2]
theorem bin_mod {i j : Int} (h1 : 0 < j) : binD .mod (.int i) (.int j) = some (.int (i % j)) := by simp [binD, h1]
theorem bin_addL {xs ys : List D} (h : xs.length + ys.length ≤ big) : binD .add (.lst xs) (.lst ys) = some (.lst (xs ++ ys)) := by simp [binD, h]
theorem bin_addL_if {xs ys : List D} : binD .add (.lst xs) (.lst ys) = if xs.length + ys.length ≤ big then some (.lst (xs ++ ys)) else none := rfl
theorem bin_addS {a b : Str} (h : a.cps.size + b.cps.size ≤ big) : binD .add (.str a) (.str b) = some (.str ⟨a.cps ++ b.cps⟩) := by simp [binD, h]
theorem cmp_eq {i j : Int} : cmpD .eq (.int i) (.int j) = some (.bl (decide (i = j))) := rfl
theorem cmp_ne {i j : Int} : cmpD .ne (.int i) (.int j) = some (.bl (!decide (i = j))) := rfl
theorem cmp_lt {i j : Int} : cmpD .lt (.int i) (.int j) = some (.bl (decide (i < j))) := rfl
theorem cmp_le {i j : Int} : cmpD .le (.int i) (.int j) = some (.bl (decide (i ≤ j))) := rfl
theorem cmp_gt {i j : Int} : cmpD .gt (.int i) (.int j) = some (.bl (decide (j < i))) := rfl
theorem cmp_ge {i j : Int} : cmpD .ge (.int i) (.int j) = some (.bl (decide (j ≤ i))) := rfl
theorem cmp_eqS {a b : Str} : cmpD .eq (.str a) (.str b) = some (.bl (decide (a = b))) := rfl
theorem cmp_neS {a b : Str} : cmpD .ne (.str a) (.str b) = some (.bl (!decide (a = b))) := rfl
theorem isD_n {x : D} : isD false x none = some (.bl (isN x)) := rfl
theorem isD_nn {x : D} : isD true x none = some (.bl (!isN x)) := rfl
theorem isD_t {b : Bool} : isD false (.bl b) (some true) = some (.bl b) := by cases b <;> rfl
theorem isD_nt {b : Bool} : isD true (.bl b) (some true) = some (.bl (!b)) := by cases b <;> rfl
theorem isD_f {b : Bool} : isD false (.bl b) (some false) = some (.bl (!b)) := by cases b <;> rfl
theorem isD_nf {b : Bool} : isD true (.bl b) (some false) = some (.bl b) := by cases b <;> rfl
theorem isN_int {i : Int} : isN (.int i) = false := rfl
theorem isN_non : isN .non = true := rfl
theorem isN_lst {l} : isN (.lst l) = false := rfl
theorem isN_tup {l} : isN (.tup l) = false := rfl
theorem isN_obj {c l} : isN (.obj c l) = false := rfl
theorem isN_str {s} : isN (.str s) = false := rfl
theorem neg_int {i : Int} : negD (.int i) = some (.int (-i)) := rfl
theorem blt_len {xs : List D} : bltD .len [.lst xs] = some (.int xs.length) := rfl
theorem blt_lenT {xs : List D} : bltD .len [.tup xs] = some (.int xs.length) := rfl
theorem blt_lenS {s : Str} (h : s.cps.size ≤ big) : bltD .len [.str s] = some (.int s.cps.size) := by simp [bltD, h]
theorem blt_abs {i : Int} : bltD .abs [.int i] = some (.int (if i < 0 then -i else i)) := rfl
theorem blt_int {i : Int} : bltD .int [.int i] = some (.int i) := rfl
theorem blt_intB {b : Bool} : bltD .int [.bl b] = some (.int (if b then 1 else 0)) := rfl
theorem blt_max {i j : Int} : bltD .max [.int i, .int j] = some (.int (if j > i then j else i)) := rfl
theorem blt_min {i j : Int} : bltD .min [.int i, .int j] = some (.int (if j < i then j else i)) := rfl
theorem blt_list {xs : List D} : bltD .list [.lst xs] = some (.lst xs) := rfl
theorem blt_listT {xs : List D} : bltD .list [.tup xs] = some (.lst xs) := rfl
theorem blt_tuple {xs : List D} : bltD .tuple [.lst xs] = some (.tup xs) := rfl
theorem fieldOf_cons {f g : Nat} {d : D} {r} : fieldOf f ((g, d) :: r) = if g = f then some d else fieldOf f r := rfl
theorem fieldOf_nil {f : Nat} : fieldOf f [] = none := rfl
theorem setField_nil {f : Nat} {d : D} : setField f d [] = [(f, d)] := rfl
theorem setField_cons {f g : Nat} {d e : D} {r} : setField f d ((g, e) :: r) = if g = f then (g, d) :: r else (g, e) :: setField f d r := rfl
theorem placeOf_nat {n k : Nat} (h : k < n) : placeOf n (k : Int) = some k := by
  unfold placeOf
  rw [if_pos (by omega), if_pos (by omega)]; simp
theorem pick_nat {α : Type} {xs : List α} {k : Nat} (h : k < xs.length) : pick xs (k : Int) = some xs[k] := by
  unfold pick; rw [placeOf_nat h]; simp [h]
theorem pick_z {α : Type} {x : α} {xs : List α} : pick (x :: xs) 0 = some x := pick_nat (xs := x :: xs) (k := 0) (by simp)
theorem pick_1 {α : Type} {x y : α} {xs : List α} : pick (x :: y :: xs) 1 = some y := pick_nat (xs := x :: y :: xs) (k := 1) (by simp)
theorem pick_2 {α : Type} {x y z : α} {xs : List α} : pick (x :: y :: z :: xs) 2 = some z := pick_nat (xs := x :: y :: z :: xs) (k := 2) (by simp)
theorem pick_map {α β : Type} {f : α → β} {l : List α} (k : Nat) (h : k < l.length) : pick (l.map f) (k : Int) = some (f l[k]) := by
  rw [pick_nat (by simpa using h)]; simp
theorem placeOf_last {n : Nat} (h : 0 < n) : placeOf n (-1) = some (n - 1) := by
  unfold placeOf
  rw [if_neg (by omega), if_pos (by omega)]; congr 1; omega
theorem pick_last {α : Type} {xs : List α} (h : xs ≠ []) : pick xs (-1) = some (xs.getLast h) := by
  unfold pick
  have : 0 < xs.length := List.length_pos_iff.mpr h
  rw [placeOf_last this]
  simp only []
  rw [List.getLast_eq_getElem, List.getElem?_eq_getElem (by omega)]
theorem idx_lst {xs : List D} {i : Int} : idxD (.lst xs) (.int i) = pick xs i := rfl
theorem idx_tup {xs : List D} {i : Int} : idxD (.tup xs) (.int i) = pick xs i := rfl
theorem rngD_nat {n : Nat} : rngD 0 (n : Int) = (List.range n).map fun k => .int (k : Nat) := by
  unfold rngD
  simp
theorem rngD_len {l h : Int} : (rngD l h).length = (h - l).toNat := by simp [rngD]

/-! ### loops -/
section loops
variable {g : D → St → Option St} {b : St → O}
theorem forL_nil {st : St} : forL g b [] st = .nx st := rfl
theorem forL_nx {x : D} {xs : List D} {st s1 s2 : St} (h1 : g x st = some s1) (h2 : b s1 = .nx s2) : forL g b (x :: xs) st = forL g b xs s2 := by
  simp only [forL, h1, h2]
theorem forL_ct {x : D} {xs : List D} {st s1 s2 : St} (h1 : g x st = some s1) (h2 : b s1 = .ct s2) : forL g b (x :: xs) st = forL g b xs s2 := by
  simp only [forL, h1, h2]
theorem forL_rt {x d : D} {xs : List D} {st s1 : St} (h1 : g x st = some s1) (h2 : b s1 = .rt d) : forL g b (x :: xs) st = .rt d := by
  simp only [forL, h1, h2]
theorem forL_er {x : D} {c fs} {xs : List D} {st s1 s2 : St} (h1 : g x st = some s1) (h2 : b s1 = .er c fs s2) : forL g b (x :: xs) st = .er c fs s2 := by
  simp only [forL, h1, h2]
theorem forL_bk {x : D} {xs : List D} {st s1 s2 : St} (h1 : g x st = some s1) (h2 : b s1 = .bk s2) : forL g b (x :: xs) st = .nx s2 := by
  simp only [forL, h1, h2]
/-- one turn, going on -/
def Turn (g : D → St → Option St) (b : St → O) (x : D) (st : St) (P : St → Prop) : Prop := ∃ s1 s2, g x st = some s1 ∧ (b s1 = .nx s2 ∨ b s1 = .ct s2) ∧ P s2
theorem Turn.step {x : D} {xs : List D} {st : St} {P : St → Prop} (h : Turn g b x st P) : ∃ s2, forL g b (x :: xs) st = forL g b xs s2 ∧ P s2 := by
  obtain ⟨s1, s2, h1, h2 | h2, h3⟩ := h
  · exact ⟨s2, forL_nx h1 h2, h3⟩
  · exact ⟨s2, forL_ct h1 h2, h3⟩
/-- an invariant over what was taken -/
theorem for_inv {α : Type} {f : α → D} (P : List α → St → Prop) : ∀ (post pre : List α) (st : St), P pre st → (∀ pre' x post' st, pre ++ post = pre' ++ x :: post' → P pre' st → Turn g b (f x) st (P (pre' ++ [x]))) → ∃ st', forL g b (post.map f) st = .nx st' ∧ P (pre ++ post) st'
  | [], pre, st, h, _ => ⟨st, rfl, by simpa using h⟩
  | x :: post, pre, st, h, hs => by
    obtain ⟨s2, e, h2⟩ := (hs pre x post st rfl h).step (xs := post.map f)
    obtain ⟨st', e2, h3⟩ := for_inv P post (pre ++ [x]) s2 h2 (fun pre' y post' st he => hs pre' y post' st (by simpa using he))
    exact ⟨st', by rw [List.map_cons, e, e2], by simpa using h3⟩
theorem for_all {α : Type} {f : α → D} (P : List α → St → Prop) {l : List α} {st : St} (h0 : P [] st) (hs : ∀ pre x post st, l = pre ++ x :: post → P pre st → Turn g b (f x) st (P (pre ++ [x]))) : ∃ st', forL g b (l.map f) st = .nx st' ∧ P l st' := by
  have := for_inv (g := g) (b := b) (f := f) P l [] st h0 (fun pre x post st he => hs pre x post st (by simpa using he))
  simpa using this
/-- over range(n) -/
theorem for_upto {n : Nat} (P : Nat → St → Prop) {st : St} (h0 : P 0 st) (hs : ∀ k st, k < n → P k st → Turn g b (.int (k : Nat)) st (P (k + 1))) : ∃ st', forL g b (rngD 0 (n : Int)) st = .nx st' ∧ P n st' := by
  rw [rngD_nat]
  obtain ⟨st', e, h⟩ := for_all (g := g) (b := b) (f := fun k : Nat => D.int (k : Nat)) (l := List.range n) (fun pre st => P pre.length st) (st := st) h0 (fun pre x post st he hP => by
    have hl : (List.range n)[pre.length]? = some x := by rw [he]; simp
    have hx : x = pre.length := by
      rw [List.getElem?_range] at hl
      · exact (Option.some.inj hl).symm
      · have := congrArg List.length he; simp at this; omega
    have hn : pre.length < n := by have := congrArg List.length he; simp at this; omega
    subst hx
    simpa using hs pre.length st hn hP)
  exact ⟨st', e, by simpa using h⟩
/-- a while with a falling number -/
theorem while_inv {c : St → R} (P : St → Prop) (m : St → Nat) (hc : ∀ st, P st → c st = .ok (.bl false) ∨ (c st = .ok (.bl true) ∧ ∃ s2, (b st = .nx s2 ∨ b st = .ct s2) ∧ P s2 ∧ m s2 < m st)) : ∀ (n : Nat) (st : St), P st → m st < n → ∃ st', whileL c b n st = .nx st' ∧ P st' ∧ c st' = .ok (.bl false)
  | 0, _, _, h => by omega
  | n + 1, st, hP, hm => by
    rcases hc st hP with h | ⟨h, s2, h2, h3, h4⟩
    · exact ⟨st, by simp only [whileL, h], hP, h⟩
    · obtain ⟨st', e, h5⟩ := while_inv P m hc n s2 h3 (by omega)
      refine ⟨st', ?_, h5⟩
      rcases h2 with h2 | h2 <;> simp only [whileL, h, h2, e]
end loops
theorem mapL_map {α : Type} {f : D → Option (Option D)} {e : α → D} {k : α → D} : ∀ {l : List α}, (∀ x ∈ l, f (e x) = some (some (k x))) → mapL f (l.map e) = some (l.map k)
  | [], _ => rfl
  | x :: l, h => by
    simp only [List.map_cons, mapL, h x (List.mem_cons_self ..), mapL_map (fun y hy => h y (List.mem_cons_of_mem _ hy)), Option.map_some]
theorem mapL_filter {α : Type} {f : D → Option (Option D)} {e : α → D} {k : α → D} {p : α → Bool} : ∀ {l : List α}, (∀ x ∈ l, f (e x) = if p x then some (some (k x)) else some none) → mapL f (l.map e) = some ((l.filter p).map k)
  | [], _ => rfl
  | x :: l, h => by
    have ih := mapL_filter (k := k) (p := p) (f := f) (fun y (hy : y ∈ l) => h y (List.mem_cons_of_mem _ hy))
    have hx := h x (List.mem_cons_self ..)
    by_cases hp : p x = true
    · simp only [hp, if_true] at hx
      simp only [List.map_cons, mapL, hx, ih, Option.map_some, List.filter_cons, hp, if_true]
    · simp only [hp] at hx
      simp only [List.map_cons, mapL, hx, ih, List.filter_cons, hp]
      simp
end DL
end

section
set_option linter.all false
set_option maxRecDepth 100000
set_option maxHeartbeats 1000000
set_option Elab.async false
/-! PLc: what a run ends in. -/
namespace DL
open PySem
def Wp (o : O) (Q : O → Prop) : Prop := Q o
def Rs (r : R) (Q : R → Prop) : Prop := Q r
section
variable {T : Tb} {U : Up} {st : St} {Q : O → Prop}
theorem Rs.eq {r s : R} (h : Rs r fun x => x = s) : r = s := h
theorem rs_def {np ns k : Nat} {b : Ss} {ds : List D} {Q : R → Prop} (h : ds.length = np) (H : Wp (evSs T U b (ds.map some ++ List.replicate (ns - ds.length) none)) fun o => Q (kindD k (outD o))) : Rs (evDef T U ⟨np, ns, b, k⟩ ds) Q := by
  unfold Rs; rw [evDef_eq h]; exact H
theorem df_eq {np ns k : Nat} {b : Ss} {ds : List D} {r : R} (h : ds.length = np) (H : Wp (evSs T U b (ds.map some ++ List.replicate (ns - ds.length) none)) fun o => kindD k (outD o) = r) : evDef T U ⟨np, ns, b, k⟩ ds = r := rs_def (Q := fun x => x = r) h H
theorem di_eq {np ns k j : Nat} {b : Ss} {ds : List D} {r : R} (h : ds.length + 1 = np) (H : Wp (evSs T U b (some (.obj j []) :: (ds.map some ++ List.replicate (ns - (ds.length + 1)) none))) fun o => outI o = r) : evIni T U j ⟨np, ns, b, k⟩ ds = r := by
  rw [evIni_eq h]; exact H
theorem rs_ini {np ns k j : Nat} {b : Ss} {ds : List D} {Q : R → Prop} (h : ds.length + 1 = np) (H : Wp (evSs T U b (some (.obj j []) :: (ds.map some ++ List.replicate (ns - (ds.length + 1)) none))) fun o => Q (outI o)) : Rs (evIni T U j ⟨np, ns, b, k⟩ ds) Q := by
  unfold Rs; rw [evIni_eq h]; exact H
def onS (o : Option St) (F : St → Prop) : Prop := match o with
  | some s => F s
  | none => False
theorem onS_some {F : St → Prop} : onS (some st) F = F st := rfl
/-- a turn's end -/
def Tn (P : St → Prop) (k : St → O) (Q : O → Prop) : O → Prop
  | .nx s => P s
  | .ct s => P s
  | .rt d => Q (.rt d)
  | .er c fs s => Q (.er c fs s)
  | .bk s => Wp (k s) Q
  | .bad => False
theorem wp_bind {o : O} {k : St → O} (h : Wp o fun o => Wp (o.bd k) Q) : Wp (o.bd k) Q := h
theorem wp_ite {p : Prop} [Decidable p] {a b : O} {k : St → O} (ha : p → Wp (a.bd k) Q) (hb : ¬ p → Wp (b.bd k) Q) : Wp ((if p then a else b).bd k) Q := by
  split
  · exact ha (by assumption)
  · exact hb (by assumption)
theorem wp_ite' {p : Prop} [Decidable p] {a b : O} (ha : p → Wp a Q) (hb : ¬ p → Wp b Q) : Wp (if p then a else b) Q := by
  split
  · exact ha (by assumption)
  · exact hb (by assumption)
theorem wp_ite_nx {p : Prop} [Decidable p] {a b c : St} {k : St → O} (h : (if p then a else b) = c) (H : Wp (k c) Q) : Wp ((if p then .nx a else .nx b : O).bd k) Q := by
  subst h
  split
  · rename_i hp; rw [if_pos hp] at H; exact H
  · rename_i hp; rw [if_neg hp] at H; exact H
variable {g : D → St → Option St} {b : St → O} {k : St → O}
theorem for_go {α : Type} {f : α → D} (P : List α → St → Prop) : ∀ (post pre : List α) (st : St), P pre st → (∀ pre' x post' st, pre ++ post = pre' ++ x :: post' → P pre' st → onS (g (f x) st) fun s1 => Wp (b s1) (Tn (P (pre' ++ [x])) k Q)) → (∀ st, P (pre ++ post) st → Wp (k st) Q) → Wp ((forL g b (post.map f) st).bd k) Q
  | [], pre, st, h, _, hk => hk st (by simpa using h)
  | x :: post, pre, st, h, hs, hk => by
    have h1 := hs pre x post st rfl h
    rw [List.map_cons]
    cases e : g (f x) st with
    | none => rw [e] at h1; exact h1.elim
    | some s1 =>
      rw [e] at h1
      have h1 : Tn (P (pre ++ [x])) k Q (b s1) := h1
      have ih : ∀ s2, P (pre ++ [x]) s2 → Wp ((forL g b (post.map f) s2).bd k) Q := fun s2 h2 => for_go P post (pre ++ [x]) s2 h2 (fun pre' y post' st he => hs pre' y post' st (by simpa using he)) (fun st hst => hk st (by simpa using hst))
      cases e2 : b s1 with
      | nx s2 => rw [e2] at h1; rw [forL_nx e e2]; exact ih s2 h1
      | ct s2 => rw [e2] at h1; rw [forL_ct e e2]; exact ih s2 h1
      | bk s2 => rw [e2] at h1; rw [forL_bk e e2]; exact h1
      | rt d => rw [e2] at h1; rw [forL_rt e e2]; exact h1
      | er c fs s2 => rw [e2] at h1; rw [forL_er e e2]; exact h1
      | bad => rw [e2] at h1; exact h1.elim
theorem for_k {α : Type} {f : α → D} {l : List α} (P : List α → St → Prop) (h0 : P [] st) (hs : ∀ pre x post st, l = pre ++ x :: post → P pre st → onS (g (f x) st) fun s1 => Wp (b s1) (Tn (P (pre ++ [x])) k Q)) (hk : ∀ st, P l st → Wp (k st) Q) : Wp ((forL g b (l.map f) st).bd k) Q :=
  for_go P l [] st h0 (fun pre x post st he => hs pre x post st (by simpa using he)) (fun st hst => hk st (by simpa using hst))
theorem for_kd {l : List D} (P : List D → St → Prop) (h0 : P [] st) (hs : ∀ pre x post st, l = pre ++ x :: post → P pre st → onS (g x st) fun s1 => Wp (b s1) (Tn (P (pre ++ [x])) k Q)) (hk : ∀ st, P l st → Wp (k st) Q) : Wp ((forL g b l st).bd k) Q := by
  have := for_k (f := id) (g := g) (b := b) (k := k) (Q := Q) P h0 hs hk
  rwa [List.map_id] at this
theorem range_at {n x : Nat} {pre post : List Nat} (he : List.range n = pre ++ x :: post) : x = pre.length ∧ pre.length < n := by
  have hn : pre.length < n := by have := congrArg List.length he; simp at this; omega
  have hl : (List.range n)[pre.length]? = some x := by rw [he]; simp
  rw [List.getElem?_range hn] at hl
  exact ⟨(Option.some.inj hl).symm, hn⟩
theorem for_n {n : Nat} (P : Nat → St → Prop) (h0 : P 0 st) (hs : ∀ i st, i < n → P i st → onS (g (.int (i : Nat)) st) fun s1 => Wp (b s1) (Tn (P (i + 1)) k Q)) (hk : ∀ st, P n st → Wp (k st) Q) : Wp ((forL g b (rngD 0 (n : Int)) st).bd k) Q := by
  rw [rngD_nat]
  refine for_k (fun pre st => P pre.length st) h0 (fun pre x post st he hP => ?_) (fun st hP => hk st (by simpa using hP))
  obtain ⟨e, hn⟩ := range_at he
  subst e
  simpa using hs pre.length st hn hP
theorem rngD_from {lo n : Nat} : rngD (lo : Int) ((lo + n : Nat) : Int) = (List.range n).map fun k => .int ((lo + k : Nat) : Int) := by
  unfold rngD
  have : ((lo + n : Nat) - (lo : Int)).toNat = n := by omega
  rw [this]
  simp
/-- over range(lo, lo + n) -/
theorem for_n2 {lo n : Nat} (P : Nat → St → Prop) (h0 : P 0 st) (hs : ∀ i st, i < n → P i st → onS (g (.int ((lo + i : Nat) : Int)) st) fun s1 => Wp (b s1) (Tn (P (i + 1)) k Q)) (hk : ∀ st, P n st → Wp (k st) Q) : Wp ((forL g b (rngD (lo : Int) ((lo + n : Nat) : Int)) st).bd k) Q := by
  rw [rngD_from]
  refine for_k (fun pre st => P pre.length st) h0 (fun pre x post st he hP => ?_) (fun st hP => hk st (by simpa using hP))
  obtain ⟨e, hn⟩ := range_at he
  subst e
  simpa using hs pre.length st hn hP
/-- a while with a falling number -/
theorem while_go {c : St → R} (P : St → Prop) (m : St → Nat) (hc : ∀ st, P st → (c st = .ok (.bl false) ∧ Wp (k st) Q) ∨ (c st = .ok (.bl true) ∧ Wp (b st) (Tn (fun s => P s ∧ m s < m st) k Q))) : ∀ (n : Nat) (st : St), P st → m st < n → Wp ((whileL c b n st).bd k) Q
  | 0, _, _, h => by omega
  | n + 1, st, hP, hm => by
    rcases hc st hP with ⟨h, h2⟩ | ⟨h, h2⟩
    · have e : whileL c b (n + 1) st = .nx st := by simp only [whileL, h]
      rw [e]; exact h2
    · have h2 : Tn (fun s => P s ∧ m s < m st) k Q (b st) := h2
      cases e2 : b st with
      | nx s2 =>
        rw [e2] at h2
        have e : whileL c b (n + 1) st = whileL c b n s2 := by simp only [whileL, h, e2]
        rw [e]; exact while_go P m hc n s2 h2.1 (by have := h2.2; omega)
      | ct s2 =>
        rw [e2] at h2
        have e : whileL c b (n + 1) st = whileL c b n s2 := by simp only [whileL, h, e2]
        rw [e]; exact while_go P m hc n s2 h2.1 (by have := h2.2; omega)
      | bk s2 =>
        rw [e2] at h2
        have e : whileL c b (n + 1) st = .nx s2 := by simp only [whileL, h, e2]
        rw [e]; exact h2
      | rt d =>
        rw [e2] at h2
        have e : whileL c b (n + 1) st = .rt d := by simp only [whileL, h, e2]
        rw [e]; exact h2
      | er cc fs s2 =>
        rw [e2] at h2
        have e : whileL c b (n + 1) st = .er cc fs s2 := by simp only [whileL, h, e2]
        rw [e]; exact h2
      | bad => rw [e2] at h2; exact h2.elim
theorem while_k {c : St → R} (P : St → Prop) (m : St → Nat) (h0 : P st) (hm : m st < 1000000) (hc : ∀ st, P st → (c st = .ok (.bl false) ∧ Wp (k st) Q) ∨ (c st = .ok (.bl true) ∧ Wp (b st) (Tn (fun s => P s ∧ m s < m st) k Q))) : Wp ((whileL c b FUEL st).bd k) Q :=
  while_go P m hc FUEL st h0 hm
end
theorem map_snoc {α β : Type} {f : α → β} {l : List α} {x : α} : (l ++ [x]).map f = l.map f ++ [f x] := by simp
theorem slc_lst {xs : List D} {lo hi : Option Int} : slcD (.lst xs) lo hi = some (.lst (cut xs lo hi)) := rfl
theorem cut_hi {α : Type} {xs : List α} {k : Nat} : cut xs none (some (k : Int)) = xs.take k := by
  unfold cut clip
  simp only [if_pos (show (0 : Int) ≤ k by omega), Int.toNat_natCast, List.drop_zero, Nat.sub_zero]
  rw [List.take_eq_take_iff]; omega
theorem cut_lo {α : Type} {xs : List α} {k : Nat} : cut xs (some (k : Int)) none = xs.drop k := by
  unfold cut clip
  simp only [if_pos (show (0 : Int) ≤ k by omega), Int.toNat_natCast]
  by_cases h : k ≤ xs.length
  · rw [Nat.min_eq_left h, List.take_of_length_le (by simp)]
  · rw [Nat.min_eq_right (by omega), List.drop_of_length_le (by omega), List.drop_of_length_le (l := xs) (by omega)]; simp
theorem cut_both {α : Type} {xs : List α} {i j : Nat} (h : i ≤ j) : cut xs (some (i : Int)) (some (j : Int)) = (xs.take j).drop i := by
  unfold cut clip
  simp only [if_pos (show (0 : Int) ≤ i by omega), if_pos (show (0 : Int) ≤ j by omega), Int.toNat_natCast]
  rw [List.drop_take]
  by_cases hi : i ≤ xs.length
  · rw [Nat.min_eq_left hi]
    rw [List.take_eq_take_iff]; simp; omega
  · rw [List.drop_of_length_le (by omega), List.drop_of_length_le (l := xs) (i := i) (by omega)]; simp
theorem big_eq : big = 1000000 := rfl
end DL
end

section
set_option linter.all false
set_option maxRecDepth 100000
set_option maxHeartbeats 1000000
set_option Elab.async false
/-! PLs: texts, by their signs. -/
namespace DL
open PySem
theorem split_no {c : Nat} : ∀ (l acc : List Nat), c ∉ l → splitAt1 c acc l = [acc ++ l]
  | [], acc, _ => by simp [splitAt1]
  | x :: r, acc, h => by
    have hx : ¬ x = c := fun e => h (by rw [e]; exact List.mem_cons_self ..)
    rw [splitAt1, if_neg hx, split_no r (acc ++ [x]) (fun m => h (List.mem_cons_of_mem _ m))]; simp
theorem split_at {c : Nat} (r : List Nat) : ∀ (l acc : List Nat), c ∉ l → splitAt1 c acc (l ++ c :: r) = (acc ++ l) :: splitAt1 c [] r
  | [], acc, _ => by simp [splitAt1]
  | x :: l, acc, h => by
    have hx : ¬ x = c := fun e => h (by rw [e]; exact List.mem_cons_self ..)
    rw [List.cons_append, splitAt1, if_neg hx, split_at r l (acc ++ [x]) (fun m => h (List.mem_cons_of_mem _ m))]; simp
theorem split_join {c : Nat} : ∀ (ls : List (List Nat)), ls ≠ [] → (∀ l ∈ ls, c ∉ l) → splitAt1 c [] (joinAt [c] ls) = ls
  | [], h, _ => absurd rfl h
  | [x], _, h => by rw [joinAt, split_no x [] (h x (List.mem_cons_self ..))]; rfl
  | x :: y :: r, _, h => by
    have e : joinAt [c] (x :: y :: r) = x ++ c :: joinAt [c] (y :: r) := by simp [joinAt]
    rw [e, split_at _ x [] (h x (List.mem_cons_self ..)), split_join (y :: r) (by simp) (fun l m => h l (List.mem_cons_of_mem _ m))]; rfl
theorem join_snoc {s x : List Nat} : ∀ (ls : List (List Nat)), ls ≠ [] → joinAt s (ls ++ [x]) = joinAt s ls ++ s ++ x
  | [], h => absurd rfl h
  | [y], _ => by simp [joinAt]
  | y :: z :: r, _ => by
    have ih := join_snoc (s := s) (x := x) (z :: r) (by simp)
    simp only [List.cons_append] at ih
    simp only [List.cons_append, joinAt, ih, List.append_assoc]
theorem join_len {s : List Nat} {m : Nat} : ∀ (ls : List (List Nat)), (∀ l ∈ ls, l.length ≤ m) → (joinAt s ls).length ≤ ls.length * (s.length + m)
  | [], _ => by simp [joinAt]
  | [x], h => by
    have := h x (List.mem_cons_self ..)
    simp [joinAt]; omega
  | x :: y :: r, h => by
    have h1 := h x (List.mem_cons_self ..)
    have ih := join_len (s := s) (m := m) (y :: r) (fun l q => h l (List.mem_cons_of_mem _ q))
    simp only [joinAt, List.length_append]
    simp only [List.length_cons] at ih ⊢
    rw [Nat.add_mul] at ih ⊢
    rw [Nat.add_mul]
    omega
theorem join_mem {s : List Nat} {c : Nat} : ∀ (ls : List (List Nat)), c ∈ joinAt s ls → c ∈ s ∨ ∃ l ∈ ls, c ∈ l
  | [], h => by simp [joinAt] at h
  | [x], h => .inr ⟨x, by simp, by simpa [joinAt] using h⟩
  | x :: y :: r, h => by
    simp only [joinAt, List.append_assoc, List.mem_append] at h
    rcases h with h | h | h
    · exact .inr ⟨x, by simp, h⟩
    · exact .inl h
    · rcases join_mem (y :: r) h with h | ⟨l, hl, h⟩
      · exact .inl h
      · exact .inr ⟨l, List.mem_cons_of_mem _ hl, h⟩
/-- the signs of a number -/
def tn (n : Nat) : List Nat := (intText (n : Int)).cps.toList
def allN (p : Nat → Bool) : Nat → Bool
  | 0 => true
  | n + 1 => p n && allN p n
theorem allN_at {p : Nat → Bool} : ∀ {n : Nat}, allN p n = true → ∀ k < n, p k = true
  | n + 1, h, k, hk => by
    simp only [allN, Bool.and_eq_true] at h
    by_cases e : k = n
    · rw [e]; exact h.1
    · exact allN_at h.2 k (by omega)
theorem str_of (s : Str) : (⟨s.cps.toList.toArray⟩ : Str) = s := by cases s; simp
theorem tn_str (n : Nat) : (⟨(tn n).toArray⟩ : Str) = intText (n : Int) := str_of _
/-- a line of parts -/
def ln (ls : List (List Nat)) : Str := ⟨(joinAt [32] ls).toArray⟩
theorem ofs_sp : Str.ofString " " = ⟨#[32]⟩ := by decide +kernel
theorem ofs_nl : Str.ofString "\n" = ⟨#[10]⟩ := by decide +kernel
theorem strsOf_map {α : Type} {f : α → Str} : ∀ (l : List α), strsOf (l.map fun x => .str (f x)) = some (l.map f)
  | [] => rfl
  | x :: l => by simp only [List.map_cons, strsOf, strsOf_map l, Option.map_some]
theorem join_D {α : Type} {c : Nat} {f : α → List Nat} {l : List α} (h1 : l.length ≤ 5000) (h2 : ∀ x ∈ l, (f x).length ≤ 2000) : bmD .join (.str ⟨#[c]⟩) [.lst (l.map fun x => .str ⟨(f x).toArray⟩)] = some (.str ⟨(joinAt [c] (l.map f)).toArray⟩) := by
  show (match strsOf (l.map fun x => .str ⟨(f x).toArray⟩) with
    | some ys => if (#[c]).size ≤ 1000 ∧ ys.length ≤ 5000 ∧ (ys.all fun y : Str => decide (y.cps.size ≤ 2000)) = true then some (D.str ⟨(joinAt [c] (ys.map fun y : Str => y.cps.toList)).toArray⟩) else none
    | none => none) = _
  rw [strsOf_map (f := fun x => (⟨(f x).toArray⟩ : Str))]
  have h3 : ((l.map fun x => (⟨(f x).toArray⟩ : Str)).all fun y => decide (y.cps.size ≤ 2000)) = true := by
    rw [List.all_eq_true]
    intro y hy
    obtain ⟨x, hx, rfl⟩ := List.mem_map.mp hy
    simpa using h2 x hx
  simp only [List.length_map]
  rw [if_pos ⟨by simp, h1, h3⟩, List.map_map]
  rfl
theorem split_D {c : Nat} {ls : List (List Nat)} (hc : c < 256) (h0 : ls ≠ []) (hn : ∀ l ∈ ls, c ∉ l) (hb : (joinAt [c] ls).length ≤ big) : bmD .split (.str ⟨(joinAt [c] ls).toArray⟩) [.str ⟨#[c]⟩] = some (.lst (ls.map fun l => .str ⟨l.toArray⟩)) := by
  show (if (joinAt [c] ls).toArray.size ≤ big ∧ c < 256 then some (D.lst ((splitAt1 c [] (joinAt [c] ls).toArray.toList).map fun l => .str ⟨l.toArray⟩)) else none) = _
  rw [if_pos ⟨by simpa using hb, hc⟩]
  rw [show (joinAt [c] ls).toArray.toList = joinAt [c] ls from rfl, split_join ls h0 hn]
theorem memD_non {ns : List Nat} : memD .non (.lst (ns.map nD)) = some false := by
  have h : (ns.map nD).all isSc = true := by
    rw [List.all_eq_true]; intro y hy
    obtain ⟨x, hx, rfl⟩ := List.mem_map.mp hy; rfl
  have h2 : ((ns.map nD).any fun z => eqB z .non) = false := by
    rw [List.any_eq_false]; intro y hy
    obtain ⟨x, hx, rfl⟩ := List.mem_map.mp hy; simp [eqB, nD]
  simp only [memD, isSc, Bool.true_and, h, Bool.true_or, if_true, h2]
def isInt (n : Nat) : DL.R → Bool
  | .ok (.int i) => decide (i = n)
  | _ => false
theorem isInt_eq {n : Nat} {r : DL.R} (h : isInt n r = true) : r = .ok (.int n) := by
  unfold isInt at h
  split at h
  · rw [of_decide_eq_true h]
  · cases h
def eO : Option Nat → D
  | none => .non
  | some n => .int n
/-- the signs of an item -/
def tx : Option Nat → List Nat
  | none => [63]
  | some n => tn n
theorem tx_some {n : Nat} : tx (some n) = tn n := rfl
theorem tx_none : tx none = [63] := rfl
theorem cmp_in_non {ns : List Nat} : cmpD .isin .non (.lst (ns.map nD)) = some (.bl false) := by
  show (match signIn .non (.lst (ns.map nD)) with
    | some b => some (D.bl b)
    | none => (memD .non (.lst (ns.map nD))).map .bl) = _
  rw [memD_non]; rfl
theorem tn_ok : allN (fun n => decide ((tn n).length ≤ 3) && decide (1 ≤ (tn n).length) && !(tn n).contains 32 && !(tn n).contains 10 && decide (tn n ≠ [63])) 1000 = true := by decide +kernel
theorem tn_len {n : Nat} (h : n < 1000) : (tn n).length ≤ 3 := by have := allN_at tn_ok n h; simp at this; exact this.1.1.1.1
theorem tn_pos {n : Nat} (h : n < 1000) : 1 ≤ (tn n).length := by have := allN_at tn_ok n h; simp at this; exact this.1.1.1.2
theorem tn_32 {n : Nat} (h : n < 1000) : 32 ∉ tn n := by have := allN_at tn_ok n h; simp at this; exact this.1.1.2
theorem tn_10 {n : Nat} (h : n < 1000) : 10 ∉ tn n := by have := allN_at tn_ok n h; simp at this; exact this.1.2
theorem tn_63 {n : Nat} (h : n < 1000) : tn n ≠ [63] := by have := allN_at tn_ok n h; simp at this; exact this.2
theorem str_int {n : Nat} (h : n < 1000) : bltD .str [.int n] = some (.str ⟨(tn n).toArray⟩) := by
  have : intOk (n : Int) = true := intOk_of (by omega) (by omega)
  simp only [bltD, this, if_true, tn_str]
theorem str_eq {a b : List Nat} : ((⟨a.toArray⟩ : Str) = ⟨b.toArray⟩) ↔ a = b := by
  constructor
  · intro h; injection h with h; exact (by simpa using congrArg Array.toList h)
  · intro h; rw [h]
theorem tx_len {o : Option Nat} (h : ∀ n, o = some n → n < 1000) : (tx o).length ≤ 3 := by
  cases o with
  | none => decide
  | some n => exact tn_len (h n rfl)
theorem tx_32 {o : Option Nat} (h : ∀ n, o = some n → n < 1000) : 32 ∉ tx o := by
  cases o with
  | none => decide
  | some n => exact tn_32 (h n rfl)
theorem ln_snoc {ls : List (List Nat)} (h : ls ≠ []) {x : List Nat} : (⟨(ln ls).cps ++ #[32] ++ x.toArray⟩ : Str) = ln (ls ++ [x]) := by
  unfold ln; rw [join_snoc ls h]; simp
theorem ln_len {ls : List (List Nat)} {m : Nat} (h : ∀ l ∈ ls, l.length ≤ m) : (ln ls).cps.size ≤ ls.length * (1 + m) := by
  have := join_len (s := [32]) ls h
  simpa [ln] using this
end DL
end

section
set_option linter.all false
set_option maxRecDepth 100000
set_option maxHeartbeats 1000000
set_option Elab.async false
/-! PLe: written data compared. -/
namespace DL
open PySem
structure Enc {α : Type} (n : Nat) (f : α → D) : Prop where
  ok : ∀ x, okD n (f x) = true
  eq : ∀ x y, eqB (f x) (f y) = true ↔ x = y
theorem Enc.eqd {α : Type} [DecidableEq α] {n : Nat} {f : α → D} (h : Enc n f) (x y : α) : eqB (f x) (f y) = decide (x = y) := by
  by_cases e : x = y
  · rw [decide_eq_true e]; exact (h.eq x y).mpr e
  · rw [decide_eq_false e]
    cases q : eqB (f x) (f y) with
    | false => rfl
    | true => exact absurd ((h.eq x y).mp q) e
theorem enc_nD : Enc 0 nD := ⟨fun _ => rfl, fun x y => by simp [nD, eqB]; omega⟩
theorem enc_int : Enc 0 D.int := ⟨fun _ => rfl, fun x y => by simp [eqB]⟩
theorem enc_eO : Enc 0 eO := ⟨fun x => by cases x <;> rfl, fun x y => by cases x <;> cases y <;> simp [eO, eqB]; omega⟩
theorem okDs_map {α : Type} {n : Nat} {f : α → D} (h : ∀ x, okD n (f x) = true) : ∀ l : List α, okDs n (l.map f) = true
  | [] => rfl
  | x :: l => by simp only [List.map_cons, okDs, h x, okDs_map h l, Bool.and_self]
theorem eqBs_map {α : Type} {f : α → D} (h : ∀ x y, eqB (f x) (f y) = true ↔ x = y) : ∀ l m : List α, eqBs (l.map f) (m.map f) = true ↔ l = m
  | [], [] => by simp [eqBs]
  | [], _ :: _ => by simp [eqBs]
  | _ :: _, [] => by simp [eqBs]
  | x :: l, y :: m => by simp [eqBs, h x y, eqBs_map h l m]
/-- a list of data -/
def lD {α : Type} (f : α → D) (l : List α) : D := .lst (l.map f)
def tD {α : Type} (f : α → D) (l : List α) : D := .tup (l.map f)
theorem Enc.lst {α : Type} {n : Nat} {f : α → D} (h : Enc n f) : Enc (n + 1) (lD f) := ⟨fun l => by simp only [lD, okD]; exact okDs_map h.ok l, fun l m => by simp only [lD, eqB]; exact eqBs_map h.eq l m⟩
theorem Enc.tup {α : Type} {n : Nat} {f : α → D} (h : Enc n f) : Enc (n + 1) (tD f) := ⟨fun l => by simp only [tD, okD]; exact okDs_map h.ok l, fun l m => by simp only [tD, eqB]; exact eqBs_map h.eq l m⟩
mutual
theorem okD_mono : ∀ (d : D) {n : Nat}, okD n d = true → ∀ {m : Nat}, n ≤ m → okD m d = true
  | .non, _, _, _, _ => by simp [okD]
  | .bl _, _, _, _, _ => by simp [okD]
  | .int _, _, _, _, _ => by simp [okD]
  | .str _, _, h, _, _ => by simpa [okD] using h
  | .lst xs, 0, h, _, _ => by simp [okD] at h
  | .lst xs, n + 1, h, 0, hm => by omega
  | .lst xs, n + 1, h, m + 1, hm => by
    simp only [okD] at h ⊢
    exact okDs_mono xs h (by omega)
  | .tup xs, 0, h, _, _ => by simp [okD] at h
  | .tup xs, n + 1, h, 0, hm => by omega
  | .tup xs, n + 1, h, m + 1, hm => by
    simp only [okD] at h ⊢
    exact okDs_mono xs h (by omega)
  | .obj _ _, _, h, _, _ => by simp [okD] at h
  | .exn _ _, _, h, _, _ => by simp [okD] at h
theorem okDs_mono : ∀ (l : List D) {n : Nat}, okDs n l = true → ∀ {m : Nat}, n ≤ m → okDs m l = true
  | [], _, _, _, _ => by simp [okDs]
  | x :: l, _, h, _, hm => by
    simp only [okDs, Bool.and_eq_true] at h ⊢
    exact ⟨okD_mono x h.1 hm, okDs_mono l h.2 hm⟩
end
theorem eqOk_e {α : Type} {n : Nat} {f : α → D} (h : Enc n f) (hn : n ≤ 20) (x y : α) : eqOk (f x) (f y) = true := by
  unfold eqOk
  rw [okD_mono _ (h.ok x) hn, okD_mono _ (h.ok y) hn]; simp
theorem Enc.cmpe {α : Type} [DecidableEq α] {n : Nat} {f : α → D} (h : Enc n f) (hn : n ≤ 20) (x y : α) : cmpD .eq (f x) (f y) = some (.bl (decide (x = y))) := by
  simp only [cmpD, eqOk_e h hn x y, if_true, h.eqd x y]
theorem Enc.cmpn {α : Type} [DecidableEq α] {n : Nat} {f : α → D} (h : Enc n f) (hn : n ≤ 20) (x y : α) : cmpD .ne (f x) (f y) = some (.bl (!decide (x = y))) := by
  simp only [cmpD, eqOk_e h hn x y, if_true, h.eqd x y]
theorem Enc.cmpeL {α : Type} [DecidableEq α] {n : Nat} {f : α → D} (h : Enc n f) (hn : n < 20) (x y : List α) : cmpD .eq (.lst (x.map f)) (.lst (y.map f)) = some (.bl (decide (x = y))) := h.lst.cmpe hn x y
theorem Enc.cmpnL {α : Type} [DecidableEq α] {n : Nat} {f : α → D} (h : Enc n f) (hn : n < 20) (x y : List α) : cmpD .ne (.lst (x.map f)) (.lst (y.map f)) = some (.bl (!decide (x = y))) := h.lst.cmpn hn x y
theorem Enc.cmpeT {α : Type} [DecidableEq α] {n : Nat} {f : α → D} (h : Enc n f) (hn : n < 20) (x y : List α) : cmpD .eq (.tup (x.map f)) (.tup (y.map f)) = some (.bl (decide (x = y))) := h.tup.cmpe hn x y
theorem Enc.cmpnT {α : Type} [DecidableEq α] {n : Nat} {f : α → D} (h : Enc n f) (hn : n < 20) (x y : List α) : cmpD .ne (.tup (x.map f)) (.tup (y.map f)) = some (.bl (!decide (x = y))) := h.tup.cmpn hn x y
end DL
end

section
set_option linter.all false
set_option maxRecDepth 100000
set_option maxHeartbeats 1000000
set_option Elab.async false
namespace Lw
open PySem DL
def okN (x : Int) : Prop := 0 ≤ x ∧ x < 1009
theorem sp_law_row (c : Int) (n : Nat) (hn : n ≤ 1000000) : ∃ l : List Int, TT.fn 1000 [.int c, .int n] = .ok (.lst (l.map .int)) ∧ l.length = n ∧ ∀ x ∈ l, okN x := by
  rw [fx__law_row]
  refine rs_def (Q := fun r => ∃ l : List Int, r = .ok (.lst (l.map .int)) ∧ l.length = n ∧ ∀ x ∈ l, okN x) rfl ?_
  simp -implicitDefEqProofs only [getR_z, getR_s, get_z, get_s, set_z, set_s, bind_ok, bind_er, bindL_ok, bindL_er, lbind_ok, lbind_er, lbindL_ok, lbindL_er, bindO_ok, bindO_er, lbindO_ok, lbindO_er, obind_nx, obind_rt, obind_bk, obind_ct, obind_er, ofO_some, calm_ok, outD_nx, outD_rt, outD_er, outI_nx, outI_er, kind0, kind1, kind2_int, kind2_bl, kind2_str, kind2_non, kind2_er, toL_ok, onB_t, onB_f, onO_t, onO_f, onB_dec, onO_dec, onB_not, onO_not, notR_bl, evE_var, evE_non, evE_bl, evE_int, evE_str, evE_glo, evE_bin, evE_neg, evE_cmp, evE_isc, evE_chn, evE_and, evE_or, evE_not, evE_ite, evE_lst, evE_tup, evE_idx, evE_slc, isOm, slc_tt, slc_tf, slc_ft, slc_ff, partR_int, evE_att, attR_obj, attR_exn, evE_prp, evE_call, evE_meth, evE_make, evE_blt, evE_lsr, evE_bm, bmR_str, evE_isi, isiR, isiD, lstR_some, onSt_some, keepL_dec, keepL_t, keepL_f, keepL_not, evE_cmpr, evE_cmpi, evEs_nil, evEs_cons, evI_seq, seqR_lst, seqR_tup, seqR_str, evI_rng1, evI_rng2, evI_rng3, evI_rev, revR_lst, revR_tup, evI_zip, zipR_lst, evI_enm, evSs_nil, evSs_cons, evS_asg, evS_asgT, tupO_2, tupO_3, evS_par, onI_int, onP_some, evS_sti, evS_swp, evS_stf, augO_add, augO_sub, onV_z, onV_s, onL_z, onL_s, evS_aug, evS_app, evS_ext, evS_pop, evS_exp, evS_ifs, evS_whl, evS_forr, evS_ret, evS_brk, evS_cnt, evS_pas, evS_rse, evS_tri, triO_nx, triO_rt, triO_bk, triO_ct, triO_er, evHs_nil, bindP_nm, bindP_tp2, wipe_nm, wipe_tp2, bin_add, bin_sub, cmp_eq, cmp_ne, cmp_lt, cmp_le, cmp_gt, cmp_ge, cmp_eqS, cmp_neS, isD_n, isD_nn, isD_t, isD_nt, isD_f, isD_nf, isN_int, isN_non, isN_lst, isN_tup, isN_obj, isN_str, DL.neg_int, blt_len, blt_lenT, blt_abs, blt_int, blt_intB, blt_max, blt_min, blt_list, blt_listT, blt_tuple, fieldOf_cons, fieldOf_nil, setField_nil, setField_cons, idx_lst, idx_tup, ↓reduceIte, reduceCtorEq, List.map_cons, List.map_nil, List.cons_append, List.nil_append, List.replicate, List.length_cons, List.length_nil, decide_true, decide_false, Bool.not_true, Bool.not_false, onS_some, nD, Nat.reduceEqDiff, Nat.reduceAdd, Nat.reduceSub, Nat.reduceMul, Nat.reduceLT, Nat.reduceLeDiff, Int.cast_ofNat_Int, Int.reduceAdd, Int.reduceSub, Int.reduceMul, Int.reduceNeg, Int.reduceLT, Int.reduceLE, Int.reduceEq, pick_z, pick_1, pick_2, show binD .pow (.int 10) (.int 18) = some (.int 1000000000000000000) from rfl]
  have ha : 0 ≤ (if c < 0 then -c else c) := by split <;> omega
  have hr : rngOk 0 (n : Int) = true := rngOk_of (by omega) (by omega) (by omega) (by omega)
  refine wp_ite (fun _ => ?_) (fun _ => ?_)
  all_goals
    simp -implicitDefEqProofs only [getR_z, getR_s, get_z, get_s, set_z, set_s, bind_ok, bind_er, bindL_ok, bindL_er, lbind_ok, lbind_er, lbindL_ok, lbindL_er, bindO_ok, bindO_er, lbindO_ok, lbindO_er, obind_nx, obind_rt, obind_bk, obind_ct, obind_er, ofO_some, calm_ok, outD_nx, outD_rt, outD_er, outI_nx, outI_er, kind0, kind1, kind2_int, kind2_bl, kind2_str, kind2_non, kind2_er, toL_ok, onB_t, onB_f, onO_t, onO_f, onB_dec, onO_dec, onB_not, onO_not, notR_bl, evE_var, evE_non, evE_bl, evE_int, evE_str, evE_glo, evE_bin, evE_neg, evE_cmp, evE_isc, evE_chn, evE_and, evE_or, evE_not, evE_ite, evE_lst, evE_tup, evE_idx, evE_slc, isOm, slc_tt, slc_tf, slc_ft, slc_ff, partR_int, evE_att, attR_obj, attR_exn, evE_prp, evE_call, evE_meth, evE_make, evE_blt, evE_lsr, evE_bm, bmR_str, evE_isi, isiR, isiD, lstR_some, onSt_some, keepL_dec, keepL_t, keepL_f, keepL_not, evE_cmpr, evE_cmpi, evEs_nil, evEs_cons, evI_seq, seqR_lst, seqR_tup, seqR_str, evI_rng1, evI_rng2, evI_rng3, evI_rev, revR_lst, revR_tup, evI_zip, zipR_lst, evI_enm, evSs_nil, evSs_cons, evS_asg, evS_asgT, tupO_2, tupO_3, evS_par, onI_int, onP_some, evS_sti, evS_swp, evS_stf, augO_add, augO_sub, onV_z, onV_s, onL_z, onL_s, evS_aug, evS_app, evS_ext, evS_pop, evS_exp, evS_ifs, evS_whl, evS_forr, evS_ret, evS_brk, evS_cnt, evS_pas, evS_rse, evS_tri, triO_nx, triO_rt, triO_bk, triO_ct, triO_er, evHs_nil, bindP_nm, bindP_tp2, wipe_nm, wipe_tp2, bin_add, bin_sub, cmp_eq, cmp_ne, cmp_lt, cmp_le, cmp_gt, cmp_ge, cmp_eqS, cmp_neS, isD_n, isD_nn, isD_t, isD_nt, isD_f, isD_nf, isN_int, isN_non, isN_lst, isN_tup, isN_obj, isN_str, DL.neg_int, blt_len, blt_lenT, blt_abs, blt_int, blt_intB, blt_max, blt_min, blt_list, blt_listT, blt_tuple, fieldOf_cons, fieldOf_nil, setField_nil, setField_cons, idx_lst, idx_tup, ↓reduceIte, reduceCtorEq, List.map_cons, List.map_nil, List.cons_append, List.nil_append, List.replicate, List.length_cons, List.length_nil, decide_true, decide_false, Bool.not_true, Bool.not_false, onS_some, nD, Nat.reduceEqDiff, Nat.reduceAdd, Nat.reduceSub, Nat.reduceMul, Nat.reduceLT, Nat.reduceLeDiff, Int.cast_ofNat_Int, Int.reduceAdd, Int.reduceSub, Int.reduceMul, Int.reduceNeg, Int.reduceLT, Int.reduceLE, Int.reduceEq, pick_z, pick_1, pick_2, bin_mod (j := 2147483647) (by decide), rngR_of hr]
    refine for_n (fun k st => ∃ (l : List Int) (r s : Int) (j : Option D), st = [some (.int c), some (.int n), some (.lst (l.map .int)), some (.int r), some (.int s), j] ∧ l.length = k ∧ (∀ x ∈ l, okN x) ∧ 0 ≤ r ∧ 0 ≤ s) ⟨[], _, _, _, rfl, rfl, by simp, ?_, Int.emod_nonneg _ (by decide)⟩ ?_ ?_
    · first | omega | exact ha | (split <;> omega)
    · rintro i st hi ⟨l, r, s, j, rfl, hl, hx, hr0, hs0⟩
      simp -implicitDefEqProofs only [getR_z, getR_s, get_z, get_s, set_z, set_s, bind_ok, bind_er, bindL_ok, bindL_er, lbind_ok, lbind_er, lbindL_ok, lbindL_er, bindO_ok, bindO_er, lbindO_ok, lbindO_er, obind_nx, obind_rt, obind_bk, obind_ct, obind_er, ofO_some, calm_ok, outD_nx, outD_rt, outD_er, outI_nx, outI_er, kind0, kind1, kind2_int, kind2_bl, kind2_str, kind2_non, kind2_er, toL_ok, onB_t, onB_f, onO_t, onO_f, onB_dec, onO_dec, onB_not, onO_not, notR_bl, evE_var, evE_non, evE_bl, evE_int, evE_str, evE_glo, evE_bin, evE_neg, evE_cmp, evE_isc, evE_chn, evE_and, evE_or, evE_not, evE_ite, evE_lst, evE_tup, evE_idx, evE_slc, isOm, slc_tt, slc_tf, slc_ft, slc_ff, partR_int, evE_att, attR_obj, attR_exn, evE_prp, evE_call, evE_meth, evE_make, evE_blt, evE_lsr, evE_bm, bmR_str, evE_isi, isiR, isiD, lstR_some, onSt_some, keepL_dec, keepL_t, keepL_f, keepL_not, evE_cmpr, evE_cmpi, evEs_nil, evEs_cons, evI_seq, seqR_lst, seqR_tup, seqR_str, evI_rng1, evI_rng2, evI_rng3, evI_rev, revR_lst, revR_tup, evI_zip, zipR_lst, evI_enm, evSs_nil, evSs_cons, evS_asg, evS_asgT, tupO_2, tupO_3, evS_par, onI_int, onP_some, evS_sti, evS_swp, evS_stf, augO_add, augO_sub, onV_z, onV_s, onL_z, onL_s, evS_aug, evS_app, evS_ext, evS_pop, evS_exp, evS_ifs, evS_whl, evS_forr, evS_ret, evS_brk, evS_cnt, evS_pas, evS_rse, evS_tri, triO_nx, triO_rt, triO_bk, triO_ct, triO_er, evHs_nil, bindP_nm, bindP_tp2, wipe_nm, wipe_tp2, bin_add, bin_sub, cmp_eq, cmp_ne, cmp_lt, cmp_le, cmp_gt, cmp_ge, cmp_eqS, cmp_neS, isD_n, isD_nn, isD_t, isD_nt, isD_f, isD_nf, isN_int, isN_non, isN_lst, isN_tup, isN_obj, isN_str, DL.neg_int, blt_len, blt_lenT, blt_abs, blt_int, blt_intB, blt_max, blt_min, blt_list, blt_listT, blt_tuple, fieldOf_cons, fieldOf_nil, setField_nil, setField_cons, idx_lst, idx_tup, ↓reduceIte, reduceCtorEq, List.map_cons, List.map_nil, List.cons_append, List.nil_append, List.replicate, List.length_cons, List.length_nil, decide_true, decide_false, Bool.not_true, Bool.not_false, onS_some, nD, Nat.reduceEqDiff, Nat.reduceAdd, Nat.reduceSub, Nat.reduceMul, Nat.reduceLT, Nat.reduceLeDiff, Int.cast_ofNat_Int, Int.reduceAdd, Int.reduceSub, Int.reduceMul, Int.reduceNeg, Int.reduceLT, Int.reduceLE, Int.reduceEq, pick_z, pick_1, pick_2, bin_mul (j := 48271) (by decide), bin_mul' (i := 69621) (by decide), bin_mod (j := 2147483647) (by decide)]
      have hs1 : 0 ≤ ((s + 1) * 48271 + 69621 * (i : Int)) % 2147483647 := by omega
      generalize ((s + 1) * 48271 + 69621 * (i : Int)) % 2147483647 = s1 at hs1
      have hb : (l.map D.int).length < big := by rw [List.length_map, big_eq]; omega
      by_cases h : 0 < r
      · simp -implicitDefEqProofs only [getR_z, getR_s, get_z, get_s, set_z, set_s, bind_ok, bind_er, bindL_ok, bindL_er, lbind_ok, lbind_er, lbindL_ok, lbindL_er, bindO_ok, bindO_er, lbindO_ok, lbindO_er, obind_nx, obind_rt, obind_bk, obind_ct, obind_er, ofO_some, calm_ok, outD_nx, outD_rt, outD_er, outI_nx, outI_er, kind0, kind1, kind2_int, kind2_bl, kind2_str, kind2_non, kind2_er, toL_ok, onB_t, onB_f, onO_t, onO_f, onB_dec, onO_dec, onB_not, onO_not, notR_bl, evE_var, evE_non, evE_bl, evE_int, evE_str, evE_glo, evE_bin, evE_neg, evE_cmp, evE_isc, evE_chn, evE_and, evE_or, evE_not, evE_ite, evE_lst, evE_tup, evE_idx, evE_slc, isOm, slc_tt, slc_tf, slc_ft, slc_ff, partR_int, evE_att, attR_obj, attR_exn, evE_prp, evE_call, evE_meth, evE_make, evE_blt, evE_lsr, evE_bm, bmR_str, evE_isi, isiR, isiD, lstR_some, onSt_some, keepL_dec, keepL_t, keepL_f, keepL_not, evE_cmpr, evE_cmpi, evEs_nil, evEs_cons, evI_seq, seqR_lst, seqR_tup, seqR_str, evI_rng1, evI_rng2, evI_rng3, evI_rev, revR_lst, revR_tup, evI_zip, zipR_lst, evI_enm, evSs_nil, evSs_cons, evS_asg, evS_asgT, tupO_2, tupO_3, evS_par, onI_int, onP_some, evS_sti, evS_swp, evS_stf, augO_add, augO_sub, onV_z, onV_s, onL_z, onL_s, evS_aug, evS_app, evS_ext, evS_pop, evS_exp, evS_ifs, evS_whl, evS_forr, evS_ret, evS_brk, evS_cnt, evS_pas, evS_rse, evS_tri, triO_nx, triO_rt, triO_bk, triO_ct, triO_er, evHs_nil, bindP_nm, bindP_tp2, wipe_nm, wipe_tp2, bin_add, bin_sub, cmp_eq, cmp_ne, cmp_lt, cmp_le, cmp_gt, cmp_ge, cmp_eqS, cmp_neS, isD_n, isD_nn, isD_t, isD_nt, isD_f, isD_nf, isN_int, isN_non, isN_lst, isN_tup, isN_obj, isN_str, DL.neg_int, blt_len, blt_lenT, blt_abs, blt_int, blt_intB, blt_max, blt_min, blt_list, blt_listT, blt_tuple, fieldOf_cons, fieldOf_nil, setField_nil, setField_cons, idx_lst, idx_tup, ↓reduceIte, reduceCtorEq, List.map_cons, List.map_nil, List.cons_append, List.nil_append, List.replicate, List.length_cons, List.length_nil, decide_true, decide_false, Bool.not_true, Bool.not_false, onS_some, nD, Nat.reduceEqDiff, Nat.reduceAdd, Nat.reduceSub, Nat.reduceMul, Nat.reduceLT, Nat.reduceLeDiff, Int.cast_ofNat_Int, Int.reduceAdd, Int.reduceSub, Int.reduceMul, Int.reduceNeg, Int.reduceLT, Int.reduceLE, Int.reduceEq, pick_z, pick_1, pick_2, h, bin_mod (j := 1009) (by decide), bin_fdiv (j := 1009) (by decide) (by decide), hb]
        refine ⟨l ++ [r % 1009], r / 1009, s1, _, by simp; rfl, by simp [hl], ?_, by omega, hs1⟩
        intro x hx'
        rcases List.mem_append.mp hx' with h' | h'
        · exact hx x h'
        · simp at h'; subst h'; unfold okN; omega
      · simp -implicitDefEqProofs only [getR_z, getR_s, get_z, get_s, set_z, set_s, bind_ok, bind_er, bindL_ok, bindL_er, lbind_ok, lbind_er, lbindL_ok, lbindL_er, bindO_ok, bindO_er, lbindO_ok, lbindO_er, obind_nx, obind_rt, obind_bk, obind_ct, obind_er, ofO_some, calm_ok, outD_nx, outD_rt, outD_er, outI_nx, outI_er, kind0, kind1, kind2_int, kind2_bl, kind2_str, kind2_non, kind2_er, toL_ok, onB_t, onB_f, onO_t, onO_f, onB_dec, onO_dec, onB_not, onO_not, notR_bl, evE_var, evE_non, evE_bl, evE_int, evE_str, evE_glo, evE_bin, evE_neg, evE_cmp, evE_isc, evE_chn, evE_and, evE_or, evE_not, evE_ite, evE_lst, evE_tup, evE_idx, evE_slc, isOm, slc_tt, slc_tf, slc_ft, slc_ff, partR_int, evE_att, attR_obj, attR_exn, evE_prp, evE_call, evE_meth, evE_make, evE_blt, evE_lsr, evE_bm, bmR_str, evE_isi, isiR, isiD, lstR_some, onSt_some, keepL_dec, keepL_t, keepL_f, keepL_not, evE_cmpr, evE_cmpi, evEs_nil, evEs_cons, evI_seq, seqR_lst, seqR_tup, seqR_str, evI_rng1, evI_rng2, evI_rng3, evI_rev, revR_lst, revR_tup, evI_zip, zipR_lst, evI_enm, evSs_nil, evSs_cons, evS_asg, evS_asgT, tupO_2, tupO_3, evS_par, onI_int, onP_some, evS_sti, evS_swp, evS_stf, augO_add, augO_sub, onV_z, onV_s, onL_z, onL_s, evS_aug, evS_app, evS_ext, evS_pop, evS_exp, evS_ifs, evS_whl, evS_forr, evS_ret, evS_brk, evS_cnt, evS_pas, evS_rse, evS_tri, triO_nx, triO_rt, triO_bk, triO_ct, triO_er, evHs_nil, bindP_nm, bindP_tp2, wipe_nm, wipe_tp2, bin_add, bin_sub, cmp_eq, cmp_ne, cmp_lt, cmp_le, cmp_gt, cmp_ge, cmp_eqS, cmp_neS, isD_n, isD_nn, isD_t, isD_nt, isD_f, isD_nf, isN_int, isN_non, isN_lst, isN_tup, isN_obj, isN_str, DL.neg_int, blt_len, blt_lenT, blt_abs, blt_int, blt_intB, blt_max, blt_min, blt_list, blt_listT, blt_tuple, fieldOf_cons, fieldOf_nil, setField_nil, setField_cons, idx_lst, idx_tup, ↓reduceIte, reduceCtorEq, List.map_cons, List.map_nil, List.cons_append, List.nil_append, List.replicate, List.length_cons, List.length_nil, decide_true, decide_false, Bool.not_true, Bool.not_false, onS_some, nD, Nat.reduceEqDiff, Nat.reduceAdd, Nat.reduceSub, Nat.reduceMul, Nat.reduceLT, Nat.reduceLeDiff, Int.cast_ofNat_Int, Int.reduceAdd, Int.reduceSub, Int.reduceMul, Int.reduceNeg, Int.reduceLT, Int.reduceLE, Int.reduceEq, pick_z, pick_1, pick_2, h, bin_mod (j := 1009) (by decide), bin_fdiv (j := 2048) (by decide) (by decide), hb]
        refine ⟨l ++ [s1 / 2048 % 1009], r, s1, _, by simp; rfl, by simp [hl], ?_, by omega, hs1⟩
        intro x hx'
        rcases List.mem_append.mp hx' with h' | h'
        · exact hx x h'
        · simp at h'; subst h'; unfold okN; omega
    · rintro st ⟨l, r, s, j, rfl, hl, hx, _, _⟩
      simp -implicitDefEqProofs only [getR_z, getR_s, get_z, get_s, set_z, set_s, bind_ok, bind_er, bindL_ok, bindL_er, lbind_ok, lbind_er, lbindL_ok, lbindL_er, bindO_ok, bindO_er, lbindO_ok, lbindO_er, obind_nx, obind_rt, obind_bk, obind_ct, obind_er, ofO_some, calm_ok, outD_nx, outD_rt, outD_er, outI_nx, outI_er, kind0, kind1, kind2_int, kind2_bl, kind2_str, kind2_non, kind2_er, toL_ok, onB_t, onB_f, onO_t, onO_f, onB_dec, onO_dec, onB_not, onO_not, notR_bl, evE_var, evE_non, evE_bl, evE_int, evE_str, evE_glo, evE_bin, evE_neg, evE_cmp, evE_isc, evE_chn, evE_and, evE_or, evE_not, evE_ite, evE_lst, evE_tup, evE_idx, evE_slc, isOm, slc_tt, slc_tf, slc_ft, slc_ff, partR_int, evE_att, attR_obj, attR_exn, evE_prp, evE_call, evE_meth, evE_make, evE_blt, evE_lsr, evE_bm, bmR_str, evE_isi, isiR, isiD, lstR_some, onSt_some, keepL_dec, keepL_t, keepL_f, keepL_not, evE_cmpr, evE_cmpi, evEs_nil, evEs_cons, evI_seq, seqR_lst, seqR_tup, seqR_str, evI_rng1, evI_rng2, evI_rng3, evI_rev, revR_lst, revR_tup, evI_zip, zipR_lst, evI_enm, evSs_nil, evSs_cons, evS_asg, evS_asgT, tupO_2, tupO_3, evS_par, onI_int, onP_some, evS_sti, evS_swp, evS_stf, augO_add, augO_sub, onV_z, onV_s, onL_z, onL_s, evS_aug, evS_app, evS_ext, evS_pop, evS_exp, evS_ifs, evS_whl, evS_forr, evS_ret, evS_brk, evS_cnt, evS_pas, evS_rse, evS_tri, triO_nx, triO_rt, triO_bk, triO_ct, triO_er, evHs_nil, bindP_nm, bindP_tp2, wipe_nm, wipe_tp2, bin_add, bin_sub, cmp_eq, cmp_ne, cmp_lt, cmp_le, cmp_gt, cmp_ge, cmp_eqS, cmp_neS, isD_n, isD_nn, isD_t, isD_nt, isD_f, isD_nf, isN_int, isN_non, isN_lst, isN_tup, isN_obj, isN_str, DL.neg_int, blt_len, blt_lenT, blt_abs, blt_int, blt_intB, blt_max, blt_min, blt_list, blt_listT, blt_tuple, fieldOf_cons, fieldOf_nil, setField_nil, setField_cons, idx_lst, idx_tup, ↓reduceIte, reduceCtorEq, List.map_cons, List.map_nil, List.cons_append, List.nil_append, List.replicate, List.length_cons, List.length_nil, decide_true, decide_false, Bool.not_true, Bool.not_false, onS_some, nD, Nat.reduceEqDiff, Nat.reduceAdd, Nat.reduceSub, Nat.reduceMul, Nat.reduceLT, Nat.reduceLeDiff, Int.cast_ofNat_Int, Int.reduceAdd, Int.reduceSub, Int.reduceMul, Int.reduceNeg, Int.reduceLT, Int.reduceLE, Int.reduceEq, pick_z, pick_1, pick_2]
      exact ⟨l, rfl, hl, hx⟩
theorem okN_app {l m : List Int} (h1 : ∀ x ∈ l, okN x) (h2 : ∀ x ∈ m, okN x) : ∀ x ∈ l ++ m, okN x := fun x hx => (List.mem_append.mp hx).elim (h1 x) (h2 x)
theorem sp_law_numbers (ns : List Int) (many : Nat) (hns : ns.length ≤ 63) (hm : many ≤ 5000) : ∃ l : List Int, TT.fn 1001 [.lst (ns.map .int), .int many] = .ok (.lst (l.map .int)) ∧ l.length = many ∧ ∀ x ∈ l, okN x := by
  rw [fx__law_numbers]
  refine rs_def (Q := fun r => ∃ l : List Int, r = .ok (.lst (l.map .int)) ∧ l.length = many ∧ ∀ x ∈ l, okN x) rfl ?_
  have hcut : cut (ns.map D.int) none (some 63) = ns.map D.int := by
    have := cut_hi (xs := ns.map D.int) (k := 63)
    rw [show ((63 : Nat) : Int) = 63 from rfl] at this
    rw [this, List.take_of_length_le (by simpa using hns)]
  obtain ⟨e, he, hd⟩ : ∃ e : Nat, e ≤ 5001 ∧ binD .fdiv (.int many) (.int (if (ns.length : Int) > 1 then (ns.length : Int) else 1)) = some (.int (e : Int)) := by
    refine ⟨many / (if 1 < ns.length then ns.length else 1), ?_, ?_⟩
    · exact Nat.le_trans (Nat.div_le_self _ _) (by omega)
    · rw [bin_fdiv (by split <;> omega) (by split <;> omega)]
      congr 2
      by_cases h : 1 < ns.length
      · have h' : (1 : Int) < ns.length := by omega
        simp [h, h']
      · have : ¬ (ns.length : Int) > 1 := by omega
        simp [h, this]
  simp -implicitDefEqProofs only [getR_z, getR_s, get_z, get_s, set_z, set_s, bind_ok, bind_er, bindL_ok, bindL_er, lbind_ok, lbind_er, lbindL_ok, lbindL_er, bindO_ok, bindO_er, lbindO_ok, lbindO_er, obind_nx, obind_rt, obind_bk, obind_ct, obind_er, ofO_some, calm_ok, outD_nx, outD_rt, outD_er, outI_nx, outI_er, kind0, kind1, kind2_int, kind2_bl, kind2_str, kind2_non, kind2_er, toL_ok, onB_t, onB_f, onO_t, onO_f, onB_dec, onO_dec, onB_not, onO_not, notR_bl, evE_var, evE_non, evE_bl, evE_int, evE_str, evE_glo, evE_bin, evE_neg, evE_cmp, evE_isc, evE_chn, evE_and, evE_or, evE_not, evE_ite, evE_lst, evE_tup, evE_idx, evE_slc, isOm, slc_tt, slc_tf, slc_ft, slc_ff, partR_int, evE_att, attR_obj, attR_exn, evE_prp, evE_call, evE_meth, evE_make, evE_blt, evE_lsr, evE_bm, bmR_str, evE_isi, isiR, isiD, lstR_some, onSt_some, keepL_dec, keepL_t, keepL_f, keepL_not, evE_cmpr, evE_cmpi, evEs_nil, evEs_cons, evI_seq, seqR_lst, seqR_tup, seqR_str, evI_rng1, evI_rng2, evI_rng3, evI_rev, revR_lst, revR_tup, evI_zip, zipR_lst, evI_enm, evSs_nil, evSs_cons, evS_asg, evS_asgT, tupO_2, tupO_3, evS_par, onI_int, onP_some, evS_sti, evS_swp, evS_stf, augO_add, augO_sub, onV_z, onV_s, onL_z, onL_s, evS_aug, evS_app, evS_ext, evS_pop, evS_exp, evS_ifs, evS_whl, evS_forr, evS_ret, evS_brk, evS_cnt, evS_pas, evS_rse, evS_tri, triO_nx, triO_rt, triO_bk, triO_ct, triO_er, evHs_nil, bindP_nm, bindP_tp2, wipe_nm, wipe_tp2, bin_add, bin_sub, cmp_eq, cmp_ne, cmp_lt, cmp_le, cmp_gt, cmp_ge, cmp_eqS, cmp_neS, isD_n, isD_nn, isD_t, isD_nt, isD_f, isD_nf, isN_int, isN_non, isN_lst, isN_tup, isN_obj, isN_str, DL.neg_int, blt_len, blt_lenT, blt_abs, blt_int, blt_intB, blt_max, blt_min, blt_list, blt_listT, blt_tuple, fieldOf_cons, fieldOf_nil, setField_nil, setField_cons, idx_lst, idx_tup, ↓reduceIte, reduceCtorEq, List.map_cons, List.map_nil, List.cons_append, List.nil_append, List.replicate, List.length_cons, List.length_nil, decide_true, decide_false, Bool.not_true, Bool.not_false, onS_some, nD, Nat.reduceEqDiff, Nat.reduceAdd, Nat.reduceSub, Nat.reduceMul, Nat.reduceLT, Nat.reduceLeDiff, Int.cast_ofNat_Int, Int.reduceAdd, Int.reduceSub, Int.reduceMul, Int.reduceNeg, Int.reduceLT, Int.reduceLE, Int.reduceEq, pick_z, pick_1, pick_2, slc_lst, hcut, List.length_map, hd]
  have e1 : (1 : Int) + (e : Int) = ((1 + e : Nat) : Int) := by omega
  simp -implicitDefEqProofs only [getR_z, getR_s, get_z, get_s, set_z, set_s, bind_ok, bind_er, bindL_ok, bindL_er, lbind_ok, lbind_er, lbindL_ok, lbindL_er, bindO_ok, bindO_er, lbindO_ok, lbindO_er, obind_nx, obind_rt, obind_bk, obind_ct, obind_er, ofO_some, calm_ok, outD_nx, outD_rt, outD_er, outI_nx, outI_er, kind0, kind1, kind2_int, kind2_bl, kind2_str, kind2_non, kind2_er, toL_ok, onB_t, onB_f, onO_t, onO_f, onB_dec, onO_dec, onB_not, onO_not, notR_bl, evE_var, evE_non, evE_bl, evE_int, evE_str, evE_glo, evE_bin, evE_neg, evE_cmp, evE_isc, evE_chn, evE_and, evE_or, evE_not, evE_ite, evE_lst, evE_tup, evE_idx, evE_slc, isOm, slc_tt, slc_tf, slc_ft, slc_ff, partR_int, evE_att, attR_obj, attR_exn, evE_prp, evE_call, evE_meth, evE_make, evE_blt, evE_lsr, evE_bm, bmR_str, evE_isi, isiR, isiD, lstR_some, onSt_some, keepL_dec, keepL_t, keepL_f, keepL_not, evE_cmpr, evE_cmpi, evEs_nil, evEs_cons, evI_seq, seqR_lst, seqR_tup, seqR_str, evI_rng1, evI_rng2, evI_rng3, evI_rev, revR_lst, revR_tup, evI_zip, zipR_lst, evI_enm, evSs_nil, evSs_cons, evS_asg, evS_asgT, tupO_2, tupO_3, evS_par, onI_int, onP_some, evS_sti, evS_swp, evS_stf, augO_add, augO_sub, onV_z, onV_s, onL_z, onL_s, evS_aug, evS_app, evS_ext, evS_pop, evS_exp, evS_ifs, evS_whl, evS_forr, evS_ret, evS_brk, evS_cnt, evS_pas, evS_rse, evS_tri, triO_nx, triO_rt, triO_bk, triO_ct, triO_er, evHs_nil, bindP_nm, bindP_tp2, wipe_nm, wipe_tp2, bin_add, bin_sub, cmp_eq, cmp_ne, cmp_lt, cmp_le, cmp_gt, cmp_ge, cmp_eqS, cmp_neS, isD_n, isD_nn, isD_t, isD_nt, isD_f, isD_nf, isN_int, isN_non, isN_lst, isN_tup, isN_obj, isN_str, DL.neg_int, blt_len, blt_lenT, blt_abs, blt_int, blt_intB, blt_max, blt_min, blt_list, blt_listT, blt_tuple, fieldOf_cons, fieldOf_nil, setField_nil, setField_cons, idx_lst, idx_tup, ↓reduceIte, reduceCtorEq, List.map_cons, List.map_nil, List.cons_append, List.nil_append, List.replicate, List.length_cons, List.length_nil, decide_true, decide_false, Bool.not_true, Bool.not_false, onS_some, nD, Nat.reduceEqDiff, Nat.reduceAdd, Nat.reduceSub, Nat.reduceMul, Nat.reduceLT, Nat.reduceLeDiff, Int.cast_ofNat_Int, Int.reduceAdd, Int.reduceSub, Int.reduceMul, Int.reduceNeg, Int.reduceLT, Int.reduceLE, Int.reduceEq, pick_z, pick_1, pick_2, e1]
  refine for_k (fun pre st => ∃ (l : List Int) (i j : Option D), st = [some (.lst (ns.map .int)), some (.int many), some (.lst (ns.map .int)), some (.int ((1 + e : Nat) : Int)), some (.lst (l.map .int)), i, j] ∧ l.length = pre.length * (1 + e) ∧ ∀ x ∈ l, okN x) ⟨[], _, _, rfl, by simp, by simp⟩ ?_ ?_
  · rintro pre x post st hl ⟨l, i, j, rfl, hlen, hok⟩
    obtain ⟨row, hrow, hrl, hrok⟩ := sp_law_row x (1 + e) (by omega)
    simp -implicitDefEqProofs only [getR_z, getR_s, get_z, get_s, set_z, set_s, bind_ok, bind_er, bindL_ok, bindL_er, lbind_ok, lbind_er, lbindL_ok, lbindL_er, bindO_ok, bindO_er, lbindO_ok, lbindO_er, obind_nx, obind_rt, obind_bk, obind_ct, obind_er, ofO_some, calm_ok, outD_nx, outD_rt, outD_er, outI_nx, outI_er, kind0, kind1, kind2_int, kind2_bl, kind2_str, kind2_non, kind2_er, toL_ok, onB_t, onB_f, onO_t, onO_f, onB_dec, onO_dec, onB_not, onO_not, notR_bl, evE_var, evE_non, evE_bl, evE_int, evE_str, evE_glo, evE_bin, evE_neg, evE_cmp, evE_isc, evE_chn, evE_and, evE_or, evE_not, evE_ite, evE_lst, evE_tup, evE_idx, evE_slc, isOm, slc_tt, slc_tf, slc_ft, slc_ff, partR_int, evE_att, attR_obj, attR_exn, evE_prp, evE_call, evE_meth, evE_make, evE_blt, evE_lsr, evE_bm, bmR_str, evE_isi, isiR, isiD, lstR_some, onSt_some, keepL_dec, keepL_t, keepL_f, keepL_not, evE_cmpr, evE_cmpi, evEs_nil, evEs_cons, evI_seq, seqR_lst, seqR_tup, seqR_str, evI_rng1, evI_rng2, evI_rng3, evI_rev, revR_lst, revR_tup, evI_zip, zipR_lst, evI_enm, evSs_nil, evSs_cons, evS_asg, evS_asgT, tupO_2, tupO_3, evS_par, onI_int, onP_some, evS_sti, evS_swp, evS_stf, augO_add, augO_sub, onV_z, onV_s, onL_z, onL_s, evS_aug, evS_app, evS_ext, evS_pop, evS_exp, evS_ifs, evS_whl, evS_forr, evS_ret, evS_brk, evS_cnt, evS_pas, evS_rse, evS_tri, triO_nx, triO_rt, triO_bk, triO_ct, triO_er, evHs_nil, bindP_nm, bindP_tp2, wipe_nm, wipe_tp2, bin_add, bin_sub, cmp_eq, cmp_ne, cmp_lt, cmp_le, cmp_gt, cmp_ge, cmp_eqS, cmp_neS, isD_n, isD_nn, isD_t, isD_nt, isD_f, isD_nf, isN_int, isN_non, isN_lst, isN_tup, isN_obj, isN_str, DL.neg_int, blt_len, blt_lenT, blt_abs, blt_int, blt_intB, blt_max, blt_min, blt_list, blt_listT, blt_tuple, fieldOf_cons, fieldOf_nil, setField_nil, setField_cons, idx_lst, idx_tup, ↓reduceIte, reduceCtorEq, List.map_cons, List.map_nil, List.cons_append, List.nil_append, List.replicate, List.length_cons, List.length_nil, decide_true, decide_false, Bool.not_true, Bool.not_false, onS_some, nD, Nat.reduceEqDiff, Nat.reduceAdd, Nat.reduceSub, Nat.reduceMul, Nat.reduceLT, Nat.reduceLeDiff, Int.cast_ofNat_Int, Int.reduceAdd, Int.reduceSub, Int.reduceMul, Int.reduceNeg, Int.reduceLT, Int.reduceLE, Int.reduceEq, pick_z, pick_1, pick_2, hrow]
    have hpre : pre.length < 63 := by have := congrArg List.length hl; simp at this; omega
    have hb : pre.length * (1 + e) ≤ 62 * 5002 := Nat.mul_le_mul (by omega) (by omega)
    refine for_k (fun p st => ∃ (i j : Option D), st = [some (.lst (ns.map .int)), some (.int many), some (.lst (ns.map .int)), some (.int ((1 + e : Nat) : Int)), some (.lst ((l ++ p).map .int)), i, j]) ⟨_, _, by rw [List.append_nil]⟩ ?_ ?_
    · rintro p y q st hp ⟨i, j, rfl⟩
      have hq : p.length < 1 + e := by have := congrArg List.length hp; simp at this; omega
      have hbig : ((l ++ p).map D.int).length < big := by rw [List.length_map, List.length_append, big_eq]; omega
      simp -implicitDefEqProofs only [getR_z, getR_s, get_z, get_s, set_z, set_s, bind_ok, bind_er, bindL_ok, bindL_er, lbind_ok, lbind_er, lbindL_ok, lbindL_er, bindO_ok, bindO_er, lbindO_ok, lbindO_er, obind_nx, obind_rt, obind_bk, obind_ct, obind_er, ofO_some, calm_ok, outD_nx, outD_rt, outD_er, outI_nx, outI_er, kind0, kind1, kind2_int, kind2_bl, kind2_str, kind2_non, kind2_er, toL_ok, onB_t, onB_f, onO_t, onO_f, onB_dec, onO_dec, onB_not, onO_not, notR_bl, evE_var, evE_non, evE_bl, evE_int, evE_str, evE_glo, evE_bin, evE_neg, evE_cmp, evE_isc, evE_chn, evE_and, evE_or, evE_not, evE_ite, evE_lst, evE_tup, evE_idx, evE_slc, isOm, slc_tt, slc_tf, slc_ft, slc_ff, partR_int, evE_att, attR_obj, attR_exn, evE_prp, evE_call, evE_meth, evE_make, evE_blt, evE_lsr, evE_bm, bmR_str, evE_isi, isiR, isiD, lstR_some, onSt_some, keepL_dec, keepL_t, keepL_f, keepL_not, evE_cmpr, evE_cmpi, evEs_nil, evEs_cons, evI_seq, seqR_lst, seqR_tup, seqR_str, evI_rng1, evI_rng2, evI_rng3, evI_rev, revR_lst, revR_tup, evI_zip, zipR_lst, evI_enm, evSs_nil, evSs_cons, evS_asg, evS_asgT, tupO_2, tupO_3, evS_par, onI_int, onP_some, evS_sti, evS_swp, evS_stf, augO_add, augO_sub, onV_z, onV_s, onL_z, onL_s, evS_aug, evS_app, evS_ext, evS_pop, evS_exp, evS_ifs, evS_whl, evS_forr, evS_ret, evS_brk, evS_cnt, evS_pas, evS_rse, evS_tri, triO_nx, triO_rt, triO_bk, triO_ct, triO_er, evHs_nil, bindP_nm, bindP_tp2, wipe_nm, wipe_tp2, bin_add, bin_sub, cmp_eq, cmp_ne, cmp_lt, cmp_le, cmp_gt, cmp_ge, cmp_eqS, cmp_neS, isD_n, isD_nn, isD_t, isD_nt, isD_f, isD_nf, isN_int, isN_non, isN_lst, isN_tup, isN_obj, isN_str, DL.neg_int, blt_len, blt_lenT, blt_abs, blt_int, blt_intB, blt_max, blt_min, blt_list, blt_listT, blt_tuple, fieldOf_cons, fieldOf_nil, setField_nil, setField_cons, idx_lst, idx_tup, ↓reduceIte, reduceCtorEq, List.map_cons, List.map_nil, List.cons_append, List.nil_append, List.replicate, List.length_cons, List.length_nil, decide_true, decide_false, Bool.not_true, Bool.not_false, onS_some, nD, Nat.reduceEqDiff, Nat.reduceAdd, Nat.reduceSub, Nat.reduceMul, Nat.reduceLT, Nat.reduceLeDiff, Int.cast_ofNat_Int, Int.reduceAdd, Int.reduceSub, Int.reduceMul, Int.reduceNeg, Int.reduceLT, Int.reduceLE, Int.reduceEq, pick_z, pick_1, pick_2, hbig]
      exact ⟨_, _, by rw [← List.append_assoc, map_snoc]⟩
    · rintro st ⟨i, j, rfl⟩
      simp -implicitDefEqProofs only [getR_z, getR_s, get_z, get_s, set_z, set_s, bind_ok, bind_er, bindL_ok, bindL_er, lbind_ok, lbind_er, lbindL_ok, lbindL_er, bindO_ok, bindO_er, lbindO_ok, lbindO_er, obind_nx, obind_rt, obind_bk, obind_ct, obind_er, ofO_some, calm_ok, outD_nx, outD_rt, outD_er, outI_nx, outI_er, kind0, kind1, kind2_int, kind2_bl, kind2_str, kind2_non, kind2_er, toL_ok, onB_t, onB_f, onO_t, onO_f, onB_dec, onO_dec, onB_not, onO_not, notR_bl, evE_var, evE_non, evE_bl, evE_int, evE_str, evE_glo, evE_bin, evE_neg, evE_cmp, evE_isc, evE_chn, evE_and, evE_or, evE_not, evE_ite, evE_lst, evE_tup, evE_idx, evE_slc, isOm, slc_tt, slc_tf, slc_ft, slc_ff, partR_int, evE_att, attR_obj, attR_exn, evE_prp, evE_call, evE_meth, evE_make, evE_blt, evE_lsr, evE_bm, bmR_str, evE_isi, isiR, isiD, lstR_some, onSt_some, keepL_dec, keepL_t, keepL_f, keepL_not, evE_cmpr, evE_cmpi, evEs_nil, evEs_cons, evI_seq, seqR_lst, seqR_tup, seqR_str, evI_rng1, evI_rng2, evI_rng3, evI_rev, revR_lst, revR_tup, evI_zip, zipR_lst, evI_enm, evSs_nil, evSs_cons, evS_asg, evS_asgT, tupO_2, tupO_3, evS_par, onI_int, onP_some, evS_sti, evS_swp, evS_stf, augO_add, augO_sub, onV_z, onV_s, onL_z, onL_s, evS_aug, evS_app, evS_ext, evS_pop, evS_exp, evS_ifs, evS_whl, evS_forr, evS_ret, evS_brk, evS_cnt, evS_pas, evS_rse, evS_tri, triO_nx, triO_rt, triO_bk, triO_ct, triO_er, evHs_nil, bindP_nm, bindP_tp2, wipe_nm, wipe_tp2, bin_add, bin_sub, cmp_eq, cmp_ne, cmp_lt, cmp_le, cmp_gt, cmp_ge, cmp_eqS, cmp_neS, isD_n, isD_nn, isD_t, isD_nt, isD_f, isD_nf, isN_int, isN_non, isN_lst, isN_tup, isN_obj, isN_str, DL.neg_int, blt_len, blt_lenT, blt_abs, blt_int, blt_intB, blt_max, blt_min, blt_list, blt_listT, blt_tuple, fieldOf_cons, fieldOf_nil, setField_nil, setField_cons, idx_lst, idx_tup, ↓reduceIte, reduceCtorEq, List.map_cons, List.map_nil, List.cons_append, List.nil_append, List.replicate, List.length_cons, List.length_nil, decide_true, decide_false, Bool.not_true, Bool.not_false, onS_some, nD, Nat.reduceEqDiff, Nat.reduceAdd, Nat.reduceSub, Nat.reduceMul, Nat.reduceLT, Nat.reduceLeDiff, Int.cast_ofNat_Int, Int.reduceAdd, Int.reduceSub, Int.reduceMul, Int.reduceNeg, Int.reduceLT, Int.reduceLE, Int.reduceEq, pick_z, pick_1, pick_2]
      refine ⟨l ++ row, _, _, rfl, ?_, okN_app hok hrok⟩
      rw [List.length_append, hlen, hrl, List.length_append, List.length_singleton, Nat.add_mul]; omega
  · rintro st ⟨l, i, j, rfl, hlen, hok⟩
    simp -implicitDefEqProofs only [getR_z, getR_s, get_z, get_s, set_z, set_s, bind_ok, bind_er, bindL_ok, bindL_er, lbind_ok, lbind_er, lbindL_ok, lbindL_er, bindO_ok, bindO_er, lbindO_ok, lbindO_er, obind_nx, obind_rt, obind_bk, obind_ct, obind_er, ofO_some, calm_ok, outD_nx, outD_rt, outD_er, outI_nx, outI_er, kind0, kind1, kind2_int, kind2_bl, kind2_str, kind2_non, kind2_er, toL_ok, onB_t, onB_f, onO_t, onO_f, onB_dec, onO_dec, onB_not, onO_not, notR_bl, evE_var, evE_non, evE_bl, evE_int, evE_str, evE_glo, evE_bin, evE_neg, evE_cmp, evE_isc, evE_chn, evE_and, evE_or, evE_not, evE_ite, evE_lst, evE_tup, evE_idx, evE_slc, isOm, slc_tt, slc_tf, slc_ft, slc_ff, partR_int, evE_att, attR_obj, attR_exn, evE_prp, evE_call, evE_meth, evE_make, evE_blt, evE_lsr, evE_bm, bmR_str, evE_isi, isiR, isiD, lstR_some, onSt_some, keepL_dec, keepL_t, keepL_f, keepL_not, evE_cmpr, evE_cmpi, evEs_nil, evEs_cons, evI_seq, seqR_lst, seqR_tup, seqR_str, evI_rng1, evI_rng2, evI_rng3, evI_rev, revR_lst, revR_tup, evI_zip, zipR_lst, evI_enm, evSs_nil, evSs_cons, evS_asg, evS_asgT, tupO_2, tupO_3, evS_par, onI_int, onP_some, evS_sti, evS_swp, evS_stf, augO_add, augO_sub, onV_z, onV_s, onL_z, onL_s, evS_aug, evS_app, evS_ext, evS_pop, evS_exp, evS_ifs, evS_whl, evS_forr, evS_ret, evS_brk, evS_cnt, evS_pas, evS_rse, evS_tri, triO_nx, triO_rt, triO_bk, triO_ct, triO_er, evHs_nil, bindP_nm, bindP_tp2, wipe_nm, wipe_tp2, bin_add, bin_sub, cmp_eq, cmp_ne, cmp_lt, cmp_le, cmp_gt, cmp_ge, cmp_eqS, cmp_neS, isD_n, isD_nn, isD_t, isD_nt, isD_f, isD_nf, isN_int, isN_non, isN_lst, isN_tup, isN_obj, isN_str, DL.neg_int, blt_len, blt_lenT, blt_abs, blt_int, blt_intB, blt_max, blt_min, blt_list, blt_listT, blt_tuple, fieldOf_cons, fieldOf_nil, setField_nil, setField_cons, idx_lst, idx_tup, ↓reduceIte, reduceCtorEq, List.map_cons, List.map_nil, List.cons_append, List.nil_append, List.replicate, List.length_cons, List.length_nil, decide_true, decide_false, Bool.not_true, Bool.not_false, onS_some, nD, Nat.reduceEqDiff, Nat.reduceAdd, Nat.reduceSub, Nat.reduceMul, Nat.reduceLT, Nat.reduceLeDiff, Int.cast_ofNat_Int, Int.reduceAdd, Int.reduceSub, Int.reduceMul, Int.reduceNeg, Int.reduceLT, Int.reduceLE, Int.reduceEq, pick_z, pick_1, pick_2]
    have hb : ns.length * (1 + e) ≤ 63 * 5002 := Nat.mul_le_mul (by omega) (by omega)
    refine while_k (fun st => ∃ (l : List Int), st = [some (.lst (ns.map .int)), some (.int many), some (.lst (ns.map .int)), some (.int ((1 + e : Nat) : Int)), some (.lst (l.map .int)), i, j] ∧ l.length ≤ 400000 ∧ ∀ x ∈ l, okN x) (fun st => match st with
      | [_, _, _, _, some (.lst l), _, _] => many - l.length
      | _ => 0) ⟨l, rfl, by omega, hok⟩ (by show many - _ < 1000000; omega) ?_
    rintro st ⟨l, rfl, hll, hok⟩
    simp -implicitDefEqProofs only [getR_z, getR_s, get_z, get_s, set_z, set_s, bind_ok, bind_er, bindL_ok, bindL_er, lbind_ok, lbind_er, lbindL_ok, lbindL_er, bindO_ok, bindO_er, lbindO_ok, lbindO_er, obind_nx, obind_rt, obind_bk, obind_ct, obind_er, ofO_some, calm_ok, outD_nx, outD_rt, outD_er, outI_nx, outI_er, kind0, kind1, kind2_int, kind2_bl, kind2_str, kind2_non, kind2_er, toL_ok, onB_t, onB_f, onO_t, onO_f, onB_dec, onO_dec, onB_not, onO_not, notR_bl, evE_var, evE_non, evE_bl, evE_int, evE_str, evE_glo, evE_bin, evE_neg, evE_cmp, evE_isc, evE_chn, evE_and, evE_or, evE_not, evE_ite, evE_lst, evE_tup, evE_idx, evE_slc, isOm, slc_tt, slc_tf, slc_ft, slc_ff, partR_int, evE_att, attR_obj, attR_exn, evE_prp, evE_call, evE_meth, evE_make, evE_blt, evE_lsr, evE_bm, bmR_str, evE_isi, isiR, isiD, lstR_some, onSt_some, keepL_dec, keepL_t, keepL_f, keepL_not, evE_cmpr, evE_cmpi, evEs_nil, evEs_cons, evI_seq, seqR_lst, seqR_tup, seqR_str, evI_rng1, evI_rng2, evI_rng3, evI_rev, revR_lst, revR_tup, evI_zip, zipR_lst, evI_enm, evSs_nil, evSs_cons, evS_asg, evS_asgT, tupO_2, tupO_3, evS_par, onI_int, onP_some, evS_sti, evS_swp, evS_stf, augO_add, augO_sub, onV_z, onV_s, onL_z, onL_s, evS_aug, evS_app, evS_ext, evS_pop, evS_exp, evS_ifs, evS_whl, evS_forr, evS_ret, evS_brk, evS_cnt, evS_pas, evS_rse, evS_tri, triO_nx, triO_rt, triO_bk, triO_ct, triO_er, evHs_nil, bindP_nm, bindP_tp2, wipe_nm, wipe_tp2, bin_add, bin_sub, cmp_eq, cmp_ne, cmp_lt, cmp_le, cmp_gt, cmp_ge, cmp_eqS, cmp_neS, isD_n, isD_nn, isD_t, isD_nt, isD_f, isD_nf, isN_int, isN_non, isN_lst, isN_tup, isN_obj, isN_str, DL.neg_int, blt_len, blt_lenT, blt_abs, blt_int, blt_intB, blt_max, blt_min, blt_list, blt_listT, blt_tuple, fieldOf_cons, fieldOf_nil, setField_nil, setField_cons, idx_lst, idx_tup, ↓reduceIte, reduceCtorEq, List.map_cons, List.map_nil, List.cons_append, List.nil_append, List.replicate, List.length_cons, List.length_nil, decide_true, decide_false, Bool.not_true, Bool.not_false, onS_some, nD, Nat.reduceEqDiff, Nat.reduceAdd, Nat.reduceSub, Nat.reduceMul, Nat.reduceLT, Nat.reduceLeDiff, Int.cast_ofNat_Int, Int.reduceAdd, Int.reduceSub, Int.reduceMul, Int.reduceNeg, Int.reduceLT, Int.reduceLE, Int.reduceEq, pick_z, pick_1, pick_2, List.length_map]
    by_cases h : l.length < many
    · right
      have h' : (l.length : Int) < many := by omega
      have hbig : l.length < big := by rw [big_eq]; omega
      simp -implicitDefEqProofs only [getR_z, getR_s, get_z, get_s, set_z, set_s, bind_ok, bind_er, bindL_ok, bindL_er, lbind_ok, lbind_er, lbindL_ok, lbindL_er, bindO_ok, bindO_er, lbindO_ok, lbindO_er, obind_nx, obind_rt, obind_bk, obind_ct, obind_er, ofO_some, calm_ok, outD_nx, outD_rt, outD_er, outI_nx, outI_er, kind0, kind1, kind2_int, kind2_bl, kind2_str, kind2_non, kind2_er, toL_ok, onB_t, onB_f, onO_t, onO_f, onB_dec, onO_dec, onB_not, onO_not, notR_bl, evE_var, evE_non, evE_bl, evE_int, evE_str, evE_glo, evE_bin, evE_neg, evE_cmp, evE_isc, evE_chn, evE_and, evE_or, evE_not, evE_ite, evE_lst, evE_tup, evE_idx, evE_slc, isOm, slc_tt, slc_tf, slc_ft, slc_ff, partR_int, evE_att, attR_obj, attR_exn, evE_prp, evE_call, evE_meth, evE_make, evE_blt, evE_lsr, evE_bm, bmR_str, evE_isi, isiR, isiD, lstR_some, onSt_some, keepL_dec, keepL_t, keepL_f, keepL_not, evE_cmpr, evE_cmpi, evEs_nil, evEs_cons, evI_seq, seqR_lst, seqR_tup, seqR_str, evI_rng1, evI_rng2, evI_rng3, evI_rev, revR_lst, revR_tup, evI_zip, zipR_lst, evI_enm, evSs_nil, evSs_cons, evS_asg, evS_asgT, tupO_2, tupO_3, evS_par, onI_int, onP_some, evS_sti, evS_swp, evS_stf, augO_add, augO_sub, onV_z, onV_s, onL_z, onL_s, evS_aug, evS_app, evS_ext, evS_pop, evS_exp, evS_ifs, evS_whl, evS_forr, evS_ret, evS_brk, evS_cnt, evS_pas, evS_rse, evS_tri, triO_nx, triO_rt, triO_bk, triO_ct, triO_er, evHs_nil, bindP_nm, bindP_tp2, wipe_nm, wipe_tp2, bin_add, bin_sub, cmp_eq, cmp_ne, cmp_lt, cmp_le, cmp_gt, cmp_ge, cmp_eqS, cmp_neS, isD_n, isD_nn, isD_t, isD_nt, isD_f, isD_nf, isN_int, isN_non, isN_lst, isN_tup, isN_obj, isN_str, DL.neg_int, blt_len, blt_lenT, blt_abs, blt_int, blt_intB, blt_max, blt_min, blt_list, blt_listT, blt_tuple, fieldOf_cons, fieldOf_nil, setField_nil, setField_cons, idx_lst, idx_tup, ↓reduceIte, reduceCtorEq, List.map_cons, List.map_nil, List.cons_append, List.nil_append, List.replicate, List.length_cons, List.length_nil, decide_true, decide_false, Bool.not_true, Bool.not_false, onS_some, nD, Nat.reduceEqDiff, Nat.reduceAdd, Nat.reduceSub, Nat.reduceMul, Nat.reduceLT, Nat.reduceLeDiff, Int.cast_ofNat_Int, Int.reduceAdd, Int.reduceSub, Int.reduceMul, Int.reduceNeg, Int.reduceLT, Int.reduceLE, Int.reduceEq, pick_z, pick_1, pick_2, h', hbig, List.length_map]
      refine ⟨by simp, ⟨l ++ [0], by simp, by simp; omega, okN_app hok (by simp [okN])⟩, ?_⟩
      show many - (List.map D.int l ++ [D.int 0]).length < many - l.length
      simp; omega
    · left
      have h' : ¬ (l.length : Int) < many := by omega
      simp -implicitDefEqProofs only [getR_z, getR_s, get_z, get_s, set_z, set_s, bind_ok, bind_er, bindL_ok, bindL_er, lbind_ok, lbind_er, lbindL_ok, lbindL_er, bindO_ok, bindO_er, lbindO_ok, lbindO_er, obind_nx, obind_rt, obind_bk, obind_ct, obind_er, ofO_some, calm_ok, outD_nx, outD_rt, outD_er, outI_nx, outI_er, kind0, kind1, kind2_int, kind2_bl, kind2_str, kind2_non, kind2_er, toL_ok, onB_t, onB_f, onO_t, onO_f, onB_dec, onO_dec, onB_not, onO_not, notR_bl, evE_var, evE_non, evE_bl, evE_int, evE_str, evE_glo, evE_bin, evE_neg, evE_cmp, evE_isc, evE_chn, evE_and, evE_or, evE_not, evE_ite, evE_lst, evE_tup, evE_idx, evE_slc, isOm, slc_tt, slc_tf, slc_ft, slc_ff, partR_int, evE_att, attR_obj, attR_exn, evE_prp, evE_call, evE_meth, evE_make, evE_blt, evE_lsr, evE_bm, bmR_str, evE_isi, isiR, isiD, lstR_some, onSt_some, keepL_dec, keepL_t, keepL_f, keepL_not, evE_cmpr, evE_cmpi, evEs_nil, evEs_cons, evI_seq, seqR_lst, seqR_tup, seqR_str, evI_rng1, evI_rng2, evI_rng3, evI_rev, revR_lst, revR_tup, evI_zip, zipR_lst, evI_enm, evSs_nil, evSs_cons, evS_asg, evS_asgT, tupO_2, tupO_3, evS_par, onI_int, onP_some, evS_sti, evS_swp, evS_stf, augO_add, augO_sub, onV_z, onV_s, onL_z, onL_s, evS_aug, evS_app, evS_ext, evS_pop, evS_exp, evS_ifs, evS_whl, evS_forr, evS_ret, evS_brk, evS_cnt, evS_pas, evS_rse, evS_tri, triO_nx, triO_rt, triO_bk, triO_ct, triO_er, evHs_nil, bindP_nm, bindP_tp2, wipe_nm, wipe_tp2, bin_add, bin_sub, cmp_eq, cmp_ne, cmp_lt, cmp_le, cmp_gt, cmp_ge, cmp_eqS, cmp_neS, isD_n, isD_nn, isD_t, isD_nt, isD_f, isD_nf, isN_int, isN_non, isN_lst, isN_tup, isN_obj, isN_str, DL.neg_int, blt_len, blt_lenT, blt_abs, blt_int, blt_intB, blt_max, blt_min, blt_list, blt_listT, blt_tuple, fieldOf_cons, fieldOf_nil, setField_nil, setField_cons, idx_lst, idx_tup, ↓reduceIte, reduceCtorEq, List.map_cons, List.map_nil, List.cons_append, List.nil_append, List.replicate, List.length_cons, List.length_nil, decide_true, decide_false, Bool.not_true, Bool.not_false, onS_some, nD, Nat.reduceEqDiff, Nat.reduceAdd, Nat.reduceSub, Nat.reduceMul, Nat.reduceLT, Nat.reduceLeDiff, Int.cast_ofNat_Int, Int.reduceAdd, Int.reduceSub, Int.reduceMul, Int.reduceNeg, Int.reduceLT, Int.reduceLE, Int.reduceEq, pick_z, pick_1, pick_2, h', slc_lst, cut_hi]
      refine ⟨by simp, l.take many, by rw [List.map_take]; rfl, by simp; omega, fun x hx => hok x (List.mem_of_mem_take hx)⟩
end Lw
end

section
set_option linter.all false
set_option maxRecDepth 1000000
set_option maxHeartbeats 4000000
set_option Elab.async false
/-! PLf: fields made. -/
namespace DL
open PySem
def digs (n b s : Nat) : List Int := (List.range s).map fun k => ((n / b ^ k % b : Nat) : Int)
def remStep (p : Int) (d r : List Int) : List Int := ((List.range d.length).foldl (fun q k => q.set (r.length - d.length + k) ((q.getD (r.length - d.length + k) 0 - r.getLastD 0 * d.getD k 0) % p)) r).dropLast
def remL (p : Int) (d : List Int) : Nat → List Int → List Int
  | 0, r => r
  | n + 1, r => remL p d n (remStep p d r)
def irrOk (p : Nat) (m : List Nat) : Bool := allN (fun s => allN (fun n => decide (remL p (digs n p (s + 1) ++ [1]) (m.length - (s + 1)) (m.map Int.ofNat) ≠ List.replicate (s + 1) 0)) (p ^ (s + 1))) (m.length - 2)
def primeOk (p : Nat) : Bool := decide (2 ≤ p) && allN (fun k => decide (p % (k + 2) ≠ 0)) (p - 2)
def fieldOk (p : Nat) (m : List Nat) : Bool := primeOk p && decide (p ≤ 31) && decide (2 ≤ m.length) && decide (m.length ≤ 9) && decide (m.getLastD 0 = 1) && decide (p ^ (m.length - 1) ≤ 256) && m.all (fun x => decide (x < p)) && irrOk p m
theorem remStep_len {p : Int} {d r : List Int} : (remStep p d r).length = r.length - 1 := by
  unfold remStep
  rw [List.length_dropLast]
  have : ∀ (l : List Nat) (f : List Int → Nat → List Int) (hf : ∀ q k, (f q k).length = q.length) (q : List Int), (l.foldl f q).length = q.length := by
    intro l f hf
    induction l with
    | nil => intro q; rfl
    | cons x l ih => intro q; rw [List.foldl_cons, ih, hf]
  rw [this _ _ (fun q k => by simp)]
end DL
namespace Lw
open PySem DL
theorem sp_int_power {b : Int} (hb : intOk b = true) {e : Nat} (he : e ≤ 1000000) : TT.fn 153 [.int b, nD e] = .ok (.int (b ^ e)) := by
  rw [fx_int_power]
  refine df_eq rfl ?_
  simp -implicitDefEqProofs only [getR_z, getR_s, get_z, get_s, set_z, set_s, bind_ok, bind_er, bindL_ok, bindL_er, lbind_ok, lbind_er, lbindL_ok, lbindL_er, bindO_ok, bindO_er, lbindO_ok, lbindO_er, obind_nx, obind_rt, obind_bk, obind_ct, obind_er, ofO_some, calm_ok, outD_nx, outD_rt, outD_er, outI_nx, outI_er, kind0, kind1, kind2_int, kind2_bl, kind2_str, kind2_non, kind2_er, toL_ok, onB_t, onB_f, onO_t, onO_f, onB_dec, onO_dec, onB_not, onO_not, notR_bl, evE_var, evE_non, evE_bl, evE_int, evE_str, evE_glo, evE_bin, evE_neg, evE_cmp, evE_isc, evE_chn, evE_and, evE_or, evE_not, evE_ite, evE_lst, evE_tup, evE_idx, evE_slc, isOm, slc_tt, slc_tf, slc_ft, slc_ff, partR_int, evE_att, attR_obj, attR_exn, evE_prp, evE_call, evE_meth, evE_make, evE_blt, evE_lsr, evE_bm, bmR_str, evE_isi, isiR, isiD, lstR_some, onSt_some, keepL_dec, keepL_t, keepL_f, keepL_not, evE_cmpr, evE_cmpi, evEs_nil, evEs_cons, evI_seq, seqR_lst, seqR_tup, seqR_str, evI_rng1, evI_rng2, evI_rng3, evI_rev, revR_lst, revR_tup, evI_zip, zipR_lst, evI_enm, evSs_nil, evSs_cons, evS_asg, evS_asgT, tupO_2, tupO_3, evS_par, onI_int, onP_some, evS_sti, evS_swp, evS_stf, augO_add, augO_sub, onV_z, onV_s, onL_z, onL_s, evS_aug, evS_app, evS_ext, evS_pop, evS_exp, evS_ifs, evS_whl, evS_forr, evS_ret, evS_brk, evS_cnt, evS_pas, evS_rse, evS_tri, triO_nx, triO_rt, triO_bk, triO_ct, triO_er, evHs_nil, bindP_nm, bindP_tp2, wipe_nm, wipe_tp2, bin_add, bin_sub, cmp_eq, cmp_ne, cmp_lt, cmp_le, cmp_gt, cmp_ge, cmp_eqS, cmp_neS, isD_n, isD_nn, isD_t, isD_nt, isD_f, isD_nf, isN_int, isN_non, isN_lst, isN_tup, isN_obj, isN_str, DL.neg_int, blt_len, blt_lenT, blt_abs, blt_int, blt_intB, blt_max, blt_min, blt_list, blt_listT, blt_tuple, fieldOf_cons, fieldOf_nil, setField_nil, setField_cons, idx_lst, idx_tup, ↓reduceIte, reduceCtorEq, List.map_cons, List.map_nil, List.cons_append, List.nil_append, List.replicate, List.length_cons, List.length_nil, decide_true, decide_false, Bool.not_true, Bool.not_false, onS_some, nD, Nat.reduceEqDiff, Nat.reduceAdd, Nat.reduceSub, Nat.reduceMul, Nat.reduceLT, Nat.reduceLeDiff, Int.cast_ofNat_Int, Int.reduceAdd, Int.reduceSub, Int.reduceMul, Int.reduceNeg, Int.reduceLT, Int.reduceLE, Int.reduceEq, pick_z, pick_1, pick_2, rngR_of (rngOk_of (l := 0) (h := (e : Int)) (by omega) (by omega) (by omega) (by omega))]
  refine for_n (fun k st => ∃ j, st = [some (.int b), some (.int e), some (.int (b ^ k)), j]) ⟨none, by simp⟩ ?_ ?_
  · rintro k st hk ⟨j, rfl⟩
    simp -implicitDefEqProofs only [getR_z, getR_s, get_z, get_s, set_z, set_s, bind_ok, bind_er, bindL_ok, bindL_er, lbind_ok, lbind_er, lbindL_ok, lbindL_er, bindO_ok, bindO_er, lbindO_ok, lbindO_er, obind_nx, obind_rt, obind_bk, obind_ct, obind_er, ofO_some, calm_ok, outD_nx, outD_rt, outD_er, outI_nx, outI_er, kind0, kind1, kind2_int, kind2_bl, kind2_str, kind2_non, kind2_er, toL_ok, onB_t, onB_f, onO_t, onO_f, onB_dec, onO_dec, onB_not, onO_not, notR_bl, evE_var, evE_non, evE_bl, evE_int, evE_str, evE_glo, evE_bin, evE_neg, evE_cmp, evE_isc, evE_chn, evE_and, evE_or, evE_not, evE_ite, evE_lst, evE_tup, evE_idx, evE_slc, isOm, slc_tt, slc_tf, slc_ft, slc_ff, partR_int, evE_att, attR_obj, attR_exn, evE_prp, evE_call, evE_meth, evE_make, evE_blt, evE_lsr, evE_bm, bmR_str, evE_isi, isiR, isiD, lstR_some, onSt_some, keepL_dec, keepL_t, keepL_f, keepL_not, evE_cmpr, evE_cmpi, evEs_nil, evEs_cons, evI_seq, seqR_lst, seqR_tup, seqR_str, evI_rng1, evI_rng2, evI_rng3, evI_rev, revR_lst, revR_tup, evI_zip, zipR_lst, evI_enm, evSs_nil, evSs_cons, evS_asg, evS_asgT, tupO_2, tupO_3, evS_par, onI_int, onP_some, evS_sti, evS_swp, evS_stf, augO_add, augO_sub, onV_z, onV_s, onL_z, onL_s, evS_aug, evS_app, evS_ext, evS_pop, evS_exp, evS_ifs, evS_whl, evS_forr, evS_ret, evS_brk, evS_cnt, evS_pas, evS_rse, evS_tri, triO_nx, triO_rt, triO_bk, triO_ct, triO_er, evHs_nil, bindP_nm, bindP_tp2, wipe_nm, wipe_tp2, bin_add, bin_sub, cmp_eq, cmp_ne, cmp_lt, cmp_le, cmp_gt, cmp_ge, cmp_eqS, cmp_neS, isD_n, isD_nn, isD_t, isD_nt, isD_f, isD_nf, isN_int, isN_non, isN_lst, isN_tup, isN_obj, isN_str, DL.neg_int, blt_len, blt_lenT, blt_abs, blt_int, blt_intB, blt_max, blt_min, blt_list, blt_listT, blt_tuple, fieldOf_cons, fieldOf_nil, setField_nil, setField_cons, idx_lst, idx_tup, ↓reduceIte, reduceCtorEq, List.map_cons, List.map_nil, List.cons_append, List.nil_append, List.replicate, List.length_cons, List.length_nil, decide_true, decide_false, Bool.not_true, Bool.not_false, onS_some, nD, Nat.reduceEqDiff, Nat.reduceAdd, Nat.reduceSub, Nat.reduceMul, Nat.reduceLT, Nat.reduceLeDiff, Int.cast_ofNat_Int, Int.reduceAdd, Int.reduceSub, Int.reduceMul, Int.reduceNeg, Int.reduceLT, Int.reduceLE, Int.reduceEq, pick_z, pick_1, pick_2, bin_mul hb]
    exact ⟨_, by rw [Int.pow_succ]⟩
  · rintro st ⟨j, rfl⟩
    simp -implicitDefEqProofs only [getR_z, getR_s, get_z, get_s, set_z, set_s, bind_ok, bind_er, bindL_ok, bindL_er, lbind_ok, lbind_er, lbindL_ok, lbindL_er, bindO_ok, bindO_er, lbindO_ok, lbindO_er, obind_nx, obind_rt, obind_bk, obind_ct, obind_er, ofO_some, calm_ok, outD_nx, outD_rt, outD_er, outI_nx, outI_er, kind0, kind1, kind2_int, kind2_bl, kind2_str, kind2_non, kind2_er, toL_ok, onB_t, onB_f, onO_t, onO_f, onB_dec, onO_dec, onB_not, onO_not, notR_bl, evE_var, evE_non, evE_bl, evE_int, evE_str, evE_glo, evE_bin, evE_neg, evE_cmp, evE_isc, evE_chn, evE_and, evE_or, evE_not, evE_ite, evE_lst, evE_tup, evE_idx, evE_slc, isOm, slc_tt, slc_tf, slc_ft, slc_ff, partR_int, evE_att, attR_obj, attR_exn, evE_prp, evE_call, evE_meth, evE_make, evE_blt, evE_lsr, evE_bm, bmR_str, evE_isi, isiR, isiD, lstR_some, onSt_some, keepL_dec, keepL_t, keepL_f, keepL_not, evE_cmpr, evE_cmpi, evEs_nil, evEs_cons, evI_seq, seqR_lst, seqR_tup, seqR_str, evI_rng1, evI_rng2, evI_rng3, evI_rev, revR_lst, revR_tup, evI_zip, zipR_lst, evI_enm, evSs_nil, evSs_cons, evS_asg, evS_asgT, tupO_2, tupO_3, evS_par, onI_int, onP_some, evS_sti, evS_swp, evS_stf, augO_add, augO_sub, onV_z, onV_s, onL_z, onL_s, evS_aug, evS_app, evS_ext, evS_pop, evS_exp, evS_ifs, evS_whl, evS_forr, evS_ret, evS_brk, evS_cnt, evS_pas, evS_rse, evS_tri, triO_nx, triO_rt, triO_bk, triO_ct, triO_er, evHs_nil, bindP_nm, bindP_tp2, wipe_nm, wipe_tp2, bin_add, bin_sub, cmp_eq, cmp_ne, cmp_lt, cmp_le, cmp_gt, cmp_ge, cmp_eqS, cmp_neS, isD_n, isD_nn, isD_t, isD_nt, isD_f, isD_nf, isN_int, isN_non, isN_lst, isN_tup, isN_obj, isN_str, DL.neg_int, blt_len, blt_lenT, blt_abs, blt_int, blt_intB, blt_max, blt_min, blt_list, blt_listT, blt_tuple, fieldOf_cons, fieldOf_nil, setField_nil, setField_cons, idx_lst, idx_tup, ↓reduceIte, reduceCtorEq, List.map_cons, List.map_nil, List.cons_append, List.nil_append, List.replicate, List.length_cons, List.length_nil, decide_true, decide_false, Bool.not_true, Bool.not_false, onS_some, nD, Nat.reduceEqDiff, Nat.reduceAdd, Nat.reduceSub, Nat.reduceMul, Nat.reduceLT, Nat.reduceLeDiff, Int.cast_ofNat_Int, Int.reduceAdd, Int.reduceSub, Int.reduceMul, Int.reduceNeg, Int.reduceLT, Int.reduceLE, Int.reduceEq, pick_z, pick_1, pick_2]
    rfl
theorem sp_base_digits {n b s : Nat} (hb : 0 < b) (hb2 : b < 1000000) (hs : s ≤ 1000) : TT.fn 155 [nD n, nD b, nD s] = .ok (.lst ((digs n b s).map .int)) := by
  rw [fx_base_digits]
  refine df_eq rfl ?_
  simp -implicitDefEqProofs only [getR_z, getR_s, get_z, get_s, set_z, set_s, bind_ok, bind_er, bindL_ok, bindL_er, lbind_ok, lbind_er, lbindL_ok, lbindL_er, bindO_ok, bindO_er, lbindO_ok, lbindO_er, obind_nx, obind_rt, obind_bk, obind_ct, obind_er, ofO_some, calm_ok, outD_nx, outD_rt, outD_er, outI_nx, outI_er, kind0, kind1, kind2_int, kind2_bl, kind2_str, kind2_non, kind2_er, toL_ok, onB_t, onB_f, onO_t, onO_f, onB_dec, onO_dec, onB_not, onO_not, notR_bl, evE_var, evE_non, evE_bl, evE_int, evE_str, evE_glo, evE_bin, evE_neg, evE_cmp, evE_isc, evE_chn, evE_and, evE_or, evE_not, evE_ite, evE_lst, evE_tup, evE_idx, evE_slc, isOm, slc_tt, slc_tf, slc_ft, slc_ff, partR_int, evE_att, attR_obj, attR_exn, evE_prp, evE_call, evE_meth, evE_make, evE_blt, evE_lsr, evE_bm, bmR_str, evE_isi, isiR, isiD, lstR_some, onSt_some, keepL_dec, keepL_t, keepL_f, keepL_not, evE_cmpr, evE_cmpi, evEs_nil, evEs_cons, evI_seq, seqR_lst, seqR_tup, seqR_str, evI_rng1, evI_rng2, evI_rng3, evI_rev, revR_lst, revR_tup, evI_zip, zipR_lst, evI_enm, evSs_nil, evSs_cons, evS_asg, evS_asgT, tupO_2, tupO_3, evS_par, onI_int, onP_some, evS_sti, evS_swp, evS_stf, augO_add, augO_sub, onV_z, onV_s, onL_z, onL_s, evS_aug, evS_app, evS_ext, evS_pop, evS_exp, evS_ifs, evS_whl, evS_forr, evS_ret, evS_brk, evS_cnt, evS_pas, evS_rse, evS_tri, triO_nx, triO_rt, triO_bk, triO_ct, triO_er, evHs_nil, bindP_nm, bindP_tp2, wipe_nm, wipe_tp2, bin_add, bin_sub, cmp_eq, cmp_ne, cmp_lt, cmp_le, cmp_gt, cmp_ge, cmp_eqS, cmp_neS, isD_n, isD_nn, isD_t, isD_nt, isD_f, isD_nf, isN_int, isN_non, isN_lst, isN_tup, isN_obj, isN_str, DL.neg_int, blt_len, blt_lenT, blt_abs, blt_int, blt_intB, blt_max, blt_min, blt_list, blt_listT, blt_tuple, fieldOf_cons, fieldOf_nil, setField_nil, setField_cons, idx_lst, idx_tup, ↓reduceIte, reduceCtorEq, List.map_cons, List.map_nil, List.cons_append, List.nil_append, List.replicate, List.length_cons, List.length_nil, decide_true, decide_false, Bool.not_true, Bool.not_false, onS_some, nD, Nat.reduceEqDiff, Nat.reduceAdd, Nat.reduceSub, Nat.reduceMul, Nat.reduceLT, Nat.reduceLeDiff, Int.cast_ofNat_Int, Int.reduceAdd, Int.reduceSub, Int.reduceMul, Int.reduceNeg, Int.reduceLT, Int.reduceLE, Int.reduceEq, pick_z, pick_1, pick_2, rngR_of (rngOk_of (l := 0) (h := (s : Int)) (by omega) (by omega) (by omega) (by omega))]
  refine for_n (fun k st => ∃ j, st = [some (nD (n / b ^ k)), some (.int b), some (.int s), some (.lst ((digs n b k).map .int)), j]) ⟨none, by simp [nD, digs]⟩ ?_ ?_
  · rintro k st hk ⟨j, rfl⟩
    have hl : ((digs n b k).map D.int).length < big := by simp [digs, big_eq]; omega
    simp -implicitDefEqProofs only [getR_z, getR_s, get_z, get_s, set_z, set_s, bind_ok, bind_er, bindL_ok, bindL_er, lbind_ok, lbind_er, lbindL_ok, lbindL_er, bindO_ok, bindO_er, lbindO_ok, lbindO_er, obind_nx, obind_rt, obind_bk, obind_ct, obind_er, ofO_some, calm_ok, outD_nx, outD_rt, outD_er, outI_nx, outI_er, kind0, kind1, kind2_int, kind2_bl, kind2_str, kind2_non, kind2_er, toL_ok, onB_t, onB_f, onO_t, onO_f, onB_dec, onO_dec, onB_not, onO_not, notR_bl, evE_var, evE_non, evE_bl, evE_int, evE_str, evE_glo, evE_bin, evE_neg, evE_cmp, evE_isc, evE_chn, evE_and, evE_or, evE_not, evE_ite, evE_lst, evE_tup, evE_idx, evE_slc, isOm, slc_tt, slc_tf, slc_ft, slc_ff, partR_int, evE_att, attR_obj, attR_exn, evE_prp, evE_call, evE_meth, evE_make, evE_blt, evE_lsr, evE_bm, bmR_str, evE_isi, isiR, isiD, lstR_some, onSt_some, keepL_dec, keepL_t, keepL_f, keepL_not, evE_cmpr, evE_cmpi, evEs_nil, evEs_cons, evI_seq, seqR_lst, seqR_tup, seqR_str, evI_rng1, evI_rng2, evI_rng3, evI_rev, revR_lst, revR_tup, evI_zip, zipR_lst, evI_enm, evSs_nil, evSs_cons, evS_asg, evS_asgT, tupO_2, tupO_3, evS_par, onI_int, onP_some, evS_sti, evS_swp, evS_stf, augO_add, augO_sub, onV_z, onV_s, onL_z, onL_s, evS_aug, evS_app, evS_ext, evS_pop, evS_exp, evS_ifs, evS_whl, evS_forr, evS_ret, evS_brk, evS_cnt, evS_pas, evS_rse, evS_tri, triO_nx, triO_rt, triO_bk, triO_ct, triO_er, evHs_nil, bindP_nm, bindP_tp2, wipe_nm, wipe_tp2, bin_add, bin_sub, cmp_eq, cmp_ne, cmp_lt, cmp_le, cmp_gt, cmp_ge, cmp_eqS, cmp_neS, isD_n, isD_nn, isD_t, isD_nt, isD_f, isD_nf, isN_int, isN_non, isN_lst, isN_tup, isN_obj, isN_str, DL.neg_int, blt_len, blt_lenT, blt_abs, blt_int, blt_intB, blt_max, blt_min, blt_list, blt_listT, blt_tuple, fieldOf_cons, fieldOf_nil, setField_nil, setField_cons, idx_lst, idx_tup, ↓reduceIte, reduceCtorEq, List.map_cons, List.map_nil, List.cons_append, List.nil_append, List.replicate, List.length_cons, List.length_nil, decide_true, decide_false, Bool.not_true, Bool.not_false, onS_some, nD, Nat.reduceEqDiff, Nat.reduceAdd, Nat.reduceSub, Nat.reduceMul, Nat.reduceLT, Nat.reduceLeDiff, Int.cast_ofNat_Int, Int.reduceAdd, Int.reduceSub, Int.reduceMul, Int.reduceNeg, Int.reduceLT, Int.reduceLE, Int.reduceEq, pick_z, pick_1, pick_2, bin_mod (j := (b : Int)) (by omega), bin_fdiv (j := (b : Int)) (by omega) (by omega), hl]
    refine ⟨some (.int k), ?_⟩
    have e1 : ((n / b ^ k : Nat) : Int) / (b : Int) = ((n / b ^ (k + 1) : Nat) : Int) := by
      rw [Nat.pow_succ, ← Nat.div_div_eq_div_mul]; first | done | rfl
    have e2 : digs n b (k + 1) = digs n b k ++ [((n / b ^ k : Nat) : Int) % (b : Int)] := by
      unfold digs; rw [List.range_succ, map_snoc]; rfl
    rw [e1, e2, map_snoc]
  · rintro st ⟨j, rfl⟩
    simp -implicitDefEqProofs only [getR_z, getR_s, get_z, get_s, set_z, set_s, bind_ok, bind_er, bindL_ok, bindL_er, lbind_ok, lbind_er, lbindL_ok, lbindL_er, bindO_ok, bindO_er, lbindO_ok, lbindO_er, obind_nx, obind_rt, obind_bk, obind_ct, obind_er, ofO_some, calm_ok, outD_nx, outD_rt, outD_er, outI_nx, outI_er, kind0, kind1, kind2_int, kind2_bl, kind2_str, kind2_non, kind2_er, toL_ok, onB_t, onB_f, onO_t, onO_f, onB_dec, onO_dec, onB_not, onO_not, notR_bl, evE_var, evE_non, evE_bl, evE_int, evE_str, evE_glo, evE_bin, evE_neg, evE_cmp, evE_isc, evE_chn, evE_and, evE_or, evE_not, evE_ite, evE_lst, evE_tup, evE_idx, evE_slc, isOm, slc_tt, slc_tf, slc_ft, slc_ff, partR_int, evE_att, attR_obj, attR_exn, evE_prp, evE_call, evE_meth, evE_make, evE_blt, evE_lsr, evE_bm, bmR_str, evE_isi, isiR, isiD, lstR_some, onSt_some, keepL_dec, keepL_t, keepL_f, keepL_not, evE_cmpr, evE_cmpi, evEs_nil, evEs_cons, evI_seq, seqR_lst, seqR_tup, seqR_str, evI_rng1, evI_rng2, evI_rng3, evI_rev, revR_lst, revR_tup, evI_zip, zipR_lst, evI_enm, evSs_nil, evSs_cons, evS_asg, evS_asgT, tupO_2, tupO_3, evS_par, onI_int, onP_some, evS_sti, evS_swp, evS_stf, augO_add, augO_sub, onV_z, onV_s, onL_z, onL_s, evS_aug, evS_app, evS_ext, evS_pop, evS_exp, evS_ifs, evS_whl, evS_forr, evS_ret, evS_brk, evS_cnt, evS_pas, evS_rse, evS_tri, triO_nx, triO_rt, triO_bk, triO_ct, triO_er, evHs_nil, bindP_nm, bindP_tp2, wipe_nm, wipe_tp2, bin_add, bin_sub, cmp_eq, cmp_ne, cmp_lt, cmp_le, cmp_gt, cmp_ge, cmp_eqS, cmp_neS, isD_n, isD_nn, isD_t, isD_nt, isD_f, isD_nf, isN_int, isN_non, isN_lst, isN_tup, isN_obj, isN_str, DL.neg_int, blt_len, blt_lenT, blt_abs, blt_int, blt_intB, blt_max, blt_min, blt_list, blt_listT, blt_tuple, fieldOf_cons, fieldOf_nil, setField_nil, setField_cons, idx_lst, idx_tup, ↓reduceIte, reduceCtorEq, List.map_cons, List.map_nil, List.cons_append, List.nil_append, List.replicate, List.length_cons, List.length_nil, decide_true, decide_false, Bool.not_true, Bool.not_false, onS_some, nD, Nat.reduceEqDiff, Nat.reduceAdd, Nat.reduceSub, Nat.reduceMul, Nat.reduceLT, Nat.reduceLeDiff, Int.cast_ofNat_Int, Int.reduceAdd, Int.reduceSub, Int.reduceMul, Int.reduceNeg, Int.reduceLT, Int.reduceLE, Int.reduceEq, pick_z, pick_1, pick_2]
    rfl
theorem sp_integer_remainder {p : Nat} (hp : 0 < p) {r0 d : List Int} {L : D} (hL : bltD .list [L] = some (.lst (r0.map .int))) (hd0 : d ≠ []) (hd : ∀ x ∈ d, intOk x = true) (hdl : d.length ≤ 1000) (hr0 : r0.length ≤ 1000) : TT.fn 156 [nD p, L, .lst (d.map .int)] = .ok (.lst ((remL p d (r0.length - (d.length - 1)) r0).map .int)) := by
  have hd1 : 0 < d.length := List.length_pos_iff.mpr hd0
  rw [fx_integer_remainder]
  refine df_eq rfl ?_
  simp -implicitDefEqProofs only [getR_z, getR_s, get_z, get_s, set_z, set_s, bind_ok, bind_er, bindL_ok, bindL_er, lbind_ok, lbind_er, lbindL_ok, lbindL_er, bindO_ok, bindO_er, lbindO_ok, lbindO_er, obind_nx, obind_rt, obind_bk, obind_ct, obind_er, ofO_some, calm_ok, outD_nx, outD_rt, outD_er, outI_nx, outI_er, kind0, kind1, kind2_int, kind2_bl, kind2_str, kind2_non, kind2_er, toL_ok, onB_t, onB_f, onO_t, onO_f, onB_dec, onO_dec, onB_not, onO_not, notR_bl, evE_var, evE_non, evE_bl, evE_int, evE_str, evE_glo, evE_bin, evE_neg, evE_cmp, evE_isc, evE_chn, evE_and, evE_or, evE_not, evE_ite, evE_lst, evE_tup, evE_idx, evE_slc, isOm, slc_tt, slc_tf, slc_ft, slc_ff, partR_int, evE_att, attR_obj, attR_exn, evE_prp, evE_call, evE_meth, evE_make, evE_blt, evE_lsr, evE_bm, bmR_str, evE_isi, isiR, isiD, lstR_some, onSt_some, keepL_dec, keepL_t, keepL_f, keepL_not, evE_cmpr, evE_cmpi, evEs_nil, evEs_cons, evI_seq, seqR_lst, seqR_tup, seqR_str, evI_rng1, evI_rng2, evI_rng3, evI_rev, revR_lst, revR_tup, evI_zip, zipR_lst, evI_enm, evSs_nil, evSs_cons, evS_asg, evS_asgT, tupO_2, tupO_3, evS_par, onI_int, onP_some, evS_sti, evS_swp, evS_stf, augO_add, augO_sub, onV_z, onV_s, onL_z, onL_s, evS_aug, evS_app, evS_ext, evS_pop, evS_exp, evS_ifs, evS_whl, evS_forr, evS_ret, evS_brk, evS_cnt, evS_pas, evS_rse, evS_tri, triO_nx, triO_rt, triO_bk, triO_ct, triO_er, evHs_nil, bindP_nm, bindP_tp2, wipe_nm, wipe_tp2, bin_add, bin_sub, cmp_eq, cmp_ne, cmp_lt, cmp_le, cmp_gt, cmp_ge, cmp_eqS, cmp_neS, isD_n, isD_nn, isD_t, isD_nt, isD_f, isD_nf, isN_int, isN_non, isN_lst, isN_tup, isN_obj, isN_str, DL.neg_int, blt_len, blt_lenT, blt_abs, blt_int, blt_intB, blt_max, blt_min, blt_list, blt_listT, blt_tuple, fieldOf_cons, fieldOf_nil, setField_nil, setField_cons, idx_lst, idx_tup, ↓reduceIte, reduceCtorEq, List.map_cons, List.map_nil, List.cons_append, List.nil_append, List.replicate, List.length_cons, List.length_nil, decide_true, decide_false, Bool.not_true, Bool.not_false, onS_some, nD, Nat.reduceEqDiff, Nat.reduceAdd, Nat.reduceSub, Nat.reduceMul, Nat.reduceLT, Nat.reduceLeDiff, Int.cast_ofNat_Int, Int.reduceAdd, Int.reduceSub, Int.reduceMul, Int.reduceNeg, Int.reduceLT, Int.reduceLE, Int.reduceEq, pick_z, pick_1, pick_2, hL, List.length_map]
  refine while_k (fun st => ∃ (r : List Int) (a b c : Option D), st = [some (.int p), some L, some (.lst (d.map .int)), some (.int ((d.length : Int) - 1)), some (.lst (r.map .int)), a, b, c] ∧ r.length ≤ 1000 ∧ remL p d (r.length - (d.length - 1)) r = remL p d (r0.length - (d.length - 1)) r0) (fun st => match st with
      | [_, _, _, _, some (.lst l), _, _, _] => l.length
      | _ => 0) ⟨r0, _, _, _, rfl, hr0, rfl⟩ (by show (r0.map D.int).length < 1000000; simp; omega) ?_
  rintro st ⟨r, a, b, c, rfl, hr, he⟩
  simp -implicitDefEqProofs only [getR_z, getR_s, get_z, get_s, set_z, set_s, bind_ok, bind_er, bindL_ok, bindL_er, lbind_ok, lbind_er, lbindL_ok, lbindL_er, bindO_ok, bindO_er, lbindO_ok, lbindO_er, obind_nx, obind_rt, obind_bk, obind_ct, obind_er, ofO_some, calm_ok, outD_nx, outD_rt, outD_er, outI_nx, outI_er, kind0, kind1, kind2_int, kind2_bl, kind2_str, kind2_non, kind2_er, toL_ok, onB_t, onB_f, onO_t, onO_f, onB_dec, onO_dec, onB_not, onO_not, notR_bl, evE_var, evE_non, evE_bl, evE_int, evE_str, evE_glo, evE_bin, evE_neg, evE_cmp, evE_isc, evE_chn, evE_and, evE_or, evE_not, evE_ite, evE_lst, evE_tup, evE_idx, evE_slc, isOm, slc_tt, slc_tf, slc_ft, slc_ff, partR_int, evE_att, attR_obj, attR_exn, evE_prp, evE_call, evE_meth, evE_make, evE_blt, evE_lsr, evE_bm, bmR_str, evE_isi, isiR, isiD, lstR_some, onSt_some, keepL_dec, keepL_t, keepL_f, keepL_not, evE_cmpr, evE_cmpi, evEs_nil, evEs_cons, evI_seq, seqR_lst, seqR_tup, seqR_str, evI_rng1, evI_rng2, evI_rng3, evI_rev, revR_lst, revR_tup, evI_zip, zipR_lst, evI_enm, evSs_nil, evSs_cons, evS_asg, evS_asgT, tupO_2, tupO_3, evS_par, onI_int, onP_some, evS_sti, evS_swp, evS_stf, augO_add, augO_sub, onV_z, onV_s, onL_z, onL_s, evS_aug, evS_app, evS_ext, evS_pop, evS_exp, evS_ifs, evS_whl, evS_forr, evS_ret, evS_brk, evS_cnt, evS_pas, evS_rse, evS_tri, triO_nx, triO_rt, triO_bk, triO_ct, triO_er, evHs_nil, bindP_nm, bindP_tp2, wipe_nm, wipe_tp2, bin_add, bin_sub, cmp_eq, cmp_ne, cmp_lt, cmp_le, cmp_gt, cmp_ge, cmp_eqS, cmp_neS, isD_n, isD_nn, isD_t, isD_nt, isD_f, isD_nf, isN_int, isN_non, isN_lst, isN_tup, isN_obj, isN_str, DL.neg_int, blt_len, blt_lenT, blt_abs, blt_int, blt_intB, blt_max, blt_min, blt_list, blt_listT, blt_tuple, fieldOf_cons, fieldOf_nil, setField_nil, setField_cons, idx_lst, idx_tup, ↓reduceIte, reduceCtorEq, List.map_cons, List.map_nil, List.cons_append, List.nil_append, List.replicate, List.length_cons, List.length_nil, decide_true, decide_false, Bool.not_true, Bool.not_false, onS_some, nD, Nat.reduceEqDiff, Nat.reduceAdd, Nat.reduceSub, Nat.reduceMul, Nat.reduceLT, Nat.reduceLeDiff, Int.cast_ofNat_Int, Int.reduceAdd, Int.reduceSub, Int.reduceMul, Int.reduceNeg, Int.reduceLT, Int.reduceLE, Int.reduceEq, pick_z, pick_1, pick_2, List.length_map]
  by_cases h : d.length ≤ r.length
  · right
    have h' : (d.length : Int) - 1 < (r.length : Int) := by omega
    have hne : r ≠ [] := by intro e; rw [e] at h; exact hd0 (by simpa using h)
    have hlast : pick (r.map D.int) (-1) = some (.int (r.getLastD 0)) := by
      rw [pick_last (by simpa using hne)]
      rw [List.getLast_map, List.getLastD_eq_getLast?, List.getLast?_eq_some_getLast hne]; rfl
    have e1 : (d.length : Int) - 1 + 1 = ((d.length : Nat) : Int) := by omega
    simp -implicitDefEqProofs only [getR_z, getR_s, get_z, get_s, set_z, set_s, bind_ok, bind_er, bindL_ok, bindL_er, lbind_ok, lbind_er, lbindL_ok, lbindL_er, bindO_ok, bindO_er, lbindO_ok, lbindO_er, obind_nx, obind_rt, obind_bk, obind_ct, obind_er, ofO_some, calm_ok, outD_nx, outD_rt, outD_er, outI_nx, outI_er, kind0, kind1, kind2_int, kind2_bl, kind2_str, kind2_non, kind2_er, toL_ok, onB_t, onB_f, onO_t, onO_f, onB_dec, onO_dec, onB_not, onO_not, notR_bl, evE_var, evE_non, evE_bl, evE_int, evE_str, evE_glo, evE_bin, evE_neg, evE_cmp, evE_isc, evE_chn, evE_and, evE_or, evE_not, evE_ite, evE_lst, evE_tup, evE_idx, evE_slc, isOm, slc_tt, slc_tf, slc_ft, slc_ff, partR_int, evE_att, attR_obj, attR_exn, evE_prp, evE_call, evE_meth, evE_make, evE_blt, evE_lsr, evE_bm, bmR_str, evE_isi, isiR, isiD, lstR_some, onSt_some, keepL_dec, keepL_t, keepL_f, keepL_not, evE_cmpr, evE_cmpi, evEs_nil, evEs_cons, evI_seq, seqR_lst, seqR_tup, seqR_str, evI_rng1, evI_rng2, evI_rng3, evI_rev, revR_lst, revR_tup, evI_zip, zipR_lst, evI_enm, evSs_nil, evSs_cons, evS_asg, evS_asgT, tupO_2, tupO_3, evS_par, onI_int, onP_some, evS_sti, evS_swp, evS_stf, augO_add, augO_sub, onV_z, onV_s, onL_z, onL_s, evS_aug, evS_app, evS_ext, evS_pop, evS_exp, evS_ifs, evS_whl, evS_forr, evS_ret, evS_brk, evS_cnt, evS_pas, evS_rse, evS_tri, triO_nx, triO_rt, triO_bk, triO_ct, triO_er, evHs_nil, bindP_nm, bindP_tp2, wipe_nm, wipe_tp2, bin_add, bin_sub, cmp_eq, cmp_ne, cmp_lt, cmp_le, cmp_gt, cmp_ge, cmp_eqS, cmp_neS, isD_n, isD_nn, isD_t, isD_nt, isD_f, isD_nf, isN_int, isN_non, isN_lst, isN_tup, isN_obj, isN_str, DL.neg_int, blt_len, blt_lenT, blt_abs, blt_int, blt_intB, blt_max, blt_min, blt_list, blt_listT, blt_tuple, fieldOf_cons, fieldOf_nil, setField_nil, setField_cons, idx_lst, idx_tup, ↓reduceIte, reduceCtorEq, List.map_cons, List.map_nil, List.cons_append, List.nil_append, List.replicate, List.length_cons, List.length_nil, decide_true, decide_false, Bool.not_true, Bool.not_false, onS_some, nD, Nat.reduceEqDiff, Nat.reduceAdd, Nat.reduceSub, Nat.reduceMul, Nat.reduceLT, Nat.reduceLeDiff, Int.cast_ofNat_Int, Int.reduceAdd, Int.reduceSub, Int.reduceMul, Int.reduceNeg, Int.reduceLT, Int.reduceLE, Int.reduceEq, pick_z, pick_1, pick_2, h', hlast, e1, List.length_map, rngR_of (rngOk_of (l := 0) (h := (d.length : Int)) (by omega) (by omega) (by omega) (by omega))]
    refine ⟨by simp, ?_⟩
    refine for_n (fun k st => ∃ (c : Option D) (q : List Int), st = [some (.int p), some L, some (.lst (d.map .int)), some (.int ((d.length : Int) - 1)), some (.lst (q.map .int)), some (.int (r.getLastD 0)), some (.int ((r.length : Int) - 1 - ((d.length : Int) - 1))), c] ∧ q = (List.range k).foldl (fun q k => q.set (r.length - d.length + k) ((q.getD (r.length - d.length + k) 0 - r.getLastD 0 * d.getD k 0) % p)) r ∧ q.length = r.length) ⟨_, r, rfl, rfl, rfl⟩ ?_ ?_
    · rintro k st hk ⟨c, q, rfl, hq, hql⟩
      have e2 : (r.length : Int) - 1 - ((d.length : Int) - 1) + (k : Int) = ((r.length - d.length + k : Nat) : Int) := by omega
      have g1 := pick_map (f := D.int) (l := q) (r.length - d.length + k) (by omega)
      have g2 := pick_map (f := D.int) (l := d) k hk
      have g3 : intOk d[k] = true := hd _ (List.getElem_mem _)
      have g4 : placeOf q.length ((r.length - d.length + k : Nat) : Int) = some (r.length - d.length + k) := DL.placeOf_nat (by omega)
      simp -implicitDefEqProofs only [getR_z, getR_s, get_z, get_s, set_z, set_s, bind_ok, bind_er, bindL_ok, bindL_er, lbind_ok, lbind_er, lbindL_ok, lbindL_er, bindO_ok, bindO_er, lbindO_ok, lbindO_er, obind_nx, obind_rt, obind_bk, obind_ct, obind_er, ofO_some, calm_ok, outD_nx, outD_rt, outD_er, outI_nx, outI_er, kind0, kind1, kind2_int, kind2_bl, kind2_str, kind2_non, kind2_er, toL_ok, onB_t, onB_f, onO_t, onO_f, onB_dec, onO_dec, onB_not, onO_not, notR_bl, evE_var, evE_non, evE_bl, evE_int, evE_str, evE_glo, evE_bin, evE_neg, evE_cmp, evE_isc, evE_chn, evE_and, evE_or, evE_not, evE_ite, evE_lst, evE_tup, evE_idx, evE_slc, isOm, slc_tt, slc_tf, slc_ft, slc_ff, partR_int, evE_att, attR_obj, attR_exn, evE_prp, evE_call, evE_meth, evE_make, evE_blt, evE_lsr, evE_bm, bmR_str, evE_isi, isiR, isiD, lstR_some, onSt_some, keepL_dec, keepL_t, keepL_f, keepL_not, evE_cmpr, evE_cmpi, evEs_nil, evEs_cons, evI_seq, seqR_lst, seqR_tup, seqR_str, evI_rng1, evI_rng2, evI_rng3, evI_rev, revR_lst, revR_tup, evI_zip, zipR_lst, evI_enm, evSs_nil, evSs_cons, evS_asg, evS_asgT, tupO_2, tupO_3, evS_par, onI_int, onP_some, evS_sti, evS_swp, evS_stf, augO_add, augO_sub, onV_z, onV_s, onL_z, onL_s, evS_aug, evS_app, evS_ext, evS_pop, evS_exp, evS_ifs, evS_whl, evS_forr, evS_ret, evS_brk, evS_cnt, evS_pas, evS_rse, evS_tri, triO_nx, triO_rt, triO_bk, triO_ct, triO_er, evHs_nil, bindP_nm, bindP_tp2, wipe_nm, wipe_tp2, bin_add, bin_sub, cmp_eq, cmp_ne, cmp_lt, cmp_le, cmp_gt, cmp_ge, cmp_eqS, cmp_neS, isD_n, isD_nn, isD_t, isD_nt, isD_f, isD_nf, isN_int, isN_non, isN_lst, isN_tup, isN_obj, isN_str, DL.neg_int, blt_len, blt_lenT, blt_abs, blt_int, blt_intB, blt_max, blt_min, blt_list, blt_listT, blt_tuple, fieldOf_cons, fieldOf_nil, setField_nil, setField_cons, idx_lst, idx_tup, ↓reduceIte, reduceCtorEq, List.map_cons, List.map_nil, List.cons_append, List.nil_append, List.replicate, List.length_cons, List.length_nil, decide_true, decide_false, Bool.not_true, Bool.not_false, onS_some, nD, Nat.reduceEqDiff, Nat.reduceAdd, Nat.reduceSub, Nat.reduceMul, Nat.reduceLT, Nat.reduceLeDiff, Int.cast_ofNat_Int, Int.reduceAdd, Int.reduceSub, Int.reduceMul, Int.reduceNeg, Int.reduceLT, Int.reduceLE, Int.reduceEq, pick_z, pick_1, pick_2, e2, g1, g2, bin_mul g3, bin_mod (j := (p : Int)) (by omega), List.length_map, g4]
      refine ⟨some (.int k), q.set (r.length - d.length + k) ((q[r.length - d.length + k] - r.getLastD 0 * d[k]) % p), ?_, ?_, by simp [hql]⟩
      · rw [List.map_set]
      · rw [List.range_succ, List.foldl_append, ← hq]
        simp only [List.foldl_cons, List.foldl_nil]
        rw [List.getD_eq_getElem?_getD, List.getElem?_eq_getElem (by omega), List.getD_eq_getElem?_getD, List.getElem?_eq_getElem hk]; rfl
    · rintro st ⟨c, q, rfl, hq, hql⟩
      have hq0 : ¬ q.length = 0 := by omega
      simp -implicitDefEqProofs only [getR_z, getR_s, get_z, get_s, set_z, set_s, bind_ok, bind_er, bindL_ok, bindL_er, lbind_ok, lbind_er, lbindL_ok, lbindL_er, bindO_ok, bindO_er, lbindO_ok, lbindO_er, obind_nx, obind_rt, obind_bk, obind_ct, obind_er, ofO_some, calm_ok, outD_nx, outD_rt, outD_er, outI_nx, outI_er, kind0, kind1, kind2_int, kind2_bl, kind2_str, kind2_non, kind2_er, toL_ok, onB_t, onB_f, onO_t, onO_f, onB_dec, onO_dec, onB_not, onO_not, notR_bl, evE_var, evE_non, evE_bl, evE_int, evE_str, evE_glo, evE_bin, evE_neg, evE_cmp, evE_isc, evE_chn, evE_and, evE_or, evE_not, evE_ite, evE_lst, evE_tup, evE_idx, evE_slc, isOm, slc_tt, slc_tf, slc_ft, slc_ff, partR_int, evE_att, attR_obj, attR_exn, evE_prp, evE_call, evE_meth, evE_make, evE_blt, evE_lsr, evE_bm, bmR_str, evE_isi, isiR, isiD, lstR_some, onSt_some, keepL_dec, keepL_t, keepL_f, keepL_not, evE_cmpr, evE_cmpi, evEs_nil, evEs_cons, evI_seq, seqR_lst, seqR_tup, seqR_str, evI_rng1, evI_rng2, evI_rng3, evI_rev, revR_lst, revR_tup, evI_zip, zipR_lst, evI_enm, evSs_nil, evSs_cons, evS_asg, evS_asgT, tupO_2, tupO_3, evS_par, onI_int, onP_some, evS_sti, evS_swp, evS_stf, augO_add, augO_sub, onV_z, onV_s, onL_z, onL_s, evS_aug, evS_app, evS_ext, evS_pop, evS_exp, evS_ifs, evS_whl, evS_forr, evS_ret, evS_brk, evS_cnt, evS_pas, evS_rse, evS_tri, triO_nx, triO_rt, triO_bk, triO_ct, triO_er, evHs_nil, bindP_nm, bindP_tp2, wipe_nm, wipe_tp2, bin_add, bin_sub, cmp_eq, cmp_ne, cmp_lt, cmp_le, cmp_gt, cmp_ge, cmp_eqS, cmp_neS, isD_n, isD_nn, isD_t, isD_nt, isD_f, isD_nf, isN_int, isN_non, isN_lst, isN_tup, isN_obj, isN_str, DL.neg_int, blt_len, blt_lenT, blt_abs, blt_int, blt_intB, blt_max, blt_min, blt_list, blt_listT, blt_tuple, fieldOf_cons, fieldOf_nil, setField_nil, setField_cons, idx_lst, idx_tup, ↓reduceIte, reduceCtorEq, List.map_cons, List.map_nil, List.cons_append, List.nil_append, List.replicate, List.length_cons, List.length_nil, decide_true, decide_false, Bool.not_true, Bool.not_false, onS_some, nD, Nat.reduceEqDiff, Nat.reduceAdd, Nat.reduceSub, Nat.reduceMul, Nat.reduceLT, Nat.reduceLeDiff, Int.cast_ofNat_Int, Int.reduceAdd, Int.reduceSub, Int.reduceMul, Int.reduceNeg, Int.reduceLT, Int.reduceLE, Int.reduceEq, pick_z, pick_1, pick_2, List.length_map, hq0]
      have hst : q.dropLast = remStep p d r := by rw [hq]; rfl
      refine ⟨⟨remStep p d r, _, _, _, by rw [← List.map_dropLast, hst], by rw [remStep_len]; omega, ?_⟩, ?_⟩
      · rw [← he, remStep_len]
        rw [show r.length - (d.length - 1) = (r.length - 1 - (d.length - 1)) + 1 from by omega]; rfl
      · show (List.map D.int q).dropLast.length < r.length
        simp; omega
  · left
    have h' : ¬ ((d.length : Int) - 1 < (r.length : Int)) := by omega
    simp -implicitDefEqProofs only [getR_z, getR_s, get_z, get_s, set_z, set_s, bind_ok, bind_er, bindL_ok, bindL_er, lbind_ok, lbind_er, lbindL_ok, lbindL_er, bindO_ok, bindO_er, lbindO_ok, lbindO_er, obind_nx, obind_rt, obind_bk, obind_ct, obind_er, ofO_some, calm_ok, outD_nx, outD_rt, outD_er, outI_nx, outI_er, kind0, kind1, kind2_int, kind2_bl, kind2_str, kind2_non, kind2_er, toL_ok, onB_t, onB_f, onO_t, onO_f, onB_dec, onO_dec, onB_not, onO_not, notR_bl, evE_var, evE_non, evE_bl, evE_int, evE_str, evE_glo, evE_bin, evE_neg, evE_cmp, evE_isc, evE_chn, evE_and, evE_or, evE_not, evE_ite, evE_lst, evE_tup, evE_idx, evE_slc, isOm, slc_tt, slc_tf, slc_ft, slc_ff, partR_int, evE_att, attR_obj, attR_exn, evE_prp, evE_call, evE_meth, evE_make, evE_blt, evE_lsr, evE_bm, bmR_str, evE_isi, isiR, isiD, lstR_some, onSt_some, keepL_dec, keepL_t, keepL_f, keepL_not, evE_cmpr, evE_cmpi, evEs_nil, evEs_cons, evI_seq, seqR_lst, seqR_tup, seqR_str, evI_rng1, evI_rng2, evI_rng3, evI_rev, revR_lst, revR_tup, evI_zip, zipR_lst, evI_enm, evSs_nil, evSs_cons, evS_asg, evS_asgT, tupO_2, tupO_3, evS_par, onI_int, onP_some, evS_sti, evS_swp, evS_stf, augO_add, augO_sub, onV_z, onV_s, onL_z, onL_s, evS_aug, evS_app, evS_ext, evS_pop, evS_exp, evS_ifs, evS_whl, evS_forr, evS_ret, evS_brk, evS_cnt, evS_pas, evS_rse, evS_tri, triO_nx, triO_rt, triO_bk, triO_ct, triO_er, evHs_nil, bindP_nm, bindP_tp2, wipe_nm, wipe_tp2, bin_add, bin_sub, cmp_eq, cmp_ne, cmp_lt, cmp_le, cmp_gt, cmp_ge, cmp_eqS, cmp_neS, isD_n, isD_nn, isD_t, isD_nt, isD_f, isD_nf, isN_int, isN_non, isN_lst, isN_tup, isN_obj, isN_str, DL.neg_int, blt_len, blt_lenT, blt_abs, blt_int, blt_intB, blt_max, blt_min, blt_list, blt_listT, blt_tuple, fieldOf_cons, fieldOf_nil, setField_nil, setField_cons, idx_lst, idx_tup, ↓reduceIte, reduceCtorEq, List.map_cons, List.map_nil, List.cons_append, List.nil_append, List.replicate, List.length_cons, List.length_nil, decide_true, decide_false, Bool.not_true, Bool.not_false, onS_some, nD, Nat.reduceEqDiff, Nat.reduceAdd, Nat.reduceSub, Nat.reduceMul, Nat.reduceLT, Nat.reduceLeDiff, Int.cast_ofNat_Int, Int.reduceAdd, Int.reduceSub, Int.reduceMul, Int.reduceNeg, Int.reduceLT, Int.reduceLE, Int.reduceEq, pick_z, pick_1, pick_2, h']
    refine ⟨by simp, ?_⟩
    rw [← he, show r.length - (d.length - 1) = 0 from by omega]; rfl
theorem sp_is_prime {p : Nat} (h : primeOk p = true) (hp : p ≤ 31) : TT.fn 154 [nD p] = .ok (.bl true) := by
  simp only [primeOk, Bool.and_eq_true, decide_eq_true_eq] at h
  obtain ⟨h2, h3⟩ := h
  rw [fx_is_prime]
  refine df_eq rfl ?_
  have e1 : (p : Int) = ((2 + (p - 2) : Nat) : Int) := by omega
  have hr : rngOk 2 (p : Int) = true := rngOk_of (by omega) (by omega) (by omega) (by omega)
  simp -implicitDefEqProofs only [getR_z, getR_s, get_z, get_s, set_z, set_s, bind_ok, bind_er, bindL_ok, bindL_er, lbind_ok, lbind_er, lbindL_ok, lbindL_er, bindO_ok, bindO_er, lbindO_ok, lbindO_er, obind_nx, obind_rt, obind_bk, obind_ct, obind_er, ofO_some, calm_ok, outD_nx, outD_rt, outD_er, outI_nx, outI_er, kind0, kind1, kind2_int, kind2_bl, kind2_str, kind2_non, kind2_er, toL_ok, onB_t, onB_f, onO_t, onO_f, onB_dec, onO_dec, onB_not, onO_not, notR_bl, evE_var, evE_non, evE_bl, evE_int, evE_str, evE_glo, evE_bin, evE_neg, evE_cmp, evE_isc, evE_chn, evE_and, evE_or, evE_not, evE_ite, evE_lst, evE_tup, evE_idx, evE_slc, isOm, slc_tt, slc_tf, slc_ft, slc_ff, partR_int, evE_att, attR_obj, attR_exn, evE_prp, evE_call, evE_meth, evE_make, evE_blt, evE_lsr, evE_bm, bmR_str, evE_isi, isiR, isiD, lstR_some, onSt_some, keepL_dec, keepL_t, keepL_f, keepL_not, evE_cmpr, evE_cmpi, evEs_nil, evEs_cons, evI_seq, seqR_lst, seqR_tup, seqR_str, evI_rng1, evI_rng2, evI_rng3, evI_rev, revR_lst, revR_tup, evI_zip, zipR_lst, evI_enm, evSs_nil, evSs_cons, evS_asg, evS_asgT, tupO_2, tupO_3, evS_par, onI_int, onP_some, evS_sti, evS_swp, evS_stf, augO_add, augO_sub, onV_z, onV_s, onL_z, onL_s, evS_aug, evS_app, evS_ext, evS_pop, evS_exp, evS_ifs, evS_whl, evS_forr, evS_ret, evS_brk, evS_cnt, evS_pas, evS_rse, evS_tri, triO_nx, triO_rt, triO_bk, triO_ct, triO_er, evHs_nil, bindP_nm, bindP_tp2, wipe_nm, wipe_tp2, bin_add, bin_sub, cmp_eq, cmp_ne, cmp_lt, cmp_le, cmp_gt, cmp_ge, cmp_eqS, cmp_neS, isD_n, isD_nn, isD_t, isD_nt, isD_f, isD_nf, isN_int, isN_non, isN_lst, isN_tup, isN_obj, isN_str, DL.neg_int, blt_len, blt_lenT, blt_abs, blt_int, blt_intB, blt_max, blt_min, blt_list, blt_listT, blt_tuple, fieldOf_cons, fieldOf_nil, setField_nil, setField_cons, idx_lst, idx_tup, ↓reduceIte, reduceCtorEq, List.map_cons, List.map_nil, List.cons_append, List.nil_append, List.replicate, List.length_cons, List.length_nil, decide_true, decide_false, Bool.not_true, Bool.not_false, onS_some, nD, Nat.reduceEqDiff, Nat.reduceAdd, Nat.reduceSub, Nat.reduceMul, Nat.reduceLT, Nat.reduceLeDiff, Int.cast_ofNat_Int, Int.reduceAdd, Int.reduceSub, Int.reduceMul, Int.reduceNeg, Int.reduceLT, Int.reduceLE, Int.reduceEq, pick_z, pick_1, pick_2, show ¬ ((p : Int) < 2) by omega, rngR_of hr]
  rw [show rngD 2 (p : Int) = rngD ((2 : Nat) : Int) ((2 + (p - 2) : Nat) : Int) from by rw [← e1]; rfl]
  refine for_n2 (fun k st => ∃ j, st = [some (.int p), j]) ⟨_, rfl⟩ ?_ ?_
  · rintro k st hk ⟨j, rfl⟩
    have hn := of_decide_eq_true (allN_at h3 k hk)
    have hm : ¬ ((p : Int) % ((2 + k : Nat) : Int) = 0) := by rw [Nat.add_comm 2 k]; intro e; exact hn (by exact_mod_cast e)
    simp -implicitDefEqProofs only [getR_z, getR_s, get_z, get_s, set_z, set_s, bind_ok, bind_er, bindL_ok, bindL_er, lbind_ok, lbind_er, lbindL_ok, lbindL_er, bindO_ok, bindO_er, lbindO_ok, lbindO_er, obind_nx, obind_rt, obind_bk, obind_ct, obind_er, ofO_some, calm_ok, outD_nx, outD_rt, outD_er, outI_nx, outI_er, kind0, kind1, kind2_int, kind2_bl, kind2_str, kind2_non, kind2_er, toL_ok, onB_t, onB_f, onO_t, onO_f, onB_dec, onO_dec, onB_not, onO_not, notR_bl, evE_var, evE_non, evE_bl, evE_int, evE_str, evE_glo, evE_bin, evE_neg, evE_cmp, evE_isc, evE_chn, evE_and, evE_or, evE_not, evE_ite, evE_lst, evE_tup, evE_idx, evE_slc, isOm, slc_tt, slc_tf, slc_ft, slc_ff, partR_int, evE_att, attR_obj, attR_exn, evE_prp, evE_call, evE_meth, evE_make, evE_blt, evE_lsr, evE_bm, bmR_str, evE_isi, isiR, isiD, lstR_some, onSt_some, keepL_dec, keepL_t, keepL_f, keepL_not, evE_cmpr, evE_cmpi, evEs_nil, evEs_cons, evI_seq, seqR_lst, seqR_tup, seqR_str, evI_rng1, evI_rng2, evI_rng3, evI_rev, revR_lst, revR_tup, evI_zip, zipR_lst, evI_enm, evSs_nil, evSs_cons, evS_asg, evS_asgT, tupO_2, tupO_3, evS_par, onI_int, onP_some, evS_sti, evS_swp, evS_stf, augO_add, augO_sub, onV_z, onV_s, onL_z, onL_s, evS_aug, evS_app, evS_ext, evS_pop, evS_exp, evS_ifs, evS_whl, evS_forr, evS_ret, evS_brk, evS_cnt, evS_pas, evS_rse, evS_tri, triO_nx, triO_rt, triO_bk, triO_ct, triO_er, evHs_nil, bindP_nm, bindP_tp2, wipe_nm, wipe_tp2, bin_add, bin_sub, cmp_eq, cmp_ne, cmp_lt, cmp_le, cmp_gt, cmp_ge, cmp_eqS, cmp_neS, isD_n, isD_nn, isD_t, isD_nt, isD_f, isD_nf, isN_int, isN_non, isN_lst, isN_tup, isN_obj, isN_str, DL.neg_int, blt_len, blt_lenT, blt_abs, blt_int, blt_intB, blt_max, blt_min, blt_list, blt_listT, blt_tuple, fieldOf_cons, fieldOf_nil, setField_nil, setField_cons, idx_lst, idx_tup, ↓reduceIte, reduceCtorEq, List.map_cons, List.map_nil, List.cons_append, List.nil_append, List.replicate, List.length_cons, List.length_nil, decide_true, decide_false, Bool.not_true, Bool.not_false, onS_some, nD, Nat.reduceEqDiff, Nat.reduceAdd, Nat.reduceSub, Nat.reduceMul, Nat.reduceLT, Nat.reduceLeDiff, Int.cast_ofNat_Int, Int.reduceAdd, Int.reduceSub, Int.reduceMul, Int.reduceNeg, Int.reduceLT, Int.reduceLE, Int.reduceEq, pick_z, pick_1, pick_2, bin_mod (j := ((2 + k : Nat) : Int)) (by omega), hm]
    exact ⟨_, rfl⟩
  · rintro st ⟨j, rfl⟩
    simp -implicitDefEqProofs only [getR_z, getR_s, get_z, get_s, set_z, set_s, bind_ok, bind_er, bindL_ok, bindL_er, lbind_ok, lbind_er, lbindL_ok, lbindL_er, bindO_ok, bindO_er, lbindO_ok, lbindO_er, obind_nx, obind_rt, obind_bk, obind_ct, obind_er, ofO_some, calm_ok, outD_nx, outD_rt, outD_er, outI_nx, outI_er, kind0, kind1, kind2_int, kind2_bl, kind2_str, kind2_non, kind2_er, toL_ok, onB_t, onB_f, onO_t, onO_f, onB_dec, onO_dec, onB_not, onO_not, notR_bl, evE_var, evE_non, evE_bl, evE_int, evE_str, evE_glo, evE_bin, evE_neg, evE_cmp, evE_isc, evE_chn, evE_and, evE_or, evE_not, evE_ite, evE_lst, evE_tup, evE_idx, evE_slc, isOm, slc_tt, slc_tf, slc_ft, slc_ff, partR_int, evE_att, attR_obj, attR_exn, evE_prp, evE_call, evE_meth, evE_make, evE_blt, evE_lsr, evE_bm, bmR_str, evE_isi, isiR, isiD, lstR_some, onSt_some, keepL_dec, keepL_t, keepL_f, keepL_not, evE_cmpr, evE_cmpi, evEs_nil, evEs_cons, evI_seq, seqR_lst, seqR_tup, seqR_str, evI_rng1, evI_rng2, evI_rng3, evI_rev, revR_lst, revR_tup, evI_zip, zipR_lst, evI_enm, evSs_nil, evSs_cons, evS_asg, evS_asgT, tupO_2, tupO_3, evS_par, onI_int, onP_some, evS_sti, evS_swp, evS_stf, augO_add, augO_sub, onV_z, onV_s, onL_z, onL_s, evS_aug, evS_app, evS_ext, evS_pop, evS_exp, evS_ifs, evS_whl, evS_forr, evS_ret, evS_brk, evS_cnt, evS_pas, evS_rse, evS_tri, triO_nx, triO_rt, triO_bk, triO_ct, triO_er, evHs_nil, bindP_nm, bindP_tp2, wipe_nm, wipe_tp2, bin_add, bin_sub, cmp_eq, cmp_ne, cmp_lt, cmp_le, cmp_gt, cmp_ge, cmp_eqS, cmp_neS, isD_n, isD_nn, isD_t, isD_nt, isD_f, isD_nf, isN_int, isN_non, isN_lst, isN_tup, isN_obj, isN_str, DL.neg_int, blt_len, blt_lenT, blt_abs, blt_int, blt_intB, blt_max, blt_min, blt_list, blt_listT, blt_tuple, fieldOf_cons, fieldOf_nil, setField_nil, setField_cons, idx_lst, idx_tup, ↓reduceIte, reduceCtorEq, List.map_cons, List.map_nil, List.cons_append, List.nil_append, List.replicate, List.length_cons, List.length_nil, decide_true, decide_false, Bool.not_true, Bool.not_false, onS_some, nD, Nat.reduceEqDiff, Nat.reduceAdd, Nat.reduceSub, Nat.reduceMul, Nat.reduceLT, Nat.reduceLeDiff, Int.cast_ofNat_Int, Int.reduceAdd, Int.reduceSub, Int.reduceMul, Int.reduceNeg, Int.reduceLT, Int.reduceLE, Int.reduceEq, pick_z, pick_1, pick_2]
    rfl
theorem sp_is_irreducible {p : Nat} {m : List Nat} (h : irrOk p m = true) (hp : 0 < p) (hp2 : p ≤ 31) (hm : 2 ≤ m.length) (hm2 : m.length ≤ 9) (hpow : p ^ (m.length - 1) ≤ 256) : TT.fn 157 [nD p, .tup (m.map nD)] = .ok (.bl true) := by
  rw [fx_is_irreducible]
  refine df_eq rfl ?_
  have e1 : (m.length : Int) - 1 = ((1 + (m.length - 2) : Nat) : Int) := by omega
  have hr : rngOk 1 ((m.length : Int) - 1) = true := rngOk_of (by omega) (by omega) (by omega) (by omega)
  simp -implicitDefEqProofs only [getR_z, getR_s, get_z, get_s, set_z, set_s, bind_ok, bind_er, bindL_ok, bindL_er, lbind_ok, lbind_er, lbindL_ok, lbindL_er, bindO_ok, bindO_er, lbindO_ok, lbindO_er, obind_nx, obind_rt, obind_bk, obind_ct, obind_er, ofO_some, calm_ok, outD_nx, outD_rt, outD_er, outI_nx, outI_er, kind0, kind1, kind2_int, kind2_bl, kind2_str, kind2_non, kind2_er, toL_ok, onB_t, onB_f, onO_t, onO_f, onB_dec, onO_dec, onB_not, onO_not, notR_bl, evE_var, evE_non, evE_bl, evE_int, evE_str, evE_glo, evE_bin, evE_neg, evE_cmp, evE_isc, evE_chn, evE_and, evE_or, evE_not, evE_ite, evE_lst, evE_tup, evE_idx, evE_slc, isOm, slc_tt, slc_tf, slc_ft, slc_ff, partR_int, evE_att, attR_obj, attR_exn, evE_prp, evE_call, evE_meth, evE_make, evE_blt, evE_lsr, evE_bm, bmR_str, evE_isi, isiR, isiD, lstR_some, onSt_some, keepL_dec, keepL_t, keepL_f, keepL_not, evE_cmpr, evE_cmpi, evEs_nil, evEs_cons, evI_seq, seqR_lst, seqR_tup, seqR_str, evI_rng1, evI_rng2, evI_rng3, evI_rev, revR_lst, revR_tup, evI_zip, zipR_lst, evI_enm, evSs_nil, evSs_cons, evS_asg, evS_asgT, tupO_2, tupO_3, evS_par, onI_int, onP_some, evS_sti, evS_swp, evS_stf, augO_add, augO_sub, onV_z, onV_s, onL_z, onL_s, evS_aug, evS_app, evS_ext, evS_pop, evS_exp, evS_ifs, evS_whl, evS_forr, evS_ret, evS_brk, evS_cnt, evS_pas, evS_rse, evS_tri, triO_nx, triO_rt, triO_bk, triO_ct, triO_er, evHs_nil, bindP_nm, bindP_tp2, wipe_nm, wipe_tp2, bin_add, bin_sub, cmp_eq, cmp_ne, cmp_lt, cmp_le, cmp_gt, cmp_ge, cmp_eqS, cmp_neS, isD_n, isD_nn, isD_t, isD_nt, isD_f, isD_nf, isN_int, isN_non, isN_lst, isN_tup, isN_obj, isN_str, DL.neg_int, blt_len, blt_lenT, blt_abs, blt_int, blt_intB, blt_max, blt_min, blt_list, blt_listT, blt_tuple, fieldOf_cons, fieldOf_nil, setField_nil, setField_cons, idx_lst, idx_tup, ↓reduceIte, reduceCtorEq, List.map_cons, List.map_nil, List.cons_append, List.nil_append, List.replicate, List.length_cons, List.length_nil, decide_true, decide_false, Bool.not_true, Bool.not_false, onS_some, nD, Nat.reduceEqDiff, Nat.reduceAdd, Nat.reduceSub, Nat.reduceMul, Nat.reduceLT, Nat.reduceLeDiff, Int.cast_ofNat_Int, Int.reduceAdd, Int.reduceSub, Int.reduceMul, Int.reduceNeg, Int.reduceLT, Int.reduceLE, Int.reduceEq, pick_z, pick_1, pick_2, List.length_map, rngR_of hr]
  rw [show rngD 1 ((m.length : Int) - 1) = rngD ((1 : Nat) : Int) ((1 + (m.length - 2) : Nat) : Int) from by rw [← e1]; rfl]
  refine for_n2 (fun k st => ∃ a b c d, st = [some (.int p), some (.tup (m.map nD)), a, b, c, d]) ⟨_, _, _, _, rfl⟩ ?_ ?_
  · rintro s st hs ⟨a, b, c, d, rfl⟩
    have hsz := allN_at h s hs
    have hle : p ^ (1 + s) ≤ 256 := Nat.le_trans (Nat.pow_le_pow_right hp (by omega)) hpow
    have hpw := sp_int_power (b := p) (intOk_of (by omega) (by omega)) (e := 1 + s) (by omega)
    have hc : (p : Int) ^ (1 + s) = ((p ^ (1 + s) : Nat) : Int) := by push_cast; rfl
    rw [hc] at hpw
    simp only [nD] at hpw
    simp -implicitDefEqProofs only [getR_z, getR_s, get_z, get_s, set_z, set_s, bind_ok, bind_er, bindL_ok, bindL_er, lbind_ok, lbind_er, lbindL_ok, lbindL_er, bindO_ok, bindO_er, lbindO_ok, lbindO_er, obind_nx, obind_rt, obind_bk, obind_ct, obind_er, ofO_some, calm_ok, outD_nx, outD_rt, outD_er, outI_nx, outI_er, kind0, kind1, kind2_int, kind2_bl, kind2_str, kind2_non, kind2_er, toL_ok, onB_t, onB_f, onO_t, onO_f, onB_dec, onO_dec, onB_not, onO_not, notR_bl, evE_var, evE_non, evE_bl, evE_int, evE_str, evE_glo, evE_bin, evE_neg, evE_cmp, evE_isc, evE_chn, evE_and, evE_or, evE_not, evE_ite, evE_lst, evE_tup, evE_idx, evE_slc, isOm, slc_tt, slc_tf, slc_ft, slc_ff, partR_int, evE_att, attR_obj, attR_exn, evE_prp, evE_call, evE_meth, evE_make, evE_blt, evE_lsr, evE_bm, bmR_str, evE_isi, isiR, isiD, lstR_some, onSt_some, keepL_dec, keepL_t, keepL_f, keepL_not, evE_cmpr, evE_cmpi, evEs_nil, evEs_cons, evI_seq, seqR_lst, seqR_tup, seqR_str, evI_rng1, evI_rng2, evI_rng3, evI_rev, revR_lst, revR_tup, evI_zip, zipR_lst, evI_enm, evSs_nil, evSs_cons, evS_asg, evS_asgT, tupO_2, tupO_3, evS_par, onI_int, onP_some, evS_sti, evS_swp, evS_stf, augO_add, augO_sub, onV_z, onV_s, onL_z, onL_s, evS_aug, evS_app, evS_ext, evS_pop, evS_exp, evS_ifs, evS_whl, evS_forr, evS_ret, evS_brk, evS_cnt, evS_pas, evS_rse, evS_tri, triO_nx, triO_rt, triO_bk, triO_ct, triO_er, evHs_nil, bindP_nm, bindP_tp2, wipe_nm, wipe_tp2, bin_add, bin_sub, cmp_eq, cmp_ne, cmp_lt, cmp_le, cmp_gt, cmp_ge, cmp_eqS, cmp_neS, isD_n, isD_nn, isD_t, isD_nt, isD_f, isD_nf, isN_int, isN_non, isN_lst, isN_tup, isN_obj, isN_str, DL.neg_int, blt_len, blt_lenT, blt_abs, blt_int, blt_intB, blt_max, blt_min, blt_list, blt_listT, blt_tuple, fieldOf_cons, fieldOf_nil, setField_nil, setField_cons, idx_lst, idx_tup, ↓reduceIte, reduceCtorEq, List.map_cons, List.map_nil, List.cons_append, List.nil_append, List.replicate, List.length_cons, List.length_nil, decide_true, decide_false, Bool.not_true, Bool.not_false, onS_some, nD, Nat.reduceEqDiff, Nat.reduceAdd, Nat.reduceSub, Nat.reduceMul, Nat.reduceLT, Nat.reduceLeDiff, Int.cast_ofNat_Int, Int.reduceAdd, Int.reduceSub, Int.reduceMul, Int.reduceNeg, Int.reduceLT, Int.reduceLE, Int.reduceEq, pick_z, pick_1, pick_2, hpw, rngR_of (rngOk_of (l := 0) (h := ((p ^ (1 + s) : Nat) : Int)) (by omega) (by omega) (by omega) (by omega))]
    refine for_n (fun k st => ∃ b c d, st = [some (.int p), some (.tup (m.map nD)), some (.int ((1 + s : Nat) : Int)), b, c, d]) ⟨_, _, _, rfl⟩ ?_ ?_
    · rintro n st hn ⟨b, c, d, rfl⟩
      have hne := of_decide_eq_true (allN_at hsz n (by rw [Nat.add_comm]; exact hn))
      have hdg := sp_base_digits (n := n) (b := p) (s := 1 + s) hp (by omega) (by omega)
      have hdl : (digs n p (1 + s)).length = 1 + s := by simp [digs]
      have hrem := sp_integer_remainder hp (r0 := m.map Int.ofNat) (d := digs n p (1 + s) ++ [1]) (L := .tup (m.map nD)) (by rw [blt_listT, List.map_map]; rfl) (by simp) (by
        intro x hx
        rcases List.mem_append.mp hx with e | e
        · obtain ⟨k, hk, rfl⟩ := List.mem_map.mp e
          have := Nat.mod_lt (n / p ^ k) hp
          exact intOk_of (by omega) (by omega)
        · simp at e; subst e; decide) (by simp [hdl]; omega) (by simp; omega)
      rw [List.map_append, List.map_cons, List.map_nil] at hrem
      rw [List.length_append, hdl, List.length_singleton, List.length_map, show 1 + s + 1 - 1 = s + 1 from by omega, Nat.add_comm 1 s] at hrem
      rw [Nat.add_comm 1 s] at hdg
      simp only [nD] at hdg hrem
      obtain ⟨z, hz⟩ : ∃ z : List Int, List.replicate (s + 1) (0 : Int) = z := ⟨_, rfl⟩
      rw [hz] at hne
      have hmul : binD .mul (.lst [.int 0]) (.int ((s + 1 : Nat) : Int)) = some (.lst (z.map .int)) := by
        rw [← hz]
        have : ([D.int 0].length * (((s + 1 : Nat) : Int)).toNat ≤ big ∧ -1000000 ≤ ((s + 1 : Nat) : Int) ∧ ((s + 1 : Nat) : Int) ≤ 1000000) := by
          rw [big_eq]; simp; omega
        simp only [binD]
        rw [if_pos this]
        rw [show (((s + 1 : Nat) : Int)).toNat = s + 1 from by omega]
        simp
      have hbl : (List.map D.int (digs n p (s + 1))).length + 1 ≤ big := by simp [digs, big_eq]; omega
      rw [Nat.add_comm 1 s]
      simp -implicitDefEqProofs only [getR_z, getR_s, get_z, get_s, set_z, set_s, bind_ok, bind_er, bindL_ok, bindL_er, lbind_ok, lbind_er, lbindL_ok, lbindL_er, bindO_ok, bindO_er, lbindO_ok, lbindO_er, obind_nx, obind_rt, obind_bk, obind_ct, obind_er, ofO_some, calm_ok, outD_nx, outD_rt, outD_er, outI_nx, outI_er, kind0, kind1, kind2_int, kind2_bl, kind2_str, kind2_non, kind2_er, toL_ok, onB_t, onB_f, onO_t, onO_f, onB_dec, onO_dec, onB_not, onO_not, notR_bl, evE_var, evE_non, evE_bl, evE_int, evE_str, evE_glo, evE_bin, evE_neg, evE_cmp, evE_isc, evE_chn, evE_and, evE_or, evE_not, evE_ite, evE_lst, evE_tup, evE_idx, evE_slc, isOm, slc_tt, slc_tf, slc_ft, slc_ff, partR_int, evE_att, attR_obj, attR_exn, evE_prp, evE_call, evE_meth, evE_make, evE_blt, evE_lsr, evE_bm, bmR_str, evE_isi, isiR, isiD, lstR_some, onSt_some, keepL_dec, keepL_t, keepL_f, keepL_not, evE_cmpr, evE_cmpi, evEs_nil, evEs_cons, evI_seq, seqR_lst, seqR_tup, seqR_str, evI_rng1, evI_rng2, evI_rng3, evI_rev, revR_lst, revR_tup, evI_zip, zipR_lst, evI_enm, evSs_nil, evSs_cons, evS_asg, evS_asgT, tupO_2, tupO_3, evS_par, onI_int, onP_some, evS_sti, evS_swp, evS_stf, augO_add, augO_sub, onV_z, onV_s, onL_z, onL_s, evS_aug, evS_app, evS_ext, evS_pop, evS_exp, evS_ifs, evS_whl, evS_forr, evS_ret, evS_brk, evS_cnt, evS_pas, evS_rse, evS_tri, triO_nx, triO_rt, triO_bk, triO_ct, triO_er, evHs_nil, bindP_nm, bindP_tp2, wipe_nm, wipe_tp2, bin_add, bin_sub, cmp_eq, cmp_ne, cmp_lt, cmp_le, cmp_gt, cmp_ge, cmp_eqS, cmp_neS, isD_n, isD_nn, isD_t, isD_nt, isD_f, isD_nf, isN_int, isN_non, isN_lst, isN_tup, isN_obj, isN_str, DL.neg_int, blt_len, blt_lenT, blt_abs, blt_int, blt_intB, blt_max, blt_min, blt_list, blt_listT, blt_tuple, fieldOf_cons, fieldOf_nil, setField_nil, setField_cons, idx_lst, idx_tup, ↓reduceIte, reduceCtorEq, List.map_cons, List.map_nil, List.cons_append, List.nil_append, List.replicate, List.length_cons, List.length_nil, decide_true, decide_false, Bool.not_true, Bool.not_false, onS_some, nD, Nat.reduceEqDiff, Nat.reduceAdd, Nat.reduceSub, Nat.reduceMul, Nat.reduceLT, Nat.reduceLeDiff, Int.cast_ofNat_Int, Int.reduceAdd, Int.reduceSub, Int.reduceMul, Int.reduceNeg, Int.reduceLT, Int.reduceLE, Int.reduceEq, pick_z, pick_1, pick_2, hdg, bin_addL_if, hbl, hrem, hmul, enc_int.cmpeL (by decide), hne]
      exact ⟨_, _, _, rfl⟩
    · rintro st ⟨b, c, d, rfl⟩
      simp -implicitDefEqProofs only [getR_z, getR_s, get_z, get_s, set_z, set_s, bind_ok, bind_er, bindL_ok, bindL_er, lbind_ok, lbind_er, lbindL_ok, lbindL_er, bindO_ok, bindO_er, lbindO_ok, lbindO_er, obind_nx, obind_rt, obind_bk, obind_ct, obind_er, ofO_some, calm_ok, outD_nx, outD_rt, outD_er, outI_nx, outI_er, kind0, kind1, kind2_int, kind2_bl, kind2_str, kind2_non, kind2_er, toL_ok, onB_t, onB_f, onO_t, onO_f, onB_dec, onO_dec, onB_not, onO_not, notR_bl, evE_var, evE_non, evE_bl, evE_int, evE_str, evE_glo, evE_bin, evE_neg, evE_cmp, evE_isc, evE_chn, evE_and, evE_or, evE_not, evE_ite, evE_lst, evE_tup, evE_idx, evE_slc, isOm, slc_tt, slc_tf, slc_ft, slc_ff, partR_int, evE_att, attR_obj, attR_exn, evE_prp, evE_call, evE_meth, evE_make, evE_blt, evE_lsr, evE_bm, bmR_str, evE_isi, isiR, isiD, lstR_some, onSt_some, keepL_dec, keepL_t, keepL_f, keepL_not, evE_cmpr, evE_cmpi, evEs_nil, evEs_cons, evI_seq, seqR_lst, seqR_tup, seqR_str, evI_rng1, evI_rng2, evI_rng3, evI_rev, revR_lst, revR_tup, evI_zip, zipR_lst, evI_enm, evSs_nil, evSs_cons, evS_asg, evS_asgT, tupO_2, tupO_3, evS_par, onI_int, onP_some, evS_sti, evS_swp, evS_stf, augO_add, augO_sub, onV_z, onV_s, onL_z, onL_s, evS_aug, evS_app, evS_ext, evS_pop, evS_exp, evS_ifs, evS_whl, evS_forr, evS_ret, evS_brk, evS_cnt, evS_pas, evS_rse, evS_tri, triO_nx, triO_rt, triO_bk, triO_ct, triO_er, evHs_nil, bindP_nm, bindP_tp2, wipe_nm, wipe_tp2, bin_add, bin_sub, cmp_eq, cmp_ne, cmp_lt, cmp_le, cmp_gt, cmp_ge, cmp_eqS, cmp_neS, isD_n, isD_nn, isD_t, isD_nt, isD_f, isD_nf, isN_int, isN_non, isN_lst, isN_tup, isN_obj, isN_str, DL.neg_int, blt_len, blt_lenT, blt_abs, blt_int, blt_intB, blt_max, blt_min, blt_list, blt_listT, blt_tuple, fieldOf_cons, fieldOf_nil, setField_nil, setField_cons, idx_lst, idx_tup, ↓reduceIte, reduceCtorEq, List.map_cons, List.map_nil, List.cons_append, List.nil_append, List.replicate, List.length_cons, List.length_nil, decide_true, decide_false, Bool.not_true, Bool.not_false, onS_some, nD, Nat.reduceEqDiff, Nat.reduceAdd, Nat.reduceSub, Nat.reduceMul, Nat.reduceLT, Nat.reduceLeDiff, Int.cast_ofNat_Int, Int.reduceAdd, Int.reduceSub, Int.reduceMul, Int.reduceNeg, Int.reduceLT, Int.reduceLE, Int.reduceEq, pick_z, pick_1, pick_2]
      exact ⟨_, _, _, _, rfl⟩
  · rintro st ⟨a, b, c, d, rfl⟩
    simp -implicitDefEqProofs only [getR_z, getR_s, get_z, get_s, set_z, set_s, bind_ok, bind_er, bindL_ok, bindL_er, lbind_ok, lbind_er, lbindL_ok, lbindL_er, bindO_ok, bindO_er, lbindO_ok, lbindO_er, obind_nx, obind_rt, obind_bk, obind_ct, obind_er, ofO_some, calm_ok, outD_nx, outD_rt, outD_er, outI_nx, outI_er, kind0, kind1, kind2_int, kind2_bl, kind2_str, kind2_non, kind2_er, toL_ok, onB_t, onB_f, onO_t, onO_f, onB_dec, onO_dec, onB_not, onO_not, notR_bl, evE_var, evE_non, evE_bl, evE_int, evE_str, evE_glo, evE_bin, evE_neg, evE_cmp, evE_isc, evE_chn, evE_and, evE_or, evE_not, evE_ite, evE_lst, evE_tup, evE_idx, evE_slc, isOm, slc_tt, slc_tf, slc_ft, slc_ff, partR_int, evE_att, attR_obj, attR_exn, evE_prp, evE_call, evE_meth, evE_make, evE_blt, evE_lsr, evE_bm, bmR_str, evE_isi, isiR, isiD, lstR_some, onSt_some, keepL_dec, keepL_t, keepL_f, keepL_not, evE_cmpr, evE_cmpi, evEs_nil, evEs_cons, evI_seq, seqR_lst, seqR_tup, seqR_str, evI_rng1, evI_rng2, evI_rng3, evI_rev, revR_lst, revR_tup, evI_zip, zipR_lst, evI_enm, evSs_nil, evSs_cons, evS_asg, evS_asgT, tupO_2, tupO_3, evS_par, onI_int, onP_some, evS_sti, evS_swp, evS_stf, augO_add, augO_sub, onV_z, onV_s, onL_z, onL_s, evS_aug, evS_app, evS_ext, evS_pop, evS_exp, evS_ifs, evS_whl, evS_forr, evS_ret, evS_brk, evS_cnt, evS_pas, evS_rse, evS_tri, triO_nx, triO_rt, triO_bk, triO_ct, triO_er, evHs_nil, bindP_nm, bindP_tp2, wipe_nm, wipe_tp2, bin_add, bin_sub, cmp_eq, cmp_ne, cmp_lt, cmp_le, cmp_gt, cmp_ge, cmp_eqS, cmp_neS, isD_n, isD_nn, isD_t, isD_nt, isD_f, isD_nf, isN_int, isN_non, isN_lst, isN_tup, isN_obj, isN_str, DL.neg_int, blt_len, blt_lenT, blt_abs, blt_int, blt_intB, blt_max, blt_min, blt_list, blt_listT, blt_tuple, fieldOf_cons, fieldOf_nil, setField_nil, setField_cons, idx_lst, idx_tup, ↓reduceIte, reduceCtorEq, List.map_cons, List.map_nil, List.cons_append, List.nil_append, List.replicate, List.length_cons, List.length_nil, decide_true, decide_false, Bool.not_true, Bool.not_false, onS_some, nD, Nat.reduceEqDiff, Nat.reduceAdd, Nat.reduceSub, Nat.reduceMul, Nat.reduceLT, Nat.reduceLeDiff, Int.cast_ofNat_Int, Int.reduceAdd, Int.reduceSub, Int.reduceMul, Int.reduceNeg, Int.reduceLT, Int.reduceLE, Int.reduceEq, pick_z, pick_1, pick_2]
    rfl
theorem getLast_eq {α : Type} {m : List α} {d : α} (h : m ≠ []) : m.getLast h = m.getLastD d := by
  rw [List.getLastD_eq_getLast?, List.getLast?_eq_some_getLast h]; rfl
theorem sp_is_modulus {p : Nat} {m : List Nat} (hp : 0 < p) (hp2 : p ≤ 31) (h1 : 2 ≤ m.length) (h2 : m.length ≤ 9) (h3 : m.getLastD 0 = 1) (h4 : p ^ (m.length - 1) ≤ 256) (h5 : ∀ x ∈ m, x < p) (h6 : irrOk p m = true) : TT.fn 158 [nD p, .tup (m.map nD)] = .ok (.bl true) := by
  have hne : m ≠ [] := by intro e; rw [e] at h1; simp at h1
  have hlast : pick (m.map nD) (-1) = some (.int 1) := by
    rw [pick_last (by simpa using hne), List.getLast_map, getLast_eq hne, h3]; rfl
  have hpw := sp_int_power (b := p) (intOk_of (by omega) (by omega)) (e := m.length - 1) (by omega)
  have hc : (p : Int) ^ (m.length - 1) = ((p ^ (m.length - 1) : Nat) : Int) := by push_cast; rfl
  rw [hc] at hpw
  have hir := sp_is_irreducible h6 hp hp2 h1 h2 h4
  simp only [nD] at hpw hir
  have e1 : (m.length : Int) - 1 = ((m.length - 1 : Nat) : Int) := by omega
  rw [fx_is_modulus]
  refine df_eq rfl ?_
  simp -implicitDefEqProofs only [getR_z, getR_s, get_z, get_s, set_z, set_s, bind_ok, bind_er, bindL_ok, bindL_er, lbind_ok, lbind_er, lbindL_ok, lbindL_er, bindO_ok, bindO_er, lbindO_ok, lbindO_er, obind_nx, obind_rt, obind_bk, obind_ct, obind_er, ofO_some, calm_ok, outD_nx, outD_rt, outD_er, outI_nx, outI_er, kind0, kind1, kind2_int, kind2_bl, kind2_str, kind2_non, kind2_er, toL_ok, onB_t, onB_f, onO_t, onO_f, onB_dec, onO_dec, onB_not, onO_not, notR_bl, evE_var, evE_non, evE_bl, evE_int, evE_str, evE_glo, evE_bin, evE_neg, evE_cmp, evE_isc, evE_chn, evE_and, evE_or, evE_not, evE_ite, evE_lst, evE_tup, evE_idx, evE_slc, isOm, slc_tt, slc_tf, slc_ft, slc_ff, partR_int, evE_att, attR_obj, attR_exn, evE_prp, evE_call, evE_meth, evE_make, evE_blt, evE_lsr, evE_bm, bmR_str, evE_isi, isiR, isiD, lstR_some, onSt_some, keepL_dec, keepL_t, keepL_f, keepL_not, evE_cmpr, evE_cmpi, evEs_nil, evEs_cons, evI_seq, seqR_lst, seqR_tup, seqR_str, evI_rng1, evI_rng2, evI_rng3, evI_rev, revR_lst, revR_tup, evI_zip, zipR_lst, evI_enm, evSs_nil, evSs_cons, evS_asg, evS_asgT, tupO_2, tupO_3, evS_par, onI_int, onP_some, evS_sti, evS_swp, evS_stf, augO_add, augO_sub, onV_z, onV_s, onL_z, onL_s, evS_aug, evS_app, evS_ext, evS_pop, evS_exp, evS_ifs, evS_whl, evS_forr, evS_ret, evS_brk, evS_cnt, evS_pas, evS_rse, evS_tri, triO_nx, triO_rt, triO_bk, triO_ct, triO_er, evHs_nil, bindP_nm, bindP_tp2, wipe_nm, wipe_tp2, bin_add, bin_sub, cmp_eq, cmp_ne, cmp_lt, cmp_le, cmp_gt, cmp_ge, cmp_eqS, cmp_neS, isD_n, isD_nn, isD_t, isD_nt, isD_f, isD_nf, isN_int, isN_non, isN_lst, isN_tup, isN_obj, isN_str, DL.neg_int, blt_len, blt_lenT, blt_abs, blt_int, blt_intB, blt_max, blt_min, blt_list, blt_listT, blt_tuple, fieldOf_cons, fieldOf_nil, setField_nil, setField_cons, idx_lst, idx_tup, ↓reduceIte, reduceCtorEq, List.map_cons, List.map_nil, List.cons_append, List.nil_append, List.replicate, List.length_cons, List.length_nil, decide_true, decide_false, Bool.not_true, Bool.not_false, onS_some, nD, Nat.reduceEqDiff, Nat.reduceAdd, Nat.reduceSub, Nat.reduceMul, Nat.reduceLT, Nat.reduceLeDiff, Int.cast_ofNat_Int, Int.reduceAdd, Int.reduceSub, Int.reduceMul, Int.reduceNeg, Int.reduceLT, Int.reduceLE, Int.reduceEq, pick_z, pick_1, pick_2, List.length_map, show ¬ ((m.length : Int) < 2) by omega, show ¬ ((9 : Int) < m.length) by omega, hlast, e1, hpw, show ¬ ((256 : Int) < ((p ^ (m.length - 1) : Nat) : Int)) by omega]
  refine for_k (fun pre st => ∃ j, st = [some (.int p), some (.tup (m.map nD)), j]) ⟨_, rfl⟩ ?_ ?_
  · rintro pre x post st hm ⟨j, rfl⟩
    have hx := h5 x (by rw [hm]; simp)
    simp -implicitDefEqProofs only [getR_z, getR_s, get_z, get_s, set_z, set_s, bind_ok, bind_er, bindL_ok, bindL_er, lbind_ok, lbind_er, lbindL_ok, lbindL_er, bindO_ok, bindO_er, lbindO_ok, lbindO_er, obind_nx, obind_rt, obind_bk, obind_ct, obind_er, ofO_some, calm_ok, outD_nx, outD_rt, outD_er, outI_nx, outI_er, kind0, kind1, kind2_int, kind2_bl, kind2_str, kind2_non, kind2_er, toL_ok, onB_t, onB_f, onO_t, onO_f, onB_dec, onO_dec, onB_not, onO_not, notR_bl, evE_var, evE_non, evE_bl, evE_int, evE_str, evE_glo, evE_bin, evE_neg, evE_cmp, evE_isc, evE_chn, evE_and, evE_or, evE_not, evE_ite, evE_lst, evE_tup, evE_idx, evE_slc, isOm, slc_tt, slc_tf, slc_ft, slc_ff, partR_int, evE_att, attR_obj, attR_exn, evE_prp, evE_call, evE_meth, evE_make, evE_blt, evE_lsr, evE_bm, bmR_str, evE_isi, isiR, isiD, lstR_some, onSt_some, keepL_dec, keepL_t, keepL_f, keepL_not, evE_cmpr, evE_cmpi, evEs_nil, evEs_cons, evI_seq, seqR_lst, seqR_tup, seqR_str, evI_rng1, evI_rng2, evI_rng3, evI_rev, revR_lst, revR_tup, evI_zip, zipR_lst, evI_enm, evSs_nil, evSs_cons, evS_asg, evS_asgT, tupO_2, tupO_3, evS_par, onI_int, onP_some, evS_sti, evS_swp, evS_stf, augO_add, augO_sub, onV_z, onV_s, onL_z, onL_s, evS_aug, evS_app, evS_ext, evS_pop, evS_exp, evS_ifs, evS_whl, evS_forr, evS_ret, evS_brk, evS_cnt, evS_pas, evS_rse, evS_tri, triO_nx, triO_rt, triO_bk, triO_ct, triO_er, evHs_nil, bindP_nm, bindP_tp2, wipe_nm, wipe_tp2, bin_add, bin_sub, cmp_eq, cmp_ne, cmp_lt, cmp_le, cmp_gt, cmp_ge, cmp_eqS, cmp_neS, isD_n, isD_nn, isD_t, isD_nt, isD_f, isD_nf, isN_int, isN_non, isN_lst, isN_tup, isN_obj, isN_str, DL.neg_int, blt_len, blt_lenT, blt_abs, blt_int, blt_intB, blt_max, blt_min, blt_list, blt_listT, blt_tuple, fieldOf_cons, fieldOf_nil, setField_nil, setField_cons, idx_lst, idx_tup, ↓reduceIte, reduceCtorEq, List.map_cons, List.map_nil, List.cons_append, List.nil_append, List.replicate, List.length_cons, List.length_nil, decide_true, decide_false, Bool.not_true, Bool.not_false, onS_some, nD, Nat.reduceEqDiff, Nat.reduceAdd, Nat.reduceSub, Nat.reduceMul, Nat.reduceLT, Nat.reduceLeDiff, Int.cast_ofNat_Int, Int.reduceAdd, Int.reduceSub, Int.reduceMul, Int.reduceNeg, Int.reduceLT, Int.reduceLE, Int.reduceEq, pick_z, pick_1, pick_2, show ¬ ((x : Int) < 0) by omega, show ¬ ((p : Int) ≤ x) by omega]
    exact ⟨_, rfl⟩
  · rintro st ⟨j, rfl⟩
    simp -implicitDefEqProofs only [getR_z, getR_s, get_z, get_s, set_z, set_s, bind_ok, bind_er, bindL_ok, bindL_er, lbind_ok, lbind_er, lbindL_ok, lbindL_er, bindO_ok, bindO_er, lbindO_ok, lbindO_er, obind_nx, obind_rt, obind_bk, obind_ct, obind_er, ofO_some, calm_ok, outD_nx, outD_rt, outD_er, outI_nx, outI_er, kind0, kind1, kind2_int, kind2_bl, kind2_str, kind2_non, kind2_er, toL_ok, onB_t, onB_f, onO_t, onO_f, onB_dec, onO_dec, onB_not, onO_not, notR_bl, evE_var, evE_non, evE_bl, evE_int, evE_str, evE_glo, evE_bin, evE_neg, evE_cmp, evE_isc, evE_chn, evE_and, evE_or, evE_not, evE_ite, evE_lst, evE_tup, evE_idx, evE_slc, isOm, slc_tt, slc_tf, slc_ft, slc_ff, partR_int, evE_att, attR_obj, attR_exn, evE_prp, evE_call, evE_meth, evE_make, evE_blt, evE_lsr, evE_bm, bmR_str, evE_isi, isiR, isiD, lstR_some, onSt_some, keepL_dec, keepL_t, keepL_f, keepL_not, evE_cmpr, evE_cmpi, evEs_nil, evEs_cons, evI_seq, seqR_lst, seqR_tup, seqR_str, evI_rng1, evI_rng2, evI_rng3, evI_rev, revR_lst, revR_tup, evI_zip, zipR_lst, evI_enm, evSs_nil, evSs_cons, evS_asg, evS_asgT, tupO_2, tupO_3, evS_par, onI_int, onP_some, evS_sti, evS_swp, evS_stf, augO_add, augO_sub, onV_z, onV_s, onL_z, onL_s, evS_aug, evS_app, evS_ext, evS_pop, evS_exp, evS_ifs, evS_whl, evS_forr, evS_ret, evS_brk, evS_cnt, evS_pas, evS_rse, evS_tri, triO_nx, triO_rt, triO_bk, triO_ct, triO_er, evHs_nil, bindP_nm, bindP_tp2, wipe_nm, wipe_tp2, bin_add, bin_sub, cmp_eq, cmp_ne, cmp_lt, cmp_le, cmp_gt, cmp_ge, cmp_eqS, cmp_neS, isD_n, isD_nn, isD_t, isD_nt, isD_f, isD_nf, isN_int, isN_non, isN_lst, isN_tup, isN_obj, isN_str, DL.neg_int, blt_len, blt_lenT, blt_abs, blt_int, blt_intB, blt_max, blt_min, blt_list, blt_listT, blt_tuple, fieldOf_cons, fieldOf_nil, setField_nil, setField_cons, idx_lst, idx_tup, ↓reduceIte, reduceCtorEq, List.map_cons, List.map_nil, List.cons_append, List.nil_append, List.replicate, List.length_cons, List.length_nil, decide_true, decide_false, Bool.not_true, Bool.not_false, onS_some, nD, Nat.reduceEqDiff, Nat.reduceAdd, Nat.reduceSub, Nat.reduceMul, Nat.reduceLT, Nat.reduceLeDiff, Int.cast_ofNat_Int, Int.reduceAdd, Int.reduceSub, Int.reduceMul, Int.reduceNeg, Int.reduceLT, Int.reduceLE, Int.reduceEq, pick_z, pick_1, pick_2, hir]
    rfl
def fD (p : Nat) (m : List Nat) (o : Nat) : D := .obj 21 [(98, nD p), (99, .tup (m.map nD)), (100, nD (m.length - 1)), (101, nD o)]
theorem sp_field {p : Nat} {m : List Nat} (h : fieldOk p m = true) : TT.fn 5 [nD p, .tup (m.map nD)] = .ok (fD p m (p ^ (m.length - 1))) := by
  simp only [fieldOk, Bool.and_eq_true, decide_eq_true_eq, List.all_eq_true] at h
  obtain ⟨⟨⟨⟨⟨⟨⟨h1, h2⟩, h3⟩, h4⟩, h5⟩, h6⟩, h7⟩, h8⟩ := h
  have hp : 0 < p := by
    simp only [primeOk, Bool.and_eq_true, decide_eq_true_eq] at h1; omega
  have hip := sp_is_prime h1 h2
  have him := sp_is_modulus hp h2 h3 h4 h5 h6 h7 h8
  have hpw := sp_int_power (b := p) (intOk_of (by omega) (by omega)) (e := m.length - 1) (by omega)
  have hc : (p : Int) ^ (m.length - 1) = ((p ^ (m.length - 1) : Nat) : Int) := by push_cast; rfl
  rw [hc] at hpw
  simp only [nD] at hip him hpw
  have e1 : (m.length : Int) - 1 = ((m.length - 1 : Nat) : Int) := by omega
  rw [fx_Field___init__]
  refine di_eq rfl ?_
  simp -implicitDefEqProofs only [getR_z, getR_s, get_z, get_s, set_z, set_s, bind_ok, bind_er, bindL_ok, bindL_er, lbind_ok, lbind_er, lbindL_ok, lbindL_er, bindO_ok, bindO_er, lbindO_ok, lbindO_er, obind_nx, obind_rt, obind_bk, obind_ct, obind_er, ofO_some, calm_ok, outD_nx, outD_rt, outD_er, outI_nx, outI_er, kind0, kind1, kind2_int, kind2_bl, kind2_str, kind2_non, kind2_er, toL_ok, onB_t, onB_f, onO_t, onO_f, onB_dec, onO_dec, onB_not, onO_not, notR_bl, evE_var, evE_non, evE_bl, evE_int, evE_str, evE_glo, evE_bin, evE_neg, evE_cmp, evE_isc, evE_chn, evE_and, evE_or, evE_not, evE_ite, evE_lst, evE_tup, evE_idx, evE_slc, isOm, slc_tt, slc_tf, slc_ft, slc_ff, partR_int, evE_att, attR_obj, attR_exn, evE_prp, evE_call, evE_meth, evE_make, evE_blt, evE_lsr, evE_bm, bmR_str, evE_isi, isiR, isiD, lstR_some, onSt_some, keepL_dec, keepL_t, keepL_f, keepL_not, evE_cmpr, evE_cmpi, evEs_nil, evEs_cons, evI_seq, seqR_lst, seqR_tup, seqR_str, evI_rng1, evI_rng2, evI_rng3, evI_rev, revR_lst, revR_tup, evI_zip, zipR_lst, evI_enm, evSs_nil, evSs_cons, evS_asg, evS_asgT, tupO_2, tupO_3, evS_par, onI_int, onP_some, evS_sti, evS_swp, evS_stf, augO_add, augO_sub, onV_z, onV_s, onL_z, onL_s, evS_aug, evS_app, evS_ext, evS_pop, evS_exp, evS_ifs, evS_whl, evS_forr, evS_ret, evS_brk, evS_cnt, evS_pas, evS_rse, evS_tri, triO_nx, triO_rt, triO_bk, triO_ct, triO_er, evHs_nil, bindP_nm, bindP_tp2, wipe_nm, wipe_tp2, bin_add, bin_sub, cmp_eq, cmp_ne, cmp_lt, cmp_le, cmp_gt, cmp_ge, cmp_eqS, cmp_neS, isD_n, isD_nn, isD_t, isD_nt, isD_f, isD_nf, isN_int, isN_non, isN_lst, isN_tup, isN_obj, isN_str, DL.neg_int, blt_len, blt_lenT, blt_abs, blt_int, blt_intB, blt_max, blt_min, blt_list, blt_listT, blt_tuple, fieldOf_cons, fieldOf_nil, setField_nil, setField_cons, idx_lst, idx_tup, ↓reduceIte, reduceCtorEq, List.map_cons, List.map_nil, List.cons_append, List.nil_append, List.replicate, List.length_cons, List.length_nil, decide_true, decide_false, Bool.not_true, Bool.not_false, onS_some, nD, Nat.reduceEqDiff, Nat.reduceAdd, Nat.reduceSub, Nat.reduceMul, Nat.reduceLT, Nat.reduceLeDiff, Int.cast_ofNat_Int, Int.reduceAdd, Int.reduceSub, Int.reduceMul, Int.reduceNeg, Int.reduceLT, Int.reduceLE, Int.reduceEq, pick_z, pick_1, pick_2, show ¬ ((31 : Int) < p) by omega, hip, him, stfO_z, List.length_map, e1, hpw]
  rfl
end Lw
end

section
set_option linter.all false
set_option maxRecDepth 1000000
set_option maxHeartbeats 1000000
set_option Elab.async false
/-! PLt: numbers read. -/
namespace Lw
open PySem DL
theorem rd_ok : allN (fun n => isInt n (TT.fn 318 [.str (intText n)])) 256 = true := by kernel_rfl
theorem sp_read_number {n : Nat} (h : n < 256) : TT.fn 318 [.str ⟨(tn n).toArray⟩] = .ok (.int n) := by
  rw [tn_str]; exact isInt_eq (allN_at rd_ok n h)
theorem map_read {ns : List Nat} (h : ∀ n ∈ ns, n < 256) : mapL (fun d => toL (TT.fn 318 [d])) ((ns.map tn).map fun l => .str ⟨l.toArray⟩) = some (ns.map nD) := by
  rw [List.map_map]
  refine mapL_map fun n hn => ?_
  simp -implicitDefEqProofs only [getR_z, getR_s, get_z, get_s, set_z, set_s, bind_ok, bind_er, bindL_ok, bindL_er, lbind_ok, lbind_er, lbindL_ok, lbindL_er, bindO_ok, bindO_er, lbindO_ok, lbindO_er, obind_nx, obind_rt, obind_bk, obind_ct, obind_er, ofO_some, calm_ok, outD_nx, outD_rt, outD_er, outI_nx, outI_er, kind0, kind1, kind2_int, kind2_bl, kind2_str, kind2_non, kind2_er, toL_ok, onB_t, onB_f, onO_t, onO_f, onB_dec, onO_dec, onB_not, onO_not, notR_bl, evE_var, evE_non, evE_bl, evE_int, evE_str, evE_glo, evE_bin, evE_neg, evE_cmp, evE_isc, evE_chn, evE_and, evE_or, evE_not, evE_ite, evE_lst, evE_tup, evE_idx, evE_slc, isOm, slc_tt, slc_tf, slc_ft, slc_ff, partR_int, evE_att, attR_obj, attR_exn, evE_prp, evE_call, evE_meth, evE_make, evE_blt, evE_lsr, evE_bm, bmR_str, evE_isi, isiR, isiD, lstR_some, onSt_some, keepL_dec, keepL_t, keepL_f, keepL_not, evE_cmpr, evE_cmpi, evEs_nil, evEs_cons, evI_seq, seqR_lst, seqR_tup, seqR_str, evI_rng1, evI_rng2, evI_rng3, evI_rev, revR_lst, revR_tup, evI_zip, zipR_lst, evI_enm, evSs_nil, evSs_cons, evS_asg, evS_asgT, tupO_2, tupO_3, evS_par, onI_int, onP_some, evS_sti, evS_swp, evS_stf, augO_add, augO_sub, onV_z, onV_s, onL_z, onL_s, evS_aug, evS_app, evS_ext, evS_pop, evS_exp, evS_ifs, evS_whl, evS_forr, evS_ret, evS_brk, evS_cnt, evS_pas, evS_rse, evS_tri, triO_nx, triO_rt, triO_bk, triO_ct, triO_er, evHs_nil, bindP_nm, bindP_tp2, wipe_nm, wipe_tp2, bin_add, bin_sub, cmp_eq, cmp_ne, cmp_lt, cmp_le, cmp_gt, cmp_ge, cmp_eqS, cmp_neS, isD_n, isD_nn, isD_t, isD_nt, isD_f, isD_nf, isN_int, isN_non, isN_lst, isN_tup, isN_obj, isN_str, DL.neg_int, blt_len, blt_lenT, blt_abs, blt_int, blt_intB, blt_max, blt_min, blt_list, blt_listT, blt_tuple, fieldOf_cons, fieldOf_nil, setField_nil, setField_cons, idx_lst, idx_tup, ↓reduceIte, reduceCtorEq, List.map_cons, List.map_nil, List.cons_append, List.nil_append, List.replicate, List.length_cons, List.length_nil, decide_true, decide_false, Bool.not_true, Bool.not_false, onS_some, nD, Nat.reduceEqDiff, Nat.reduceAdd, Nat.reduceSub, Nat.reduceMul, Nat.reduceLT, Nat.reduceLeDiff, Int.cast_ofNat_Int, Int.reduceAdd, Int.reduceSub, Int.reduceMul, Int.reduceNeg, Int.reduceLT, Int.reduceLE, Int.reduceEq, pick_z, pick_1, pick_2, Function.comp, sp_read_number (h n hn)]
theorem sp_read_line {ns : List Nat} {w : List Nat} (hw : w.length ≤ 10) (hw1 : 32 ∉ w) (hl : ns.length ≤ 300) (h : ∀ n ∈ ns, n < 256) : TT.fn 319 [.str (ln (w :: ns.map tn)), .str ⟨w.toArray⟩] = .ok (.lst (ns.map nD)) := by
  have hs : bmD .split (.str (ln (w :: ns.map tn))) [.str ⟨#[32]⟩] = some (.lst ((w :: ns.map tn).map fun l => .str ⟨l.toArray⟩)) := by
    refine split_D (by decide) (by simp) ?_ ?_
    · intro l hl
      rcases List.mem_cons.mp hl with e | e
      · rw [e]; exact hw1
      · obtain ⟨n, hn, rfl⟩ := List.mem_map.mp e
        exact tn_32 (by have := h n hn; omega)
    · have : (joinAt [32] (w :: ns.map tn)).length ≤ (w :: ns.map tn).length * ([32].length + 10) := join_len _ fun l hl => by
        rcases List.mem_cons.mp hl with e | e
        · rw [e]; exact hw
        · obtain ⟨n, hn, rfl⟩ := List.mem_map.mp e
          have := tn_len (n := n) (by have := h n hn; omega); omega
      simp at this; rw [big_eq]; omega
  rw [fx_read_line]
  refine df_eq rfl ?_
  have hd : ((w :: ns.map tn).map fun l => D.str ⟨l.toArray⟩).drop 1 = (ns.map tn).map fun l => D.str ⟨l.toArray⟩ := rfl
  have hc : cut ((w :: ns.map tn).map fun l => D.str ⟨l.toArray⟩) (some 1) none = (ns.map tn).map fun l => D.str ⟨l.toArray⟩ := by rw [← hd]; exact cut_lo (k := 1)
  have hp : pick ((w :: ns.map tn).map fun l => D.str ⟨l.toArray⟩) 0 = some (.str ⟨w.toArray⟩) := pick_z
  have hb : ((ns.map tn).map fun l => D.str ⟨l.toArray⟩).length ≤ big := by simp [big_eq]; omega
  simp only [List.map_cons] at hs hc hp
  simp -implicitDefEqProofs only [getR_z, getR_s, get_z, get_s, set_z, set_s, bind_ok, bind_er, bindL_ok, bindL_er, lbind_ok, lbind_er, lbindL_ok, lbindL_er, bindO_ok, bindO_er, lbindO_ok, lbindO_er, obind_nx, obind_rt, obind_bk, obind_ct, obind_er, ofO_some, calm_ok, outD_nx, outD_rt, outD_er, outI_nx, outI_er, kind0, kind1, kind2_int, kind2_bl, kind2_str, kind2_non, kind2_er, toL_ok, onB_t, onB_f, onO_t, onO_f, onB_dec, onO_dec, onB_not, onO_not, notR_bl, evE_var, evE_non, evE_bl, evE_int, evE_str, evE_glo, evE_bin, evE_neg, evE_cmp, evE_isc, evE_chn, evE_and, evE_or, evE_not, evE_ite, evE_lst, evE_tup, evE_idx, evE_slc, isOm, slc_tt, slc_tf, slc_ft, slc_ff, partR_int, evE_att, attR_obj, attR_exn, evE_prp, evE_call, evE_meth, evE_make, evE_blt, evE_lsr, evE_bm, bmR_str, evE_isi, isiR, isiD, lstR_some, onSt_some, keepL_dec, keepL_t, keepL_f, keepL_not, evE_cmpr, evE_cmpi, evEs_nil, evEs_cons, evI_seq, seqR_lst, seqR_tup, seqR_str, evI_rng1, evI_rng2, evI_rng3, evI_rev, revR_lst, revR_tup, evI_zip, zipR_lst, evI_enm, evSs_nil, evSs_cons, evS_asg, evS_asgT, tupO_2, tupO_3, evS_par, onI_int, onP_some, evS_sti, evS_swp, evS_stf, augO_add, augO_sub, onV_z, onV_s, onL_z, onL_s, evS_aug, evS_app, evS_ext, evS_pop, evS_exp, evS_ifs, evS_whl, evS_forr, evS_ret, evS_brk, evS_cnt, evS_pas, evS_rse, evS_tri, triO_nx, triO_rt, triO_bk, triO_ct, triO_er, evHs_nil, bindP_nm, bindP_tp2, wipe_nm, wipe_tp2, bin_add, bin_sub, cmp_eq, cmp_ne, cmp_lt, cmp_le, cmp_gt, cmp_ge, cmp_eqS, cmp_neS, isD_n, isD_nn, isD_t, isD_nt, isD_f, isD_nf, isN_int, isN_non, isN_lst, isN_tup, isN_obj, isN_str, DL.neg_int, blt_len, blt_lenT, blt_abs, blt_int, blt_intB, blt_max, blt_min, blt_list, blt_listT, blt_tuple, fieldOf_cons, fieldOf_nil, setField_nil, setField_cons, idx_lst, idx_tup, ↓reduceIte, reduceCtorEq, List.map_cons, List.map_nil, List.cons_append, List.nil_append, List.replicate, List.length_cons, List.length_nil, decide_true, decide_false, Bool.not_true, Bool.not_false, onS_some, nD, Nat.reduceEqDiff, Nat.reduceAdd, Nat.reduceSub, Nat.reduceMul, Nat.reduceLT, Nat.reduceLeDiff, Int.cast_ofNat_Int, Int.reduceAdd, Int.reduceSub, Int.reduceMul, Int.reduceNeg, Int.reduceLT, Int.reduceLE, Int.reduceEq, pick_z, pick_1, pick_2, ofs_sp, hs, hp, slc_lst, hc, hb, map_read h, cmp_in_non]
  rfl
theorem ofs_field : Str.ofString "field" = ⟨[102, 105, 101, 108, 100].toArray⟩ := by decide +kernel
/-- a field's line -/
def fieldL (p : Nat) (m : List Nat) : List (List Nat) := [102, 105, 101, 108, 100] :: (p :: m).map tn
theorem sp_read_field {p : Nat} {m : List Nat} {d : D} (hm : 1 ≤ m.length) (hm2 : m.length ≤ 20) (h : ∀ n ∈ p :: m, n < 256) (hf : TT.fn 5 [nD p, .tup (m.map nD)] = .ok d) : TT.fn 320 [.str (ln (fieldL p m))] = .ok d := by
  have hl := sp_read_line (ns := p :: m) (w := [102, 105, 101, 108, 100]) (by decide) (by decide) (by simp; omega) h
  rw [fx_read_field]
  refine df_eq rfl ?_
  have hc : cut (nD p :: m.map nD) (some 1) none = m.map nD := cut_lo (xs := nD p :: m.map nD) (k := 1)
  have hlt : ¬ (((m.length + 1 : Nat) : Int) < 2) := by omega
  rw [fieldL]
  simp only [List.map_cons] at hl
  simp only [nD] at hf hc hl
  simp -implicitDefEqProofs only [getR_z, getR_s, get_z, get_s, set_z, set_s, bind_ok, bind_er, bindL_ok, bindL_er, lbind_ok, lbind_er, lbindL_ok, lbindL_er, bindO_ok, bindO_er, lbindO_ok, lbindO_er, obind_nx, obind_rt, obind_bk, obind_ct, obind_er, ofO_some, calm_ok, outD_nx, outD_rt, outD_er, outI_nx, outI_er, kind0, kind1, kind2_int, kind2_bl, kind2_str, kind2_non, kind2_er, toL_ok, onB_t, onB_f, onO_t, onO_f, onB_dec, onO_dec, onB_not, onO_not, notR_bl, evE_var, evE_non, evE_bl, evE_int, evE_str, evE_glo, evE_bin, evE_neg, evE_cmp, evE_isc, evE_chn, evE_and, evE_or, evE_not, evE_ite, evE_lst, evE_tup, evE_idx, evE_slc, isOm, slc_tt, slc_tf, slc_ft, slc_ff, partR_int, evE_att, attR_obj, attR_exn, evE_prp, evE_call, evE_meth, evE_make, evE_blt, evE_lsr, evE_bm, bmR_str, evE_isi, isiR, isiD, lstR_some, onSt_some, keepL_dec, keepL_t, keepL_f, keepL_not, evE_cmpr, evE_cmpi, evEs_nil, evEs_cons, evI_seq, seqR_lst, seqR_tup, seqR_str, evI_rng1, evI_rng2, evI_rng3, evI_rev, revR_lst, revR_tup, evI_zip, zipR_lst, evI_enm, evSs_nil, evSs_cons, evS_asg, evS_asgT, tupO_2, tupO_3, evS_par, onI_int, onP_some, evS_sti, evS_swp, evS_stf, augO_add, augO_sub, onV_z, onV_s, onL_z, onL_s, evS_aug, evS_app, evS_ext, evS_pop, evS_exp, evS_ifs, evS_whl, evS_forr, evS_ret, evS_brk, evS_cnt, evS_pas, evS_rse, evS_tri, triO_nx, triO_rt, triO_bk, triO_ct, triO_er, evHs_nil, bindP_nm, bindP_tp2, wipe_nm, wipe_tp2, bin_add, bin_sub, cmp_eq, cmp_ne, cmp_lt, cmp_le, cmp_gt, cmp_ge, cmp_eqS, cmp_neS, isD_n, isD_nn, isD_t, isD_nt, isD_f, isD_nf, isN_int, isN_non, isN_lst, isN_tup, isN_obj, isN_str, DL.neg_int, blt_len, blt_lenT, blt_abs, blt_int, blt_intB, blt_max, blt_min, blt_list, blt_listT, blt_tuple, fieldOf_cons, fieldOf_nil, setField_nil, setField_cons, idx_lst, idx_tup, ↓reduceIte, reduceCtorEq, List.map_cons, List.map_nil, List.cons_append, List.nil_append, List.replicate, List.length_cons, List.length_nil, decide_true, decide_false, Bool.not_true, Bool.not_false, onS_some, nD, Nat.reduceEqDiff, Nat.reduceAdd, Nat.reduceSub, Nat.reduceMul, Nat.reduceLT, Nat.reduceLeDiff, Int.cast_ofNat_Int, Int.reduceAdd, Int.reduceSub, Int.reduceMul, Int.reduceNeg, Int.reduceLT, Int.reduceLE, Int.reduceEq, pick_z, pick_1, pick_2, ofs_field, hl, List.length_map, slc_lst, hc, hlt, makeR_of in_Field, hf]
  rfl
end Lw
end

section
set_option linter.all false
set_option maxRecDepth 1000000
set_option maxHeartbeats 1000000
set_option Elab.async false
/-! PLt2: words, fields written. -/
namespace Lw
open PySem DL
def okO (m : Nat) (o : Option Nat) : Prop := ∀ n, o = some n → n < m
theorem sp_format_word {w : List (Option Nat)} (hl : w.length ≤ 1000) (h : ∀ o ∈ w, okO 1000 o) : TT.fn 316 [.lst (w.map eO)] = .ok (.str (ln (w.map tx))) := by
  rw [fx_format_word]
  refine df_eq rfl ?_
  simp -implicitDefEqProofs only [getR_z, getR_s, get_z, get_s, set_z, set_s, bind_ok, bind_er, bindL_ok, bindL_er, lbind_ok, lbind_er, lbindL_ok, lbindL_er, bindO_ok, bindO_er, lbindO_ok, lbindO_er, obind_nx, obind_rt, obind_bk, obind_ct, obind_er, ofO_some, calm_ok, outD_nx, outD_rt, outD_er, outI_nx, outI_er, kind0, kind1, kind2_int, kind2_bl, kind2_str, kind2_non, kind2_er, toL_ok, onB_t, onB_f, onO_t, onO_f, onB_dec, onO_dec, onB_not, onO_not, notR_bl, evE_var, evE_non, evE_bl, evE_int, evE_str, evE_glo, evE_bin, evE_neg, evE_cmp, evE_isc, evE_chn, evE_and, evE_or, evE_not, evE_ite, evE_lst, evE_tup, evE_idx, evE_slc, isOm, slc_tt, slc_tf, slc_ft, slc_ff, partR_int, evE_att, attR_obj, attR_exn, evE_prp, evE_call, evE_meth, evE_make, evE_blt, evE_lsr, evE_bm, bmR_str, evE_isi, isiR, isiD, lstR_some, onSt_some, keepL_dec, keepL_t, keepL_f, keepL_not, evE_cmpr, evE_cmpi, evEs_nil, evEs_cons, evI_seq, seqR_lst, seqR_tup, seqR_str, evI_rng1, evI_rng2, evI_rng3, evI_rev, revR_lst, revR_tup, evI_zip, zipR_lst, evI_enm, evSs_nil, evSs_cons, evS_asg, evS_asgT, tupO_2, tupO_3, evS_par, onI_int, onP_some, evS_sti, evS_swp, evS_stf, augO_add, augO_sub, onV_z, onV_s, onL_z, onL_s, evS_aug, evS_app, evS_ext, evS_pop, evS_exp, evS_ifs, evS_whl, evS_forr, evS_ret, evS_brk, evS_cnt, evS_pas, evS_rse, evS_tri, triO_nx, triO_rt, triO_bk, triO_ct, triO_er, evHs_nil, bindP_nm, bindP_tp2, wipe_nm, wipe_tp2, bin_add, bin_sub, cmp_eq, cmp_ne, cmp_lt, cmp_le, cmp_gt, cmp_ge, cmp_eqS, cmp_neS, isD_n, isD_nn, isD_t, isD_nt, isD_f, isD_nf, isN_int, isN_non, isN_lst, isN_tup, isN_obj, isN_str, DL.neg_int, blt_len, blt_lenT, blt_abs, blt_int, blt_intB, blt_max, blt_min, blt_list, blt_listT, blt_tuple, fieldOf_cons, fieldOf_nil, setField_nil, setField_cons, idx_lst, idx_tup, ↓reduceIte, reduceCtorEq, List.map_cons, List.map_nil, List.cons_append, List.nil_append, List.replicate, List.length_cons, List.length_nil, decide_true, decide_false, Bool.not_true, Bool.not_false, onS_some, nD, Nat.reduceEqDiff, Nat.reduceAdd, Nat.reduceSub, Nat.reduceMul, Nat.reduceLT, Nat.reduceLeDiff, Int.cast_ofNat_Int, Int.reduceAdd, Int.reduceSub, Int.reduceMul, Int.reduceNeg, Int.reduceLT, Int.reduceLE, Int.reduceEq, pick_z, pick_1, pick_2]
  refine for_k (fun pre st => ∃ j, st = [some (.lst (w.map eO)), some (.lst (pre.map fun o => .str ⟨(tx o).toArray⟩)), j]) ⟨_, rfl⟩ ?_ ?_
  · rintro pre x post st hp ⟨j, rfl⟩
    have hpl : (pre.map fun o => D.str ⟨(tx o).toArray⟩).length < big := by have := congrArg List.length hp; simp at this; rw [List.length_map, big_eq]; omega
    have hx := h x (by rw [hp]; simp)
    cases x with
    | none =>
      simp -implicitDefEqProofs only [getR_z, getR_s, get_z, get_s, set_z, set_s, bind_ok, bind_er, bindL_ok, bindL_er, lbind_ok, lbind_er, lbindL_ok, lbindL_er, bindO_ok, bindO_er, lbindO_ok, lbindO_er, obind_nx, obind_rt, obind_bk, obind_ct, obind_er, ofO_some, calm_ok, outD_nx, outD_rt, outD_er, outI_nx, outI_er, kind0, kind1, kind2_int, kind2_bl, kind2_str, kind2_non, kind2_er, toL_ok, onB_t, onB_f, onO_t, onO_f, onB_dec, onO_dec, onB_not, onO_not, notR_bl, evE_var, evE_non, evE_bl, evE_int, evE_str, evE_glo, evE_bin, evE_neg, evE_cmp, evE_isc, evE_chn, evE_and, evE_or, evE_not, evE_ite, evE_lst, evE_tup, evE_idx, evE_slc, isOm, slc_tt, slc_tf, slc_ft, slc_ff, partR_int, evE_att, attR_obj, attR_exn, evE_prp, evE_call, evE_meth, evE_make, evE_blt, evE_lsr, evE_bm, bmR_str, evE_isi, isiR, isiD, lstR_some, onSt_some, keepL_dec, keepL_t, keepL_f, keepL_not, evE_cmpr, evE_cmpi, evEs_nil, evEs_cons, evI_seq, seqR_lst, seqR_tup, seqR_str, evI_rng1, evI_rng2, evI_rng3, evI_rev, revR_lst, revR_tup, evI_zip, zipR_lst, evI_enm, evSs_nil, evSs_cons, evS_asg, evS_asgT, tupO_2, tupO_3, evS_par, onI_int, onP_some, evS_sti, evS_swp, evS_stf, augO_add, augO_sub, onV_z, onV_s, onL_z, onL_s, evS_aug, evS_app, evS_ext, evS_pop, evS_exp, evS_ifs, evS_whl, evS_forr, evS_ret, evS_brk, evS_cnt, evS_pas, evS_rse, evS_tri, triO_nx, triO_rt, triO_bk, triO_ct, triO_er, evHs_nil, bindP_nm, bindP_tp2, wipe_nm, wipe_tp2, bin_add, bin_sub, cmp_eq, cmp_ne, cmp_lt, cmp_le, cmp_gt, cmp_ge, cmp_eqS, cmp_neS, isD_n, isD_nn, isD_t, isD_nt, isD_f, isD_nf, isN_int, isN_non, isN_lst, isN_tup, isN_obj, isN_str, DL.neg_int, blt_len, blt_lenT, blt_abs, blt_int, blt_intB, blt_max, blt_min, blt_list, blt_listT, blt_tuple, fieldOf_cons, fieldOf_nil, setField_nil, setField_cons, idx_lst, idx_tup, ↓reduceIte, reduceCtorEq, List.map_cons, List.map_nil, List.cons_append, List.nil_append, List.replicate, List.length_cons, List.length_nil, decide_true, decide_false, Bool.not_true, Bool.not_false, onS_some, nD, Nat.reduceEqDiff, Nat.reduceAdd, Nat.reduceSub, Nat.reduceMul, Nat.reduceLT, Nat.reduceLeDiff, Int.cast_ofNat_Int, Int.reduceAdd, Int.reduceSub, Int.reduceMul, Int.reduceNeg, Int.reduceLT, Int.reduceLE, Int.reduceEq, pick_z, pick_1, pick_2, eO, hpl, show Str.ofString "?" = ⟨[63].toArray⟩ from by decide +kernel]
      exact ⟨_, by rw [map_snoc]; rfl⟩
    | some n =>
      simp -implicitDefEqProofs only [getR_z, getR_s, get_z, get_s, set_z, set_s, bind_ok, bind_er, bindL_ok, bindL_er, lbind_ok, lbind_er, lbindL_ok, lbindL_er, bindO_ok, bindO_er, lbindO_ok, lbindO_er, obind_nx, obind_rt, obind_bk, obind_ct, obind_er, ofO_some, calm_ok, outD_nx, outD_rt, outD_er, outI_nx, outI_er, kind0, kind1, kind2_int, kind2_bl, kind2_str, kind2_non, kind2_er, toL_ok, onB_t, onB_f, onO_t, onO_f, onB_dec, onO_dec, onB_not, onO_not, notR_bl, evE_var, evE_non, evE_bl, evE_int, evE_str, evE_glo, evE_bin, evE_neg, evE_cmp, evE_isc, evE_chn, evE_and, evE_or, evE_not, evE_ite, evE_lst, evE_tup, evE_idx, evE_slc, isOm, slc_tt, slc_tf, slc_ft, slc_ff, partR_int, evE_att, attR_obj, attR_exn, evE_prp, evE_call, evE_meth, evE_make, evE_blt, evE_lsr, evE_bm, bmR_str, evE_isi, isiR, isiD, lstR_some, onSt_some, keepL_dec, keepL_t, keepL_f, keepL_not, evE_cmpr, evE_cmpi, evEs_nil, evEs_cons, evI_seq, seqR_lst, seqR_tup, seqR_str, evI_rng1, evI_rng2, evI_rng3, evI_rev, revR_lst, revR_tup, evI_zip, zipR_lst, evI_enm, evSs_nil, evSs_cons, evS_asg, evS_asgT, tupO_2, tupO_3, evS_par, onI_int, onP_some, evS_sti, evS_swp, evS_stf, augO_add, augO_sub, onV_z, onV_s, onL_z, onL_s, evS_aug, evS_app, evS_ext, evS_pop, evS_exp, evS_ifs, evS_whl, evS_forr, evS_ret, evS_brk, evS_cnt, evS_pas, evS_rse, evS_tri, triO_nx, triO_rt, triO_bk, triO_ct, triO_er, evHs_nil, bindP_nm, bindP_tp2, wipe_nm, wipe_tp2, bin_add, bin_sub, cmp_eq, cmp_ne, cmp_lt, cmp_le, cmp_gt, cmp_ge, cmp_eqS, cmp_neS, isD_n, isD_nn, isD_t, isD_nt, isD_f, isD_nf, isN_int, isN_non, isN_lst, isN_tup, isN_obj, isN_str, DL.neg_int, blt_len, blt_lenT, blt_abs, blt_int, blt_intB, blt_max, blt_min, blt_list, blt_listT, blt_tuple, fieldOf_cons, fieldOf_nil, setField_nil, setField_cons, idx_lst, idx_tup, ↓reduceIte, reduceCtorEq, List.map_cons, List.map_nil, List.cons_append, List.nil_append, List.replicate, List.length_cons, List.length_nil, decide_true, decide_false, Bool.not_true, Bool.not_false, onS_some, nD, Nat.reduceEqDiff, Nat.reduceAdd, Nat.reduceSub, Nat.reduceMul, Nat.reduceLT, Nat.reduceLeDiff, Int.cast_ofNat_Int, Int.reduceAdd, Int.reduceSub, Int.reduceMul, Int.reduceNeg, Int.reduceLT, Int.reduceLE, Int.reduceEq, pick_z, pick_1, pick_2, eO, hpl, str_int (hx n rfl)]
      exact ⟨_, by rw [map_snoc, tx_some]⟩
  · rintro st ⟨j, rfl⟩
    simp -implicitDefEqProofs only [getR_z, getR_s, get_z, get_s, set_z, set_s, bind_ok, bind_er, bindL_ok, bindL_er, lbind_ok, lbind_er, lbindL_ok, lbindL_er, bindO_ok, bindO_er, lbindO_ok, lbindO_er, obind_nx, obind_rt, obind_bk, obind_ct, obind_er, ofO_some, calm_ok, outD_nx, outD_rt, outD_er, outI_nx, outI_er, kind0, kind1, kind2_int, kind2_bl, kind2_str, kind2_non, kind2_er, toL_ok, onB_t, onB_f, onO_t, onO_f, onB_dec, onO_dec, onB_not, onO_not, notR_bl, evE_var, evE_non, evE_bl, evE_int, evE_str, evE_glo, evE_bin, evE_neg, evE_cmp, evE_isc, evE_chn, evE_and, evE_or, evE_not, evE_ite, evE_lst, evE_tup, evE_idx, evE_slc, isOm, slc_tt, slc_tf, slc_ft, slc_ff, partR_int, evE_att, attR_obj, attR_exn, evE_prp, evE_call, evE_meth, evE_make, evE_blt, evE_lsr, evE_bm, bmR_str, evE_isi, isiR, isiD, lstR_some, onSt_some, keepL_dec, keepL_t, keepL_f, keepL_not, evE_cmpr, evE_cmpi, evEs_nil, evEs_cons, evI_seq, seqR_lst, seqR_tup, seqR_str, evI_rng1, evI_rng2, evI_rng3, evI_rev, revR_lst, revR_tup, evI_zip, zipR_lst, evI_enm, evSs_nil, evSs_cons, evS_asg, evS_asgT, tupO_2, tupO_3, evS_par, onI_int, onP_some, evS_sti, evS_swp, evS_stf, augO_add, augO_sub, onV_z, onV_s, onL_z, onL_s, evS_aug, evS_app, evS_ext, evS_pop, evS_exp, evS_ifs, evS_whl, evS_forr, evS_ret, evS_brk, evS_cnt, evS_pas, evS_rse, evS_tri, triO_nx, triO_rt, triO_bk, triO_ct, triO_er, evHs_nil, bindP_nm, bindP_tp2, wipe_nm, wipe_tp2, bin_add, bin_sub, cmp_eq, cmp_ne, cmp_lt, cmp_le, cmp_gt, cmp_ge, cmp_eqS, cmp_neS, isD_n, isD_nn, isD_t, isD_nt, isD_f, isD_nf, isN_int, isN_non, isN_lst, isN_tup, isN_obj, isN_str, DL.neg_int, blt_len, blt_lenT, blt_abs, blt_int, blt_intB, blt_max, blt_min, blt_list, blt_listT, blt_tuple, fieldOf_cons, fieldOf_nil, setField_nil, setField_cons, idx_lst, idx_tup, ↓reduceIte, reduceCtorEq, List.map_cons, List.map_nil, List.cons_append, List.nil_append, List.replicate, List.length_cons, List.length_nil, decide_true, decide_false, Bool.not_true, Bool.not_false, onS_some, nD, Nat.reduceEqDiff, Nat.reduceAdd, Nat.reduceSub, Nat.reduceMul, Nat.reduceLT, Nat.reduceLeDiff, Int.cast_ofNat_Int, Int.reduceAdd, Int.reduceSub, Int.reduceMul, Int.reduceNeg, Int.reduceLT, Int.reduceLE, Int.reduceEq, pick_z, pick_1, pick_2, ofs_sp, join_D (c := 32) (f := tx) (show w.length ≤ 5000 by omega) (fun x hx => by have := tx_len (h x hx); omega)]
    rfl
end Lw
end

section
set_option linter.all false
set_option maxRecDepth 1000000
set_option maxHeartbeats 1000000
set_option Elab.async false
/-! PLt3: parse_field, parse_word, format_field. -/
namespace Lw
open PySem DL
theorem ofs_fieldsp : Str.ofString "field " = ⟨[102, 105, 101, 108, 100, 32].toArray⟩ := by decide +kernel
theorem line_join (x y : List Nat) (r : List (List Nat)) : (⟨(x ++ [32]).toArray ++ (ln (y :: r)).cps⟩ : Str) = ln (x :: y :: r) := by
  simp [ln, joinAt]
theorem sp_format_field {p : Nat} {m : List Nat} {c : Nat} {d1 d2 : D} (hl : m.length ≤ 20) (h : ∀ n ∈ p :: m, n < 256) : TT.fn 315 [.obj c [(98, nD p), (99, .tup (m.map nD)), (100, d1), (101, d2)]] = .ok (.str (ln (fieldL p m))) := by
  rw [fx_format_field]
  refine df_eq rfl ?_
  simp -implicitDefEqProofs only [getR_z, getR_s, get_z, get_s, set_z, set_s, bind_ok, bind_er, bindL_ok, bindL_er, lbind_ok, lbind_er, lbindL_ok, lbindL_er, bindO_ok, bindO_er, lbindO_ok, lbindO_er, obind_nx, obind_rt, obind_bk, obind_ct, obind_er, ofO_some, calm_ok, outD_nx, outD_rt, outD_er, outI_nx, outI_er, kind0, kind1, kind2_int, kind2_bl, kind2_str, kind2_non, kind2_er, toL_ok, onB_t, onB_f, onO_t, onO_f, onB_dec, onO_dec, onB_not, onO_not, notR_bl, evE_var, evE_non, evE_bl, evE_int, evE_str, evE_glo, evE_bin, evE_neg, evE_cmp, evE_isc, evE_chn, evE_and, evE_or, evE_not, evE_ite, evE_lst, evE_tup, evE_idx, evE_slc, isOm, slc_tt, slc_tf, slc_ft, slc_ff, partR_int, evE_att, attR_obj, attR_exn, evE_prp, evE_call, evE_meth, evE_make, evE_blt, evE_lsr, evE_bm, bmR_str, evE_isi, isiR, isiD, lstR_some, onSt_some, keepL_dec, keepL_t, keepL_f, keepL_not, evE_cmpr, evE_cmpi, evEs_nil, evEs_cons, evI_seq, seqR_lst, seqR_tup, seqR_str, evI_rng1, evI_rng2, evI_rng3, evI_rev, revR_lst, revR_tup, evI_zip, zipR_lst, evI_enm, evSs_nil, evSs_cons, evS_asg, evS_asgT, tupO_2, tupO_3, evS_par, onI_int, onP_some, evS_sti, evS_swp, evS_stf, augO_add, augO_sub, onV_z, onV_s, onL_z, onL_s, evS_aug, evS_app, evS_ext, evS_pop, evS_exp, evS_ifs, evS_whl, evS_forr, evS_ret, evS_brk, evS_cnt, evS_pas, evS_rse, evS_tri, triO_nx, triO_rt, triO_bk, triO_ct, triO_er, evHs_nil, bindP_nm, bindP_tp2, wipe_nm, wipe_tp2, bin_add, bin_sub, cmp_eq, cmp_ne, cmp_lt, cmp_le, cmp_gt, cmp_ge, cmp_eqS, cmp_neS, isD_n, isD_nn, isD_t, isD_nt, isD_f, isD_nf, isN_int, isN_non, isN_lst, isN_tup, isN_obj, isN_str, DL.neg_int, blt_len, blt_lenT, blt_abs, blt_int, blt_intB, blt_max, blt_min, blt_list, blt_listT, blt_tuple, fieldOf_cons, fieldOf_nil, setField_nil, setField_cons, idx_lst, idx_tup, ↓reduceIte, reduceCtorEq, List.map_cons, List.map_nil, List.cons_append, List.nil_append, List.replicate, List.length_cons, List.length_nil, decide_true, decide_false, Bool.not_true, Bool.not_false, onS_some, nD, Nat.reduceEqDiff, Nat.reduceAdd, Nat.reduceSub, Nat.reduceMul, Nat.reduceLT, Nat.reduceLeDiff, Int.cast_ofNat_Int, Int.reduceAdd, Int.reduceSub, Int.reduceMul, Int.reduceNeg, Int.reduceLT, Int.reduceLE, Int.reduceEq, pick_z, pick_1, pick_2]
  refine for_k (fun pre st => ∃ j, st = [some (.obj c [(98, nD p), (99, .tup (m.map nD)), (100, d1), (101, d2)]), some (.lst ((p :: pre).map nD)), j]) ⟨_, rfl⟩ ?_ ?_
  · rintro pre x post st hp ⟨j, rfl⟩
    have hpl : (pre.map nD).length + 1 < big := by have := congrArg List.length hp; simp at this; rw [List.length_map, big_eq]; omega
    simp -implicitDefEqProofs only [getR_z, getR_s, get_z, get_s, set_z, set_s, bind_ok, bind_er, bindL_ok, bindL_er, lbind_ok, lbind_er, lbindL_ok, lbindL_er, bindO_ok, bindO_er, lbindO_ok, lbindO_er, obind_nx, obind_rt, obind_bk, obind_ct, obind_er, ofO_some, calm_ok, outD_nx, outD_rt, outD_er, outI_nx, outI_er, kind0, kind1, kind2_int, kind2_bl, kind2_str, kind2_non, kind2_er, toL_ok, onB_t, onB_f, onO_t, onO_f, onB_dec, onO_dec, onB_not, onO_not, notR_bl, evE_var, evE_non, evE_bl, evE_int, evE_str, evE_glo, evE_bin, evE_neg, evE_cmp, evE_isc, evE_chn, evE_and, evE_or, evE_not, evE_ite, evE_lst, evE_tup, evE_idx, evE_slc, isOm, slc_tt, slc_tf, slc_ft, slc_ff, partR_int, evE_att, attR_obj, attR_exn, evE_prp, evE_call, evE_meth, evE_make, evE_blt, evE_lsr, evE_bm, bmR_str, evE_isi, isiR, isiD, lstR_some, onSt_some, keepL_dec, keepL_t, keepL_f, keepL_not, evE_cmpr, evE_cmpi, evEs_nil, evEs_cons, evI_seq, seqR_lst, seqR_tup, seqR_str, evI_rng1, evI_rng2, evI_rng3, evI_rev, revR_lst, revR_tup, evI_zip, zipR_lst, evI_enm, evSs_nil, evSs_cons, evS_asg, evS_asgT, tupO_2, tupO_3, evS_par, onI_int, onP_some, evS_sti, evS_swp, evS_stf, augO_add, augO_sub, onV_z, onV_s, onL_z, onL_s, evS_aug, evS_app, evS_ext, evS_pop, evS_exp, evS_ifs, evS_whl, evS_forr, evS_ret, evS_brk, evS_cnt, evS_pas, evS_rse, evS_tri, triO_nx, triO_rt, triO_bk, triO_ct, triO_er, evHs_nil, bindP_nm, bindP_tp2, wipe_nm, wipe_tp2, bin_add, bin_sub, cmp_eq, cmp_ne, cmp_lt, cmp_le, cmp_gt, cmp_ge, cmp_eqS, cmp_neS, isD_n, isD_nn, isD_t, isD_nt, isD_f, isD_nf, isN_int, isN_non, isN_lst, isN_tup, isN_obj, isN_str, DL.neg_int, blt_len, blt_lenT, blt_abs, blt_int, blt_intB, blt_max, blt_min, blt_list, blt_listT, blt_tuple, fieldOf_cons, fieldOf_nil, setField_nil, setField_cons, idx_lst, idx_tup, ↓reduceIte, reduceCtorEq, List.map_cons, List.map_nil, List.cons_append, List.nil_append, List.replicate, List.length_cons, List.length_nil, decide_true, decide_false, Bool.not_true, Bool.not_false, onS_some, nD, Nat.reduceEqDiff, Nat.reduceAdd, Nat.reduceSub, Nat.reduceMul, Nat.reduceLT, Nat.reduceLeDiff, Int.cast_ofNat_Int, Int.reduceAdd, Int.reduceSub, Int.reduceMul, Int.reduceNeg, Int.reduceLT, Int.reduceLE, Int.reduceEq, pick_z, pick_1, pick_2, hpl]
    exact ⟨_, by rw [map_snoc]; rfl⟩
  · rintro st ⟨j, rfl⟩
    have hw : TT.fn 316 [.lst ((p :: m).map nD)] = .ok (.str (ln ((p :: m).map tn))) := by
      have e := sp_format_word (w := (p :: m).map some) (by simp; omega) (by
        intro o ho n hn
        obtain ⟨k, hk, rfl⟩ := List.mem_map.mp ho
        cases hn
        have := h n (by simpa using hk); omega)
      rw [List.map_map, List.map_map] at e
      exact e
    have hs : (ln ((p :: m).map tn)).cps.size ≤ ((p :: m).map tn).length * (1 + 3) := ln_len (fun l hl => by
      obtain ⟨n, hn, rfl⟩ := List.mem_map.mp hl
      exact tn_len (by have := h n hn; omega))
    have hb : (⟨[102, 105, 101, 108, 100, 32].toArray⟩ : Str).cps.size + (ln ((p :: m).map tn)).cps.size ≤ big := by
      simp at hs
      simp [big_eq]; omega
    simp only [List.map_cons, nD] at hw hb
    simp -implicitDefEqProofs only [getR_z, getR_s, get_z, get_s, set_z, set_s, bind_ok, bind_er, bindL_ok, bindL_er, lbind_ok, lbind_er, lbindL_ok, lbindL_er, bindO_ok, bindO_er, lbindO_ok, lbindO_er, obind_nx, obind_rt, obind_bk, obind_ct, obind_er, ofO_some, calm_ok, outD_nx, outD_rt, outD_er, outI_nx, outI_er, kind0, kind1, kind2_int, kind2_bl, kind2_str, kind2_non, kind2_er, toL_ok, onB_t, onB_f, onO_t, onO_f, onB_dec, onO_dec, onB_not, onO_not, notR_bl, evE_var, evE_non, evE_bl, evE_int, evE_str, evE_glo, evE_bin, evE_neg, evE_cmp, evE_isc, evE_chn, evE_and, evE_or, evE_not, evE_ite, evE_lst, evE_tup, evE_idx, evE_slc, isOm, slc_tt, slc_tf, slc_ft, slc_ff, partR_int, evE_att, attR_obj, attR_exn, evE_prp, evE_call, evE_meth, evE_make, evE_blt, evE_lsr, evE_bm, bmR_str, evE_isi, isiR, isiD, lstR_some, onSt_some, keepL_dec, keepL_t, keepL_f, keepL_not, evE_cmpr, evE_cmpi, evEs_nil, evEs_cons, evI_seq, seqR_lst, seqR_tup, seqR_str, evI_rng1, evI_rng2, evI_rng3, evI_rev, revR_lst, revR_tup, evI_zip, zipR_lst, evI_enm, evSs_nil, evSs_cons, evS_asg, evS_asgT, tupO_2, tupO_3, evS_par, onI_int, onP_some, evS_sti, evS_swp, evS_stf, augO_add, augO_sub, onV_z, onV_s, onL_z, onL_s, evS_aug, evS_app, evS_ext, evS_pop, evS_exp, evS_ifs, evS_whl, evS_forr, evS_ret, evS_brk, evS_cnt, evS_pas, evS_rse, evS_tri, triO_nx, triO_rt, triO_bk, triO_ct, triO_er, evHs_nil, bindP_nm, bindP_tp2, wipe_nm, wipe_tp2, bin_add, bin_sub, cmp_eq, cmp_ne, cmp_lt, cmp_le, cmp_gt, cmp_ge, cmp_eqS, cmp_neS, isD_n, isD_nn, isD_t, isD_nt, isD_f, isD_nf, isN_int, isN_non, isN_lst, isN_tup, isN_obj, isN_str, DL.neg_int, blt_len, blt_lenT, blt_abs, blt_int, blt_intB, blt_max, blt_min, blt_list, blt_listT, blt_tuple, fieldOf_cons, fieldOf_nil, setField_nil, setField_cons, idx_lst, idx_tup, ↓reduceIte, reduceCtorEq, List.map_cons, List.map_nil, List.cons_append, List.nil_append, List.replicate, List.length_cons, List.length_nil, decide_true, decide_false, Bool.not_true, Bool.not_false, onS_some, nD, Nat.reduceEqDiff, Nat.reduceAdd, Nat.reduceSub, Nat.reduceMul, Nat.reduceLT, Nat.reduceLeDiff, Int.cast_ofNat_Int, Int.reduceAdd, Int.reduceSub, Int.reduceMul, Int.reduceNeg, Int.reduceLT, Int.reduceLE, Int.reduceEq, pick_z, pick_1, pick_2, hw, ofs_fieldsp, bin_addS hb]
    show R.ok (D.str ⟨([102, 105, 101, 108, 100] ++ [32]).toArray ++ (ln (tn p :: m.map tn)).cps⟩) = R.ok (D.str (ln (fieldL p m)))
    rw [line_join]; rfl
theorem sp_parse_field {p : Nat} {m : List Nat} {c : Nat} {fs : List (Nat × D)} (hm : 1 ≤ m.length) (hm2 : m.length ≤ 20) (h : ∀ n ∈ p :: m, n < 256) (hf : TT.fn 5 [nD p, .tup (m.map nD)] = .ok (.obj c fs)) : TT.fn 321 [.str (ln (fieldL p m))] = .ok (.obj c fs) := by
  have hs : bmD .split (.str (ln (fieldL p m))) [.str ⟨#[10]⟩] = some (.lst [.str (ln (fieldL p m))]) := by
    have := split_D (c := 10) (ls := [joinAt [32] (fieldL p m)]) (by decide) (by simp) (by
      intro l hl
      simp only [List.mem_singleton] at hl
      subst hl
      intro hx
      rcases join_mem _ hx with e | ⟨l, hl, e⟩
      · simp at e
      · rcases List.mem_cons.mp hl with r | r
        · subst r; revert e; decide
        · obtain ⟨n, hn, rfl⟩ := List.mem_map.mp r
          exact tn_10 (by have := h n hn; omega) e) (by
      have := join_len (s := [32]) (m := 10) (fieldL p m) (by
        intro l hl
        rcases List.mem_cons.mp hl with r | r
        · subst r; decide
        · obtain ⟨n, hn, rfl⟩ := List.mem_map.mp r
          have := tn_len (n := n) (by have := h n hn; omega)
          omega)
      simp [fieldL] at this
      simp only [joinAt, big_eq, fieldL]
      simp; omega)
    exact this
  have hr := sp_read_field hm hm2 h hf
  rw [fx_parse_field]
  refine df_eq rfl ?_
  simp -implicitDefEqProofs only [getR_z, getR_s, get_z, get_s, set_z, set_s, bind_ok, bind_er, bindL_ok, bindL_er, lbind_ok, lbind_er, lbindL_ok, lbindL_er, bindO_ok, bindO_er, lbindO_ok, lbindO_er, obind_nx, obind_rt, obind_bk, obind_ct, obind_er, ofO_some, calm_ok, outD_nx, outD_rt, outD_er, outI_nx, outI_er, kind0, kind1, kind2_int, kind2_bl, kind2_str, kind2_non, kind2_er, toL_ok, onB_t, onB_f, onO_t, onO_f, onB_dec, onO_dec, onB_not, onO_not, notR_bl, evE_var, evE_non, evE_bl, evE_int, evE_str, evE_glo, evE_bin, evE_neg, evE_cmp, evE_isc, evE_chn, evE_and, evE_or, evE_not, evE_ite, evE_lst, evE_tup, evE_idx, evE_slc, isOm, slc_tt, slc_tf, slc_ft, slc_ff, partR_int, evE_att, attR_obj, attR_exn, evE_prp, evE_call, evE_meth, evE_make, evE_blt, evE_lsr, evE_bm, bmR_str, evE_isi, isiR, isiD, lstR_some, onSt_some, keepL_dec, keepL_t, keepL_f, keepL_not, evE_cmpr, evE_cmpi, evEs_nil, evEs_cons, evI_seq, seqR_lst, seqR_tup, seqR_str, evI_rng1, evI_rng2, evI_rng3, evI_rev, revR_lst, revR_tup, evI_zip, zipR_lst, evI_enm, evSs_nil, evSs_cons, evS_asg, evS_asgT, tupO_2, tupO_3, evS_par, onI_int, onP_some, evS_sti, evS_swp, evS_stf, augO_add, augO_sub, onV_z, onV_s, onL_z, onL_s, evS_aug, evS_app, evS_ext, evS_pop, evS_exp, evS_ifs, evS_whl, evS_forr, evS_ret, evS_brk, evS_cnt, evS_pas, evS_rse, evS_tri, triO_nx, triO_rt, triO_bk, triO_ct, triO_er, evHs_nil, bindP_nm, bindP_tp2, wipe_nm, wipe_tp2, bin_add, bin_sub, cmp_eq, cmp_ne, cmp_lt, cmp_le, cmp_gt, cmp_ge, cmp_eqS, cmp_neS, isD_n, isD_nn, isD_t, isD_nt, isD_f, isD_nf, isN_int, isN_non, isN_lst, isN_tup, isN_obj, isN_str, DL.neg_int, blt_len, blt_lenT, blt_abs, blt_int, blt_intB, blt_max, blt_min, blt_list, blt_listT, blt_tuple, fieldOf_cons, fieldOf_nil, setField_nil, setField_cons, idx_lst, idx_tup, ↓reduceIte, reduceCtorEq, List.map_cons, List.map_nil, List.cons_append, List.nil_append, List.replicate, List.length_cons, List.length_nil, decide_true, decide_false, Bool.not_true, Bool.not_false, onS_some, nD, Nat.reduceEqDiff, Nat.reduceAdd, Nat.reduceSub, Nat.reduceMul, Nat.reduceLT, Nat.reduceLeDiff, Int.cast_ofNat_Int, Int.reduceAdd, Int.reduceSub, Int.reduceMul, Int.reduceNeg, Int.reduceLT, Int.reduceLE, Int.reduceEq, pick_z, pick_1, pick_2, ofs_nl, hs, hr]
  rfl
theorem sp_parse_word {o c : Nat} {d1 d2 d3 : D} {w : List (Option Nat)} (h0 : w ≠ []) (hl : w.length ≤ 255) (ho : o ≤ 256) (h : ∀ x ∈ w, okO o x) : TT.fn 324 [.obj c [(98, d1), (99, d2), (100, d3), (101, nD o)], .str (ln (w.map tx))] = .ok (.lst (w.map eO)) := by
  have h10 : ∀ x ∈ w, okO 1000 x := fun x hx n hn => by have := h x hx n hn; omega
  have hs : bmD .split (.str (ln (w.map tx))) [.str ⟨#[32]⟩] = some (.lst ((w.map tx).map fun l => .str ⟨l.toArray⟩)) := by
    refine split_D (by decide) (by simpa using h0) ?_ ?_
    · intro l hl
      obtain ⟨x, hx, rfl⟩ := List.mem_map.mp hl
      exact tx_32 (h10 x hx)
    · have := join_len (s := [32]) (m := 3) (w.map tx) (fun l hl => by
        obtain ⟨x, hx, rfl⟩ := List.mem_map.mp hl
        exact tx_len (h10 x hx))
      simp at this; rw [big_eq]; omega
  rw [fx_parse_word]
  refine df_eq rfl ?_
  rw [List.map_map] at hs
  simp -implicitDefEqProofs only [getR_z, getR_s, get_z, get_s, set_z, set_s, bind_ok, bind_er, bindL_ok, bindL_er, lbind_ok, lbind_er, lbindL_ok, lbindL_er, bindO_ok, bindO_er, lbindO_ok, lbindO_er, obind_nx, obind_rt, obind_bk, obind_ct, obind_er, ofO_some, calm_ok, outD_nx, outD_rt, outD_er, outI_nx, outI_er, kind0, kind1, kind2_int, kind2_bl, kind2_str, kind2_non, kind2_er, toL_ok, onB_t, onB_f, onO_t, onO_f, onB_dec, onO_dec, onB_not, onO_not, notR_bl, evE_var, evE_non, evE_bl, evE_int, evE_str, evE_glo, evE_bin, evE_neg, evE_cmp, evE_isc, evE_chn, evE_and, evE_or, evE_not, evE_ite, evE_lst, evE_tup, evE_idx, evE_slc, isOm, slc_tt, slc_tf, slc_ft, slc_ff, partR_int, evE_att, attR_obj, attR_exn, evE_prp, evE_call, evE_meth, evE_make, evE_blt, evE_lsr, evE_bm, bmR_str, evE_isi, isiR, isiD, lstR_some, onSt_some, keepL_dec, keepL_t, keepL_f, keepL_not, evE_cmpr, evE_cmpi, evEs_nil, evEs_cons, evI_seq, seqR_lst, seqR_tup, seqR_str, evI_rng1, evI_rng2, evI_rng3, evI_rev, revR_lst, revR_tup, evI_zip, zipR_lst, evI_enm, evSs_nil, evSs_cons, evS_asg, evS_asgT, tupO_2, tupO_3, evS_par, onI_int, onP_some, evS_sti, evS_swp, evS_stf, augO_add, augO_sub, onV_z, onV_s, onL_z, onL_s, evS_aug, evS_app, evS_ext, evS_pop, evS_exp, evS_ifs, evS_whl, evS_forr, evS_ret, evS_brk, evS_cnt, evS_pas, evS_rse, evS_tri, triO_nx, triO_rt, triO_bk, triO_ct, triO_er, evHs_nil, bindP_nm, bindP_tp2, wipe_nm, wipe_tp2, bin_add, bin_sub, cmp_eq, cmp_ne, cmp_lt, cmp_le, cmp_gt, cmp_ge, cmp_eqS, cmp_neS, isD_n, isD_nn, isD_t, isD_nt, isD_f, isD_nf, isN_int, isN_non, isN_lst, isN_tup, isN_obj, isN_str, DL.neg_int, blt_len, blt_lenT, blt_abs, blt_int, blt_intB, blt_max, blt_min, blt_list, blt_listT, blt_tuple, fieldOf_cons, fieldOf_nil, setField_nil, setField_cons, idx_lst, idx_tup, ↓reduceIte, reduceCtorEq, List.map_cons, List.map_nil, List.cons_append, List.nil_append, List.replicate, List.length_cons, List.length_nil, decide_true, decide_false, Bool.not_true, Bool.not_false, onS_some, nD, Nat.reduceEqDiff, Nat.reduceAdd, Nat.reduceSub, Nat.reduceMul, Nat.reduceLT, Nat.reduceLeDiff, Int.cast_ofNat_Int, Int.reduceAdd, Int.reduceSub, Int.reduceMul, Int.reduceNeg, Int.reduceLT, Int.reduceLE, Int.reduceEq, pick_z, pick_1, pick_2, ofs_sp, hs]
  refine for_k (fun pre st => ∃ i j, st = [some (.obj c [(98, d1), (99, d2), (100, d3), (101, nD o)]), some (.str (ln (w.map tx))), some (.lst (pre.map eO)), i, j]) ⟨_, _, rfl⟩ ?_ ?_
  · rintro pre x post st hp ⟨i, j, rfl⟩
    have hpl : (pre.map eO).length < big := by have := congrArg List.length hp; simp at this; rw [List.length_map, big_eq]; omega
    have hx := h x (by rw [hp]; simp)
    cases x with
    | none =>
      simp -implicitDefEqProofs only [getR_z, getR_s, get_z, get_s, set_z, set_s, bind_ok, bind_er, bindL_ok, bindL_er, lbind_ok, lbind_er, lbindL_ok, lbindL_er, bindO_ok, bindO_er, lbindO_ok, lbindO_er, obind_nx, obind_rt, obind_bk, obind_ct, obind_er, ofO_some, calm_ok, outD_nx, outD_rt, outD_er, outI_nx, outI_er, kind0, kind1, kind2_int, kind2_bl, kind2_str, kind2_non, kind2_er, toL_ok, onB_t, onB_f, onO_t, onO_f, onB_dec, onO_dec, onB_not, onO_not, notR_bl, evE_var, evE_non, evE_bl, evE_int, evE_str, evE_glo, evE_bin, evE_neg, evE_cmp, evE_isc, evE_chn, evE_and, evE_or, evE_not, evE_ite, evE_lst, evE_tup, evE_idx, evE_slc, isOm, slc_tt, slc_tf, slc_ft, slc_ff, partR_int, evE_att, attR_obj, attR_exn, evE_prp, evE_call, evE_meth, evE_make, evE_blt, evE_lsr, evE_bm, bmR_str, evE_isi, isiR, isiD, lstR_some, onSt_some, keepL_dec, keepL_t, keepL_f, keepL_not, evE_cmpr, evE_cmpi, evEs_nil, evEs_cons, evI_seq, seqR_lst, seqR_tup, seqR_str, evI_rng1, evI_rng2, evI_rng3, evI_rev, revR_lst, revR_tup, evI_zip, zipR_lst, evI_enm, evSs_nil, evSs_cons, evS_asg, evS_asgT, tupO_2, tupO_3, evS_par, onI_int, onP_some, evS_sti, evS_swp, evS_stf, augO_add, augO_sub, onV_z, onV_s, onL_z, onL_s, evS_aug, evS_app, evS_ext, evS_pop, evS_exp, evS_ifs, evS_whl, evS_forr, evS_ret, evS_brk, evS_cnt, evS_pas, evS_rse, evS_tri, triO_nx, triO_rt, triO_bk, triO_ct, triO_er, evHs_nil, bindP_nm, bindP_tp2, wipe_nm, wipe_tp2, bin_add, bin_sub, cmp_eq, cmp_ne, cmp_lt, cmp_le, cmp_gt, cmp_ge, cmp_eqS, cmp_neS, isD_n, isD_nn, isD_t, isD_nt, isD_f, isD_nf, isN_int, isN_non, isN_lst, isN_tup, isN_obj, isN_str, DL.neg_int, blt_len, blt_lenT, blt_abs, blt_int, blt_intB, blt_max, blt_min, blt_list, blt_listT, blt_tuple, fieldOf_cons, fieldOf_nil, setField_nil, setField_cons, idx_lst, idx_tup, ↓reduceIte, reduceCtorEq, List.map_cons, List.map_nil, List.cons_append, List.nil_append, List.replicate, List.length_cons, List.length_nil, decide_true, decide_false, Bool.not_true, Bool.not_false, onS_some, nD, Nat.reduceEqDiff, Nat.reduceAdd, Nat.reduceSub, Nat.reduceMul, Nat.reduceLT, Nat.reduceLeDiff, Int.cast_ofNat_Int, Int.reduceAdd, Int.reduceSub, Int.reduceMul, Int.reduceNeg, Int.reduceLT, Int.reduceLE, Int.reduceEq, pick_z, pick_1, pick_2, Function.comp, tx_none, hpl, show Str.ofString "?" = ⟨[63].toArray⟩ from by decide +kernel]
      exact ⟨_, _, by rw [map_snoc]; rfl⟩
    | some n =>
      have hn := hx n rfl
      have hq : ¬ ((⟨(tn n).toArray⟩ : Str) = ⟨[63].toArray⟩) := fun e => tn_63 (n := n) (by omega) (str_eq.mp e)
      have hge : ¬ ((o : Int) ≤ n) := by omega
      simp -implicitDefEqProofs only [getR_z, getR_s, get_z, get_s, set_z, set_s, bind_ok, bind_er, bindL_ok, bindL_er, lbind_ok, lbind_er, lbindL_ok, lbindL_er, bindO_ok, bindO_er, lbindO_ok, lbindO_er, obind_nx, obind_rt, obind_bk, obind_ct, obind_er, ofO_some, calm_ok, outD_nx, outD_rt, outD_er, outI_nx, outI_er, kind0, kind1, kind2_int, kind2_bl, kind2_str, kind2_non, kind2_er, toL_ok, onB_t, onB_f, onO_t, onO_f, onB_dec, onO_dec, onB_not, onO_not, notR_bl, evE_var, evE_non, evE_bl, evE_int, evE_str, evE_glo, evE_bin, evE_neg, evE_cmp, evE_isc, evE_chn, evE_and, evE_or, evE_not, evE_ite, evE_lst, evE_tup, evE_idx, evE_slc, isOm, slc_tt, slc_tf, slc_ft, slc_ff, partR_int, evE_att, attR_obj, attR_exn, evE_prp, evE_call, evE_meth, evE_make, evE_blt, evE_lsr, evE_bm, bmR_str, evE_isi, isiR, isiD, lstR_some, onSt_some, keepL_dec, keepL_t, keepL_f, keepL_not, evE_cmpr, evE_cmpi, evEs_nil, evEs_cons, evI_seq, seqR_lst, seqR_tup, seqR_str, evI_rng1, evI_rng2, evI_rng3, evI_rev, revR_lst, revR_tup, evI_zip, zipR_lst, evI_enm, evSs_nil, evSs_cons, evS_asg, evS_asgT, tupO_2, tupO_3, evS_par, onI_int, onP_some, evS_sti, evS_swp, evS_stf, augO_add, augO_sub, onV_z, onV_s, onL_z, onL_s, evS_aug, evS_app, evS_ext, evS_pop, evS_exp, evS_ifs, evS_whl, evS_forr, evS_ret, evS_brk, evS_cnt, evS_pas, evS_rse, evS_tri, triO_nx, triO_rt, triO_bk, triO_ct, triO_er, evHs_nil, bindP_nm, bindP_tp2, wipe_nm, wipe_tp2, bin_add, bin_sub, cmp_eq, cmp_ne, cmp_lt, cmp_le, cmp_gt, cmp_ge, cmp_eqS, cmp_neS, isD_n, isD_nn, isD_t, isD_nt, isD_f, isD_nf, isN_int, isN_non, isN_lst, isN_tup, isN_obj, isN_str, DL.neg_int, blt_len, blt_lenT, blt_abs, blt_int, blt_intB, blt_max, blt_min, blt_list, blt_listT, blt_tuple, fieldOf_cons, fieldOf_nil, setField_nil, setField_cons, idx_lst, idx_tup, ↓reduceIte, reduceCtorEq, List.map_cons, List.map_nil, List.cons_append, List.nil_append, List.replicate, List.length_cons, List.length_nil, decide_true, decide_false, Bool.not_true, Bool.not_false, onS_some, nD, Nat.reduceEqDiff, Nat.reduceAdd, Nat.reduceSub, Nat.reduceMul, Nat.reduceLT, Nat.reduceLeDiff, Int.cast_ofNat_Int, Int.reduceAdd, Int.reduceSub, Int.reduceMul, Int.reduceNeg, Int.reduceLT, Int.reduceLE, Int.reduceEq, pick_z, pick_1, pick_2, Function.comp, tx_some, hpl, show Str.ofString "?" = ⟨[63].toArray⟩ from by decide +kernel, hq, sp_read_number (show n < 256 by omega), hge]
      exact ⟨_, _, by rw [map_snoc]; rfl⟩
  · rintro st ⟨i, j, rfl⟩
    have hle : ¬ (255 : Int) < (w.length : Int) := by omega
    simp -implicitDefEqProofs only [getR_z, getR_s, get_z, get_s, set_z, set_s, bind_ok, bind_er, bindL_ok, bindL_er, lbind_ok, lbind_er, lbindL_ok, lbindL_er, bindO_ok, bindO_er, lbindO_ok, lbindO_er, obind_nx, obind_rt, obind_bk, obind_ct, obind_er, ofO_some, calm_ok, outD_nx, outD_rt, outD_er, outI_nx, outI_er, kind0, kind1, kind2_int, kind2_bl, kind2_str, kind2_non, kind2_er, toL_ok, onB_t, onB_f, onO_t, onO_f, onB_dec, onO_dec, onB_not, onO_not, notR_bl, evE_var, evE_non, evE_bl, evE_int, evE_str, evE_glo, evE_bin, evE_neg, evE_cmp, evE_isc, evE_chn, evE_and, evE_or, evE_not, evE_ite, evE_lst, evE_tup, evE_idx, evE_slc, isOm, slc_tt, slc_tf, slc_ft, slc_ff, partR_int, evE_att, attR_obj, attR_exn, evE_prp, evE_call, evE_meth, evE_make, evE_blt, evE_lsr, evE_bm, bmR_str, evE_isi, isiR, isiD, lstR_some, onSt_some, keepL_dec, keepL_t, keepL_f, keepL_not, evE_cmpr, evE_cmpi, evEs_nil, evEs_cons, evI_seq, seqR_lst, seqR_tup, seqR_str, evI_rng1, evI_rng2, evI_rng3, evI_rev, revR_lst, revR_tup, evI_zip, zipR_lst, evI_enm, evSs_nil, evSs_cons, evS_asg, evS_asgT, tupO_2, tupO_3, evS_par, onI_int, onP_some, evS_sti, evS_swp, evS_stf, augO_add, augO_sub, onV_z, onV_s, onL_z, onL_s, evS_aug, evS_app, evS_ext, evS_pop, evS_exp, evS_ifs, evS_whl, evS_forr, evS_ret, evS_brk, evS_cnt, evS_pas, evS_rse, evS_tri, triO_nx, triO_rt, triO_bk, triO_ct, triO_er, evHs_nil, bindP_nm, bindP_tp2, wipe_nm, wipe_tp2, bin_add, bin_sub, cmp_eq, cmp_ne, cmp_lt, cmp_le, cmp_gt, cmp_ge, cmp_eqS, cmp_neS, isD_n, isD_nn, isD_t, isD_nt, isD_f, isD_nf, isN_int, isN_non, isN_lst, isN_tup, isN_obj, isN_str, DL.neg_int, blt_len, blt_lenT, blt_abs, blt_int, blt_intB, blt_max, blt_min, blt_list, blt_listT, blt_tuple, fieldOf_cons, fieldOf_nil, setField_nil, setField_cons, idx_lst, idx_tup, ↓reduceIte, reduceCtorEq, List.map_cons, List.map_nil, List.cons_append, List.nil_append, List.replicate, List.length_cons, List.length_nil, decide_true, decide_false, Bool.not_true, Bool.not_false, onS_some, nD, Nat.reduceEqDiff, Nat.reduceAdd, Nat.reduceSub, Nat.reduceMul, Nat.reduceLT, Nat.reduceLeDiff, Int.cast_ofNat_Int, Int.reduceAdd, Int.reduceSub, Int.reduceMul, Int.reduceNeg, Int.reduceLT, Int.reduceLE, Int.reduceEq, pick_z, pick_1, pick_2, List.length_map, hle]
    rfl
end Lw
end

section
set_option linter.all false
set_option maxRecDepth 1000000
set_option maxHeartbeats 4000000
set_option Elab.async false
/-! the plain law of k74. -/
namespace Lw
open PySem DL
def prD (p : Nat) (m : List Nat) : D := .tup [nD p, .tup (m.map nD)]
structure Ch (p : Nat) (m : List Nat) (o : Nat) : Prop where
  mf : TT.fn 5 [nD p, .tup (m.map nD)] = .ok (fD p m o)
  od : TT.fn 1003 [prD p m] = .ok (nD o)
  m1 : 1 ≤ m.length
  m2 : m.length ≤ 20
  lt : ∀ n ∈ p :: m, n < 256
  o1 : 2 ≤ o
  o2 : o ≤ 256
def chs : List (Nat × List Nat × Nat) := [(2, [0, 1], 2), (3, [0, 1], 3), (2, [1, 1, 1], 4), (5, [0, 1], 5), (13, [0, 1], 13), (7, [0, 1], 7), (3, [1, 0, 1], 9), (2, [1, 1, 0, 1], 8), (31, [0, 1], 31), (2, [1, 1, 0, 1, 0, 1, 0, 0, 1], 256), (13, [12, 1], 13), (11, [1, 0, 1], 121)]
theorem chs_ok : ∀ c ∈ chs, Ch c.1 c.2.1 c.2.2 := by
  unfold chs
  refine all_cons ⟨sp_field (by decide +kernel), by kernel_rfl, by decide, by decide, by decide, by decide, by decide⟩ ?_
  refine all_cons ⟨sp_field (by decide +kernel), by kernel_rfl, by decide, by decide, by decide, by decide, by decide⟩ ?_
  refine all_cons ⟨sp_field (by decide +kernel), by kernel_rfl, by decide, by decide, by decide, by decide, by decide⟩ ?_
  refine all_cons ⟨sp_field (by decide +kernel), by kernel_rfl, by decide, by decide, by decide, by decide, by decide⟩ ?_
  refine all_cons ⟨sp_field (by decide +kernel), by kernel_rfl, by decide, by decide, by decide, by decide, by decide⟩ ?_
  refine all_cons ⟨sp_field (by decide +kernel), by kernel_rfl, by decide, by decide, by decide, by decide, by decide⟩ ?_
  refine all_cons ⟨sp_field (by decide +kernel), by kernel_rfl, by decide, by decide, by decide, by decide, by decide⟩ ?_
  refine all_cons ⟨sp_field (by decide +kernel), by kernel_rfl, by decide, by decide, by decide, by decide, by decide⟩ ?_
  refine all_cons ⟨sp_field (by decide +kernel), by kernel_rfl, by decide, by decide, by decide, by decide, by decide⟩ ?_
  refine all_cons ⟨sp_field (by decide +kernel), by kernel_rfl, by decide, by decide, by decide, by decide, by decide⟩ ?_
  refine all_cons ⟨sp_field (by decide +kernel), by kernel_rfl, by decide, by decide, by decide, by decide, by decide⟩ ?_
  refine all_cons ⟨sp_field (by decide +kernel), by kernel_rfl, by decide, by decide, by decide, by decide, by decide⟩ ?_
  exact all_nil
end Lw
end

section
set_option linter.all false
set_option maxRecDepth 1000000
set_option maxHeartbeats 4000000
set_option Elab.async false
namespace Lw
open PySem DL
theorem sp_law_field (x : Int) : ∃ c ∈ chs, TT.fn 1002 [.int x] = .ok (prD c.1 c.2.1) := by
  obtain ⟨i, hi, e⟩ : ∃ i : Nat, i < 12 ∧ x % 12 = (i : Int) := ⟨(x % 12).toNat, by omega, by omega⟩
  refine ⟨chs[i]'hi, List.getElem_mem _, ?_⟩
  rw [fx__law_field]
  refine df_eq rfl ?_
  simp -implicitDefEqProofs only [getR_z, getR_s, get_z, get_s, set_z, set_s, bind_ok, bind_er, bindL_ok, bindL_er, lbind_ok, lbind_er, lbindL_ok, lbindL_er, bindO_ok, bindO_er, lbindO_ok, lbindO_er, obind_nx, obind_rt, obind_bk, obind_ct, obind_er, ofO_some, calm_ok, outD_nx, outD_rt, outD_er, outI_nx, outI_er, kind0, kind1, kind2_int, kind2_bl, kind2_str, kind2_non, kind2_er, toL_ok, onB_t, onB_f, onO_t, onO_f, onB_dec, onO_dec, onB_not, onO_not, notR_bl, evE_var, evE_non, evE_bl, evE_int, evE_str, evE_glo, evE_bin, evE_neg, evE_cmp, evE_isc, evE_chn, evE_and, evE_or, evE_not, evE_ite, evE_lst, evE_tup, evE_idx, evE_slc, isOm, slc_tt, slc_tf, slc_ft, slc_ff, partR_int, evE_att, attR_obj, attR_exn, evE_prp, evE_call, evE_meth, evE_make, evE_blt, evE_lsr, evE_bm, bmR_str, evE_isi, isiR, isiD, lstR_some, onSt_some, keepL_dec, keepL_t, keepL_f, keepL_not, evE_cmpr, evE_cmpi, evEs_nil, evEs_cons, evI_seq, seqR_lst, seqR_tup, seqR_str, evI_rng1, evI_rng2, evI_rng3, evI_rev, revR_lst, revR_tup, evI_zip, zipR_lst, evI_enm, evSs_nil, evSs_cons, evS_asg, evS_asgT, tupO_2, tupO_3, evS_par, onI_int, onP_some, evS_sti, evS_swp, evS_stf, augO_add, augO_sub, onV_z, onV_s, onL_z, onL_s, evS_aug, evS_app, evS_ext, evS_pop, evS_exp, evS_ifs, evS_whl, evS_forr, evS_ret, evS_brk, evS_cnt, evS_pas, evS_rse, evS_tri, triO_nx, triO_rt, triO_bk, triO_ct, triO_er, evHs_nil, bindP_nm, bindP_tp2, wipe_nm, wipe_tp2, bin_add, bin_sub, cmp_eq, cmp_ne, cmp_lt, cmp_le, cmp_gt, cmp_ge, cmp_eqS, cmp_neS, isD_n, isD_nn, isD_t, isD_nt, isD_f, isD_nf, isN_int, isN_non, isN_lst, isN_tup, isN_obj, isN_str, DL.neg_int, blt_len, blt_lenT, blt_abs, blt_int, blt_intB, blt_max, blt_min, blt_list, blt_listT, blt_tuple, fieldOf_cons, fieldOf_nil, setField_nil, setField_cons, idx_lst, idx_tup, ↓reduceIte, reduceCtorEq, List.map_cons, List.map_nil, List.cons_append, List.nil_append, List.replicate, List.length_cons, List.length_nil, decide_true, decide_false, Bool.not_true, Bool.not_false, onS_some, nD, Nat.reduceEqDiff, Nat.reduceAdd, Nat.reduceSub, Nat.reduceMul, Nat.reduceLT, Nat.reduceLeDiff, Int.cast_ofNat_Int, Int.reduceAdd, Int.reduceSub, Int.reduceMul, Int.reduceNeg, Int.reduceLT, Int.reduceLE, Int.reduceEq, pick_z, pick_1, pick_2, bin_addL_if, show (12 ≤ big) from by decide, bin_mod (j := 12) (by decide), e]
  rw [pick_nat (k := i) (by exact hi)]
  match i, hi with
  | 0, _ => rfl
  | 1, _ => rfl
  | 2, _ => rfl
  | 3, _ => rfl
  | 4, _ => rfl
  | 5, _ => rfl
  | 6, _ => rfl
  | 7, _ => rfl
  | 8, _ => rfl
  | 9, _ => rfl
  | 10, _ => rfl
  | 11, _ => rfl

theorem ln1 (p : Nat) : (⟨[102, 105, 101, 108, 100, 32].toArray ++ (tn p).toArray⟩ : Str) = ln [[102, 105, 101, 108, 100], tn p] := by
  simp [ln, joinAt]
theorem plain (ns : List Int) (hns : ns.length ≤ 63) : evDef TT U c_law [.lst (ns.map .int)] = .ok (.bl true) := by
  obtain ⟨l, hl, hlen, hok⟩ := sp_law_numbers ns 300 hns (by omega)
  have get : ∀ k : Nat, (h : k < 300) → pick (l.map D.int) (k : Int) = some (.int (l[k]'(by omega))) := fun k h => pick_map k (by omega)
  have nn : ∀ k : Nat, (h : k < 300) → 0 ≤ l[k]'(by omega) := fun k h => (hok _ (List.getElem_mem _)).1
  obtain ⟨⟨p, m, o⟩, hc, hf⟩ := sp_law_field l[0]
  have C := chs_ok _ hc
  simp only at hf C
  refine df_eq rfl ?_
  have get0 := get 0 (by omega)
  have get1 := get 1 (by omega)
  have get2 := get 2 (by omega)
  have hod := C.od
  have hmf := C.mf
  have hp := C.lt p (by simp)
  simp only [nD, prD] at hl hf hod hmf get0 get1 get2
  simp only [show ((300 : Nat) : Int) = 300 from rfl, show ((0 : Nat) : Int) = 0 from rfl, show ((1 : Nat) : Int) = 1 from rfl, show ((2 : Nat) : Int) = 2 from rfl] at hl get0 get1 get2
  simp -implicitDefEqProofs only [getR_z, getR_s, get_z, get_s, set_z, set_s, bind_ok, bind_er, bindL_ok, bindL_er, lbind_ok, lbind_er, lbindL_ok, lbindL_er, bindO_ok, bindO_er, lbindO_ok, lbindO_er, obind_nx, obind_rt, obind_bk, obind_ct, obind_er, ofO_some, calm_ok, outD_nx, outD_rt, outD_er, outI_nx, outI_er, kind0, kind1, kind2_int, kind2_bl, kind2_str, kind2_non, kind2_er, toL_ok, onB_t, onB_f, onO_t, onO_f, onB_dec, onO_dec, onB_not, onO_not, notR_bl, evE_var, evE_non, evE_bl, evE_int, evE_str, evE_glo, evE_bin, evE_neg, evE_cmp, evE_isc, evE_chn, evE_and, evE_or, evE_not, evE_ite, evE_lst, evE_tup, evE_idx, evE_slc, isOm, slc_tt, slc_tf, slc_ft, slc_ff, partR_int, evE_att, attR_obj, attR_exn, evE_prp, evE_call, evE_meth, evE_make, evE_blt, evE_lsr, evE_bm, bmR_str, evE_isi, isiR, isiD, lstR_some, onSt_some, keepL_dec, keepL_t, keepL_f, keepL_not, evE_cmpr, evE_cmpi, evEs_nil, evEs_cons, evI_seq, seqR_lst, seqR_tup, seqR_str, evI_rng1, evI_rng2, evI_rng3, evI_rev, revR_lst, revR_tup, evI_zip, zipR_lst, evI_enm, evSs_nil, evSs_cons, evS_asg, evS_asgT, tupO_2, tupO_3, evS_par, onI_int, onP_some, evS_sti, evS_swp, evS_stf, augO_add, augO_sub, onV_z, onV_s, onL_z, onL_s, evS_aug, evS_app, evS_ext, evS_pop, evS_exp, evS_ifs, evS_whl, evS_forr, evS_ret, evS_brk, evS_cnt, evS_pas, evS_rse, evS_tri, triO_nx, triO_rt, triO_bk, triO_ct, triO_er, evHs_nil, bindP_nm, bindP_tp2, wipe_nm, wipe_tp2, bin_add, bin_sub, cmp_eq, cmp_ne, cmp_lt, cmp_le, cmp_gt, cmp_ge, cmp_eqS, cmp_neS, isD_n, isD_nn, isD_t, isD_nt, isD_f, isD_nf, isN_int, isN_non, isN_lst, isN_tup, isN_obj, isN_str, DL.neg_int, blt_len, blt_lenT, blt_abs, blt_int, blt_intB, blt_max, blt_min, blt_list, blt_listT, blt_tuple, fieldOf_cons, fieldOf_nil, setField_nil, setField_cons, idx_lst, idx_tup, ↓reduceIte, reduceCtorEq, List.map_cons, List.map_nil, List.cons_append, List.nil_append, List.replicate, List.length_cons, List.length_nil, decide_true, decide_false, Bool.not_true, Bool.not_false, onS_some, nD, Nat.reduceEqDiff, Nat.reduceAdd, Nat.reduceSub, Nat.reduceMul, Nat.reduceLT, Nat.reduceLeDiff, Int.cast_ofNat_Int, Int.reduceAdd, Int.reduceSub, Int.reduceMul, Int.reduceNeg, Int.reduceLT, Int.reduceLE, Int.reduceEq, pick_z, pick_1, pick_2, hl, get0, hf, hod, hmf, makeR_of in_Field, str_int (show p < 1000 by omega), ofs_fieldsp]
  have hb1 : (⟨#[102, 105, 101, 108, 100, 32]⟩ : Str).cps.size + (⟨(tn p).toArray⟩ : Str).cps.size ≤ big := by
    have := tn_len (show p < 1000 by omega)
    simp [big_eq]; omega
  simp -implicitDefEqProofs only [getR_z, getR_s, get_z, get_s, set_z, set_s, bind_ok, bind_er, bindL_ok, bindL_er, lbind_ok, lbind_er, lbindL_ok, lbindL_er, bindO_ok, bindO_er, lbindO_ok, lbindO_er, obind_nx, obind_rt, obind_bk, obind_ct, obind_er, ofO_some, calm_ok, outD_nx, outD_rt, outD_er, outI_nx, outI_er, kind0, kind1, kind2_int, kind2_bl, kind2_str, kind2_non, kind2_er, toL_ok, onB_t, onB_f, onO_t, onO_f, onB_dec, onO_dec, onB_not, onO_not, notR_bl, evE_var, evE_non, evE_bl, evE_int, evE_str, evE_glo, evE_bin, evE_neg, evE_cmp, evE_isc, evE_chn, evE_and, evE_or, evE_not, evE_ite, evE_lst, evE_tup, evE_idx, evE_slc, isOm, slc_tt, slc_tf, slc_ft, slc_ff, partR_int, evE_att, attR_obj, attR_exn, evE_prp, evE_call, evE_meth, evE_make, evE_blt, evE_lsr, evE_bm, bmR_str, evE_isi, isiR, isiD, lstR_some, onSt_some, keepL_dec, keepL_t, keepL_f, keepL_not, evE_cmpr, evE_cmpi, evEs_nil, evEs_cons, evI_seq, seqR_lst, seqR_tup, seqR_str, evI_rng1, evI_rng2, evI_rng3, evI_rev, revR_lst, revR_tup, evI_zip, zipR_lst, evI_enm, evSs_nil, evSs_cons, evS_asg, evS_asgT, tupO_2, tupO_3, evS_par, onI_int, onP_some, evS_sti, evS_swp, evS_stf, augO_add, augO_sub, onV_z, onV_s, onL_z, onL_s, evS_aug, evS_app, evS_ext, evS_pop, evS_exp, evS_ifs, evS_whl, evS_forr, evS_ret, evS_brk, evS_cnt, evS_pas, evS_rse, evS_tri, triO_nx, triO_rt, triO_bk, triO_ct, triO_er, evHs_nil, bindP_nm, bindP_tp2, wipe_nm, wipe_tp2, bin_add, bin_sub, cmp_eq, cmp_ne, cmp_lt, cmp_le, cmp_gt, cmp_ge, cmp_eqS, cmp_neS, isD_n, isD_nn, isD_t, isD_nt, isD_f, isD_nf, isN_int, isN_non, isN_lst, isN_tup, isN_obj, isN_str, DL.neg_int, blt_len, blt_lenT, blt_abs, blt_int, blt_intB, blt_max, blt_min, blt_list, blt_listT, blt_tuple, fieldOf_cons, fieldOf_nil, setField_nil, setField_cons, idx_lst, idx_tup, ↓reduceIte, reduceCtorEq, List.map_cons, List.map_nil, List.cons_append, List.nil_append, List.replicate, List.length_cons, List.length_nil, decide_true, decide_false, Bool.not_true, Bool.not_false, onS_some, nD, Nat.reduceEqDiff, Nat.reduceAdd, Nat.reduceSub, Nat.reduceMul, Nat.reduceLT, Nat.reduceLeDiff, Int.cast_ofNat_Int, Int.reduceAdd, Int.reduceSub, Int.reduceMul, Int.reduceNeg, Int.reduceLT, Int.reduceLE, Int.reduceEq, pick_z, pick_1, pick_2, bin_addS hb1]
  rw [show (⟨#[102, 105, 101, 108, 100, 32] ++ (tn p).toArray⟩ : Str) = ln [[102, 105, 101, 108, 100], tn p] from ln1 p]
  have lnl : ∀ pre : List Nat, (∀ n ∈ pre, n < 256) → (ln ([102, 105, 101, 108, 100] :: (p :: pre).map tn)).cps.size ≤ (pre.length + 2) * 6 := fun pre h => by
    have := ln_len (ls := [102, 105, 101, 108, 100] :: (p :: pre).map tn) (m := 5) (fun l hl => by
      rcases List.mem_cons.mp hl with e | e
      · subst e; decide
      · obtain ⟨n, hn, rfl⟩ := List.mem_map.mp e
        rcases List.mem_cons.mp hn with r | r
        · have := tn_len (n := n) (by omega); omega
        · have := h n r
          have := tn_len (n := n) (by omega); omega)
    simpa using this
  refine for_k (fun pre st => ∃ j, st = [some (.lst (ns.map .int)), some (.lst (l.map .int)), some (.tup [.int p, .tup (m.map nD)]), some (.int o), some (fD p m o), some (.str (ln ([102, 105, 101, 108, 100] :: (p :: pre).map tn))), j, none, none, none, none, none, none, none, none, none]) ⟨_, rfl⟩ ?_ ?_
  · rintro pre x post st hm ⟨j, rfl⟩
    have hx : x < 256 := C.lt x (by rw [hm]; simp)
    have hpre : ∀ n ∈ pre, n < 256 := fun n hn => C.lt n (by rw [hm]; simp [hn])
    have hml : pre.length < 20 := by have := congrArg List.length hm; have := C.m2; simp at *; omega
    have h1 := lnl pre hpre
    have h2 := tn_len (show x < 1000 by omega)
    have hb2 : (ln ([102, 105, 101, 108, 100] :: (p :: pre).map tn)).cps.size + (⟨#[32]⟩ : Str).cps.size ≤ big := by simp [big_eq] at *; omega
    have hb3 : (⟨(ln ([102, 105, 101, 108, 100] :: (p :: pre).map tn)).cps ++ #[32]⟩ : Str).cps.size + (⟨(tn x).toArray⟩ : Str).cps.size ≤ big := by simp [big_eq] at *; omega
    simp only [List.map_cons] at hb2 hb3
    simp -implicitDefEqProofs only [getR_z, getR_s, get_z, get_s, set_z, set_s, bind_ok, bind_er, bindL_ok, bindL_er, lbind_ok, lbind_er, lbindL_ok, lbindL_er, bindO_ok, bindO_er, lbindO_ok, lbindO_er, obind_nx, obind_rt, obind_bk, obind_ct, obind_er, ofO_some, calm_ok, outD_nx, outD_rt, outD_er, outI_nx, outI_er, kind0, kind1, kind2_int, kind2_bl, kind2_str, kind2_non, kind2_er, toL_ok, onB_t, onB_f, onO_t, onO_f, onB_dec, onO_dec, onB_not, onO_not, notR_bl, evE_var, evE_non, evE_bl, evE_int, evE_str, evE_glo, evE_bin, evE_neg, evE_cmp, evE_isc, evE_chn, evE_and, evE_or, evE_not, evE_ite, evE_lst, evE_tup, evE_idx, evE_slc, isOm, slc_tt, slc_tf, slc_ft, slc_ff, partR_int, evE_att, attR_obj, attR_exn, evE_prp, evE_call, evE_meth, evE_make, evE_blt, evE_lsr, evE_bm, bmR_str, evE_isi, isiR, isiD, lstR_some, onSt_some, keepL_dec, keepL_t, keepL_f, keepL_not, evE_cmpr, evE_cmpi, evEs_nil, evEs_cons, evI_seq, seqR_lst, seqR_tup, seqR_str, evI_rng1, evI_rng2, evI_rng3, evI_rev, revR_lst, revR_tup, evI_zip, zipR_lst, evI_enm, evSs_nil, evSs_cons, evS_asg, evS_asgT, tupO_2, tupO_3, evS_par, onI_int, onP_some, evS_sti, evS_swp, evS_stf, augO_add, augO_sub, onV_z, onV_s, onL_z, onL_s, evS_aug, evS_app, evS_ext, evS_pop, evS_exp, evS_ifs, evS_whl, evS_forr, evS_ret, evS_brk, evS_cnt, evS_pas, evS_rse, evS_tri, triO_nx, triO_rt, triO_bk, triO_ct, triO_er, evHs_nil, bindP_nm, bindP_tp2, wipe_nm, wipe_tp2, bin_add, bin_sub, cmp_eq, cmp_ne, cmp_lt, cmp_le, cmp_gt, cmp_ge, cmp_eqS, cmp_neS, isD_n, isD_nn, isD_t, isD_nt, isD_f, isD_nf, isN_int, isN_non, isN_lst, isN_tup, isN_obj, isN_str, DL.neg_int, blt_len, blt_lenT, blt_abs, blt_int, blt_intB, blt_max, blt_min, blt_list, blt_listT, blt_tuple, fieldOf_cons, fieldOf_nil, setField_nil, setField_cons, idx_lst, idx_tup, ↓reduceIte, reduceCtorEq, List.map_cons, List.map_nil, List.cons_append, List.nil_append, List.replicate, List.length_cons, List.length_nil, decide_true, decide_false, Bool.not_true, Bool.not_false, onS_some, nD, Nat.reduceEqDiff, Nat.reduceAdd, Nat.reduceSub, Nat.reduceMul, Nat.reduceLT, Nat.reduceLeDiff, Int.cast_ofNat_Int, Int.reduceAdd, Int.reduceSub, Int.reduceMul, Int.reduceNeg, Int.reduceLT, Int.reduceLE, Int.reduceEq, pick_z, pick_1, pick_2, ofs_sp, str_int (show x < 1000 by omega), bin_addS hb2, bin_addS hb3]
    refine ⟨some (.int x), ?_⟩
    rw [ln_snoc (by simp), map_snoc]
    rfl
  rintro st ⟨j, rfl⟩
  have hff := sp_format_field (c := 21) (d1 := nD (m.length - 1)) (d2 := nD o) C.m2 C.lt
  have hpf := sp_parse_field (c := 21) (fs := [(98, nD p), (99, .tup (m.map nD)), (100, nD (m.length - 1)), (101, nD o)]) C.m1 C.m2 C.lt C.mf
  simp only [fieldL, nD, List.map_cons] at hff hpf
  have hsz : ∃ s : Nat, 1 ≤ s ∧ s ≤ 255 ∧ (if l[2] % 4 = 0 then 13 + l[1] % 243 else 1 + l[1] % 12) = (s : Int) := by
    refine ⟨(if l[2] % 4 = 0 then 13 + l[1] % 243 else 1 + l[1] % 12).toNat, ?_, ?_, ?_⟩ <;> split <;> omega
  obtain ⟨s, hs1, hs2, hsz⟩ := hsz
  have hsame : TT.fn 19 [fD p m o, fD p m o] = .ok (.bl true) := by
    rw [fx_Field_same_as]
    refine df_eq rfl ?_
    simp -implicitDefEqProofs only [getR_z, getR_s, get_z, get_s, set_z, set_s, bind_ok, bind_er, bindL_ok, bindL_er, lbind_ok, lbind_er, lbindL_ok, lbindL_er, bindO_ok, bindO_er, lbindO_ok, lbindO_er, obind_nx, obind_rt, obind_bk, obind_ct, obind_er, ofO_some, calm_ok, outD_nx, outD_rt, outD_er, outI_nx, outI_er, kind0, kind1, kind2_int, kind2_bl, kind2_str, kind2_non, kind2_er, toL_ok, onB_t, onB_f, onO_t, onO_f, onB_dec, onO_dec, onB_not, onO_not, notR_bl, evE_var, evE_non, evE_bl, evE_int, evE_str, evE_glo, evE_bin, evE_neg, evE_cmp, evE_isc, evE_chn, evE_and, evE_or, evE_not, evE_ite, evE_lst, evE_tup, evE_idx, evE_slc, isOm, slc_tt, slc_tf, slc_ft, slc_ff, partR_int, evE_att, attR_obj, attR_exn, evE_prp, evE_call, evE_meth, evE_make, evE_blt, evE_lsr, evE_bm, bmR_str, evE_isi, isiR, isiD, lstR_some, onSt_some, keepL_dec, keepL_t, keepL_f, keepL_not, evE_cmpr, evE_cmpi, evEs_nil, evEs_cons, evI_seq, seqR_lst, seqR_tup, seqR_str, evI_rng1, evI_rng2, evI_rng3, evI_rev, revR_lst, revR_tup, evI_zip, zipR_lst, evI_enm, evSs_nil, evSs_cons, evS_asg, evS_asgT, tupO_2, tupO_3, evS_par, onI_int, onP_some, evS_sti, evS_swp, evS_stf, augO_add, augO_sub, onV_z, onV_s, onL_z, onL_s, evS_aug, evS_app, evS_ext, evS_pop, evS_exp, evS_ifs, evS_whl, evS_forr, evS_ret, evS_brk, evS_cnt, evS_pas, evS_rse, evS_tri, triO_nx, triO_rt, triO_bk, triO_ct, triO_er, evHs_nil, bindP_nm, bindP_tp2, wipe_nm, wipe_tp2, bin_add, bin_sub, cmp_eq, cmp_ne, cmp_lt, cmp_le, cmp_gt, cmp_ge, cmp_eqS, cmp_neS, isD_n, isD_nn, isD_t, isD_nt, isD_f, isD_nf, isN_int, isN_non, isN_lst, isN_tup, isN_obj, isN_str, DL.neg_int, blt_len, blt_lenT, blt_abs, blt_int, blt_intB, blt_max, blt_min, blt_list, blt_listT, blt_tuple, fieldOf_cons, fieldOf_nil, setField_nil, setField_cons, idx_lst, idx_tup, ↓reduceIte, reduceCtorEq, List.map_cons, List.map_nil, List.cons_append, List.nil_append, List.replicate, List.length_cons, List.length_nil, decide_true, decide_false, Bool.not_true, Bool.not_false, onS_some, nD, Nat.reduceEqDiff, Nat.reduceAdd, Nat.reduceSub, Nat.reduceMul, Nat.reduceLT, Nat.reduceLeDiff, Int.cast_ofNat_Int, Int.reduceAdd, Int.reduceSub, Int.reduceMul, Int.reduceNeg, Int.reduceLT, Int.reduceLE, Int.reduceEq, pick_z, pick_1, pick_2, fD, enc_nD.cmpeT (by decide)]
    rfl
  simp only [fD, nD] at hsame
  rw [show (fD p m o) = .obj 21 [(98, .int p), (99, .tup (m.map nD)), (100, .int (m.length - 1 : Nat)), (101, .int o)] from rfl]
  simp -implicitDefEqProofs only [getR_z, getR_s, get_z, get_s, set_z, set_s, bind_ok, bind_er, bindL_ok, bindL_er, lbind_ok, lbind_er, lbindL_ok, lbindL_er, bindO_ok, bindO_er, lbindO_ok, lbindO_er, obind_nx, obind_rt, obind_bk, obind_ct, obind_er, ofO_some, calm_ok, outD_nx, outD_rt, outD_er, outI_nx, outI_er, kind0, kind1, kind2_int, kind2_bl, kind2_str, kind2_non, kind2_er, toL_ok, onB_t, onB_f, onO_t, onO_f, onB_dec, onO_dec, onB_not, onO_not, notR_bl, evE_var, evE_non, evE_bl, evE_int, evE_str, evE_glo, evE_bin, evE_neg, evE_cmp, evE_isc, evE_chn, evE_and, evE_or, evE_not, evE_ite, evE_lst, evE_tup, evE_idx, evE_slc, isOm, slc_tt, slc_tf, slc_ft, slc_ff, partR_int, evE_att, attR_obj, attR_exn, evE_prp, evE_call, evE_meth, evE_make, evE_blt, evE_lsr, evE_bm, bmR_str, evE_isi, isiR, isiD, lstR_some, onSt_some, keepL_dec, keepL_t, keepL_f, keepL_not, evE_cmpr, evE_cmpi, evEs_nil, evEs_cons, evI_seq, seqR_lst, seqR_tup, seqR_str, evI_rng1, evI_rng2, evI_rng3, evI_rev, revR_lst, revR_tup, evI_zip, zipR_lst, evI_enm, evSs_nil, evSs_cons, evS_asg, evS_asgT, tupO_2, tupO_3, evS_par, onI_int, onP_some, evS_sti, evS_swp, evS_stf, augO_add, augO_sub, onV_z, onV_s, onL_z, onL_s, evS_aug, evS_app, evS_ext, evS_pop, evS_exp, evS_ifs, evS_whl, evS_forr, evS_ret, evS_brk, evS_cnt, evS_pas, evS_rse, evS_tri, triO_nx, triO_rt, triO_bk, triO_ct, triO_er, evHs_nil, bindP_nm, bindP_tp2, wipe_nm, wipe_tp2, bin_add, bin_sub, cmp_eq, cmp_ne, cmp_lt, cmp_le, cmp_gt, cmp_ge, cmp_eqS, cmp_neS, isD_n, isD_nn, isD_t, isD_nt, isD_f, isD_nf, isN_int, isN_non, isN_lst, isN_tup, isN_obj, isN_str, DL.neg_int, blt_len, blt_lenT, blt_abs, blt_int, blt_intB, blt_max, blt_min, blt_list, blt_listT, blt_tuple, fieldOf_cons, fieldOf_nil, setField_nil, setField_cons, idx_lst, idx_tup, ↓reduceIte, reduceCtorEq, List.map_cons, List.map_nil, List.cons_append, List.nil_append, List.replicate, List.length_cons, List.length_nil, decide_true, decide_false, Bool.not_true, Bool.not_false, onS_some, nD, Nat.reduceEqDiff, Nat.reduceAdd, Nat.reduceSub, Nat.reduceMul, Nat.reduceLT, Nat.reduceLeDiff, Int.cast_ofNat_Int, Int.reduceAdd, Int.reduceSub, Int.reduceMul, Int.reduceNeg, Int.reduceLT, Int.reduceLE, Int.reduceEq, pick_z, pick_1, pick_2, hff, hpf, enc_nD.cmpnT (by decide), methR_obj me_Field_same_as, hsame, get1, get2, bin_mod (j := 12) (by decide), bin_mod (j := 4) (by decide), bin_mod (j := 243) (by decide)]
  refine wp_ite_nx (c := [some (.lst (ns.map .int)), some (.lst (l.map .int)), some (.tup [.int p, .tup (m.map nD)]), some (.int o), some (.obj 21 [(98, .int p), (99, .tup (m.map nD)), (100, .int (m.length - 1 : Nat)), (101, .int o)]), some (.str (ln ([102, 105, 101, 108, 100] :: tn p :: m.map tn))), j, some (.obj 21 [(98, .int p), (99, .tup (m.map nD)), (100, .int (m.length - 1 : Nat)), (101, .int o)]), some (.int s), none, none, none, none, none, none, none]) (by rw [← hsz]; split <;> rfl) ?_
  have hr : rngOk 0 (s : Int) = true := rngOk_of (by omega) (by omega) (by omega) (by omega)
  simp -implicitDefEqProofs only [getR_z, getR_s, get_z, get_s, set_z, set_s, bind_ok, bind_er, bindL_ok, bindL_er, lbind_ok, lbind_er, lbindL_ok, lbindL_er, bindO_ok, bindO_er, lbindO_ok, lbindO_er, obind_nx, obind_rt, obind_bk, obind_ct, obind_er, ofO_some, calm_ok, outD_nx, outD_rt, outD_er, outI_nx, outI_er, kind0, kind1, kind2_int, kind2_bl, kind2_str, kind2_non, kind2_er, toL_ok, onB_t, onB_f, onO_t, onO_f, onB_dec, onO_dec, onB_not, onO_not, notR_bl, evE_var, evE_non, evE_bl, evE_int, evE_str, evE_glo, evE_bin, evE_neg, evE_cmp, evE_isc, evE_chn, evE_and, evE_or, evE_not, evE_ite, evE_lst, evE_tup, evE_idx, evE_slc, isOm, slc_tt, slc_tf, slc_ft, slc_ff, partR_int, evE_att, attR_obj, attR_exn, evE_prp, evE_call, evE_meth, evE_make, evE_blt, evE_lsr, evE_bm, bmR_str, evE_isi, isiR, isiD, lstR_some, onSt_some, keepL_dec, keepL_t, keepL_f, keepL_not, evE_cmpr, evE_cmpi, evEs_nil, evEs_cons, evI_seq, seqR_lst, seqR_tup, seqR_str, evI_rng1, evI_rng2, evI_rng3, evI_rev, revR_lst, revR_tup, evI_zip, zipR_lst, evI_enm, evSs_nil, evSs_cons, evS_asg, evS_asgT, tupO_2, tupO_3, evS_par, onI_int, onP_some, evS_sti, evS_swp, evS_stf, augO_add, augO_sub, onV_z, onV_s, onL_z, onL_s, evS_aug, evS_app, evS_ext, evS_pop, evS_exp, evS_ifs, evS_whl, evS_forr, evS_ret, evS_brk, evS_cnt, evS_pas, evS_rse, evS_tri, triO_nx, triO_rt, triO_bk, triO_ct, triO_er, evHs_nil, bindP_nm, bindP_tp2, wipe_nm, wipe_tp2, bin_add, bin_sub, cmp_eq, cmp_ne, cmp_lt, cmp_le, cmp_gt, cmp_ge, cmp_eqS, cmp_neS, isD_n, isD_nn, isD_t, isD_nt, isD_f, isD_nf, isN_int, isN_non, isN_lst, isN_tup, isN_obj, isN_str, DL.neg_int, blt_len, blt_lenT, blt_abs, blt_int, blt_intB, blt_max, blt_min, blt_list, blt_listT, blt_tuple, fieldOf_cons, fieldOf_nil, setField_nil, setField_cons, idx_lst, idx_tup, ↓reduceIte, reduceCtorEq, List.map_cons, List.map_nil, List.cons_append, List.nil_append, List.replicate, List.length_cons, List.length_nil, decide_true, decide_false, Bool.not_true, Bool.not_false, onS_some, nD, Nat.reduceEqDiff, Nat.reduceAdd, Nat.reduceSub, Nat.reduceMul, Nat.reduceLT, Nat.reduceLeDiff, Int.cast_ofNat_Int, Int.reduceAdd, Int.reduceSub, Int.reduceMul, Int.reduceNeg, Int.reduceLT, Int.reduceLE, Int.reduceEq, pick_z, pick_1, pick_2, rngR_of hr]
  have ho1 := C.o1
  have ho2 := C.o2
  refine for_n (fun k st => ∃ (w : List (Option Nat)) (i j1 : Option D), st = [some (.lst (ns.map .int)), some (.lst (l.map .int)), some (.tup [.int p, .tup (m.map nD)]), some (.int o), some (.obj 21 [(98, .int p), (99, .tup (m.map nD)), (100, .int (m.length - 1 : Nat)), (101, .int o)]), some (.str (ln ([102, 105, 101, 108, 100] :: tn p :: m.map tn))), j, some (.obj 21 [(98, .int p), (99, .tup (m.map nD)), (100, .int (m.length - 1 : Nat)), (101, .int o)]), some (.int s), some (.lst (w.map eO)), i, j1, none, none, none, none] ∧ w.length = k ∧ ∀ x ∈ w, okO o x) ⟨[], _, _, rfl, rfl, by simp⟩ ?_ ?_
  · rintro k st hk ⟨w, i, jj, rfl, hw, hx⟩
    have hg := get (10 + k) (by omega)
    have hn := nn (10 + k) (by omega)
    rw [show ((10 + k : Nat) : Int) = 10 + (k : Int) from by omega] at hg
    have hb : (w.map eO).length < big := by rw [List.length_map, big_eq]; omega
    simp -implicitDefEqProofs only [getR_z, getR_s, get_z, get_s, set_z, set_s, bind_ok, bind_er, bindL_ok, bindL_er, lbind_ok, lbind_er, lbindL_ok, lbindL_er, bindO_ok, bindO_er, lbindO_ok, lbindO_er, obind_nx, obind_rt, obind_bk, obind_ct, obind_er, ofO_some, calm_ok, outD_nx, outD_rt, outD_er, outI_nx, outI_er, kind0, kind1, kind2_int, kind2_bl, kind2_str, kind2_non, kind2_er, toL_ok, onB_t, onB_f, onO_t, onO_f, onB_dec, onO_dec, onB_not, onO_not, notR_bl, evE_var, evE_non, evE_bl, evE_int, evE_str, evE_glo, evE_bin, evE_neg, evE_cmp, evE_isc, evE_chn, evE_and, evE_or, evE_not, evE_ite, evE_lst, evE_tup, evE_idx, evE_slc, isOm, slc_tt, slc_tf, slc_ft, slc_ff, partR_int, evE_att, attR_obj, attR_exn, evE_prp, evE_call, evE_meth, evE_make, evE_blt, evE_lsr, evE_bm, bmR_str, evE_isi, isiR, isiD, lstR_some, onSt_some, keepL_dec, keepL_t, keepL_f, keepL_not, evE_cmpr, evE_cmpi, evEs_nil, evEs_cons, evI_seq, seqR_lst, seqR_tup, seqR_str, evI_rng1, evI_rng2, evI_rng3, evI_rev, revR_lst, revR_tup, evI_zip, zipR_lst, evI_enm, evSs_nil, evSs_cons, evS_asg, evS_asgT, tupO_2, tupO_3, evS_par, onI_int, onP_some, evS_sti, evS_swp, evS_stf, augO_add, augO_sub, onV_z, onV_s, onL_z, onL_s, evS_aug, evS_app, evS_ext, evS_pop, evS_exp, evS_ifs, evS_whl, evS_forr, evS_ret, evS_brk, evS_cnt, evS_pas, evS_rse, evS_tri, triO_nx, triO_rt, triO_bk, triO_ct, triO_er, evHs_nil, bindP_nm, bindP_tp2, wipe_nm, wipe_tp2, bin_add, bin_sub, cmp_eq, cmp_ne, cmp_lt, cmp_le, cmp_gt, cmp_ge, cmp_eqS, cmp_neS, isD_n, isD_nn, isD_t, isD_nt, isD_f, isD_nf, isN_int, isN_non, isN_lst, isN_tup, isN_obj, isN_str, DL.neg_int, blt_len, blt_lenT, blt_abs, blt_int, blt_intB, blt_max, blt_min, blt_list, blt_listT, blt_tuple, fieldOf_cons, fieldOf_nil, setField_nil, setField_cons, idx_lst, idx_tup, ↓reduceIte, reduceCtorEq, List.map_cons, List.map_nil, List.cons_append, List.nil_append, List.replicate, List.length_cons, List.length_nil, decide_true, decide_false, Bool.not_true, Bool.not_false, onS_some, nD, Nat.reduceEqDiff, Nat.reduceAdd, Nat.reduceSub, Nat.reduceMul, Nat.reduceLT, Nat.reduceLeDiff, Int.cast_ofNat_Int, Int.reduceAdd, Int.reduceSub, Int.reduceMul, Int.reduceNeg, Int.reduceLT, Int.reduceLE, Int.reduceEq, pick_z, pick_1, pick_2, hg, bin_mod (j := (o : Int) + 1) (by omega), hb]
    generalize l[10 + k] = y at hn ⊢
    obtain ⟨z, hz, hzo⟩ : ∃ z : Nat, y % ((o : Int) + 1) = z ∧ z ≤ o := ⟨(y % ((o : Int) + 1)).toNat, by have := Int.emod_nonneg y (show (o : Int) + 1 ≠ 0 by omega); omega, by have := Int.emod_lt_of_pos y (show 0 < (o : Int) + 1 by omega); omega⟩
    rw [hz]
    by_cases e : (z : Int) = o
    · simp -implicitDefEqProofs only [getR_z, getR_s, get_z, get_s, set_z, set_s, bind_ok, bind_er, bindL_ok, bindL_er, lbind_ok, lbind_er, lbindL_ok, lbindL_er, bindO_ok, bindO_er, lbindO_ok, lbindO_er, obind_nx, obind_rt, obind_bk, obind_ct, obind_er, ofO_some, calm_ok, outD_nx, outD_rt, outD_er, outI_nx, outI_er, kind0, kind1, kind2_int, kind2_bl, kind2_str, kind2_non, kind2_er, toL_ok, onB_t, onB_f, onO_t, onO_f, onB_dec, onO_dec, onB_not, onO_not, notR_bl, evE_var, evE_non, evE_bl, evE_int, evE_str, evE_glo, evE_bin, evE_neg, evE_cmp, evE_isc, evE_chn, evE_and, evE_or, evE_not, evE_ite, evE_lst, evE_tup, evE_idx, evE_slc, isOm, slc_tt, slc_tf, slc_ft, slc_ff, partR_int, evE_att, attR_obj, attR_exn, evE_prp, evE_call, evE_meth, evE_make, evE_blt, evE_lsr, evE_bm, bmR_str, evE_isi, isiR, isiD, lstR_some, onSt_some, keepL_dec, keepL_t, keepL_f, keepL_not, evE_cmpr, evE_cmpi, evEs_nil, evEs_cons, evI_seq, seqR_lst, seqR_tup, seqR_str, evI_rng1, evI_rng2, evI_rng3, evI_rev, revR_lst, revR_tup, evI_zip, zipR_lst, evI_enm, evSs_nil, evSs_cons, evS_asg, evS_asgT, tupO_2, tupO_3, evS_par, onI_int, onP_some, evS_sti, evS_swp, evS_stf, augO_add, augO_sub, onV_z, onV_s, onL_z, onL_s, evS_aug, evS_app, evS_ext, evS_pop, evS_exp, evS_ifs, evS_whl, evS_forr, evS_ret, evS_brk, evS_cnt, evS_pas, evS_rse, evS_tri, triO_nx, triO_rt, triO_bk, triO_ct, triO_er, evHs_nil, bindP_nm, bindP_tp2, wipe_nm, wipe_tp2, bin_add, bin_sub, cmp_eq, cmp_ne, cmp_lt, cmp_le, cmp_gt, cmp_ge, cmp_eqS, cmp_neS, isD_n, isD_nn, isD_t, isD_nt, isD_f, isD_nf, isN_int, isN_non, isN_lst, isN_tup, isN_obj, isN_str, DL.neg_int, blt_len, blt_lenT, blt_abs, blt_int, blt_intB, blt_max, blt_min, blt_list, blt_listT, blt_tuple, fieldOf_cons, fieldOf_nil, setField_nil, setField_cons, idx_lst, idx_tup, ↓reduceIte, reduceCtorEq, List.map_cons, List.map_nil, List.cons_append, List.nil_append, List.replicate, List.length_cons, List.length_nil, decide_true, decide_false, Bool.not_true, Bool.not_false, onS_some, nD, Nat.reduceEqDiff, Nat.reduceAdd, Nat.reduceSub, Nat.reduceMul, Nat.reduceLT, Nat.reduceLeDiff, Int.cast_ofNat_Int, Int.reduceAdd, Int.reduceSub, Int.reduceMul, Int.reduceNeg, Int.reduceLT, Int.reduceLE, Int.reduceEq, pick_z, pick_1, pick_2, e]
      exact ⟨w ++ [none], _, _, by rw [map_snoc]; rfl, by simp [hw], fun x hx' => by
        rcases List.mem_append.mp hx' with h | h
        · exact hx x h
        · simp at h; subst h; intro n hn; cases hn⟩
    · simp -implicitDefEqProofs only [getR_z, getR_s, get_z, get_s, set_z, set_s, bind_ok, bind_er, bindL_ok, bindL_er, lbind_ok, lbind_er, lbindL_ok, lbindL_er, bindO_ok, bindO_er, lbindO_ok, lbindO_er, obind_nx, obind_rt, obind_bk, obind_ct, obind_er, ofO_some, calm_ok, outD_nx, outD_rt, outD_er, outI_nx, outI_er, kind0, kind1, kind2_int, kind2_bl, kind2_str, kind2_non, kind2_er, toL_ok, onB_t, onB_f, onO_t, onO_f, onB_dec, onO_dec, onB_not, onO_not, notR_bl, evE_var, evE_non, evE_bl, evE_int, evE_str, evE_glo, evE_bin, evE_neg, evE_cmp, evE_isc, evE_chn, evE_and, evE_or, evE_not, evE_ite, evE_lst, evE_tup, evE_idx, evE_slc, isOm, slc_tt, slc_tf, slc_ft, slc_ff, partR_int, evE_att, attR_obj, attR_exn, evE_prp, evE_call, evE_meth, evE_make, evE_blt, evE_lsr, evE_bm, bmR_str, evE_isi, isiR, isiD, lstR_some, onSt_some, keepL_dec, keepL_t, keepL_f, keepL_not, evE_cmpr, evE_cmpi, evEs_nil, evEs_cons, evI_seq, seqR_lst, seqR_tup, seqR_str, evI_rng1, evI_rng2, evI_rng3, evI_rev, revR_lst, revR_tup, evI_zip, zipR_lst, evI_enm, evSs_nil, evSs_cons, evS_asg, evS_asgT, tupO_2, tupO_3, evS_par, onI_int, onP_some, evS_sti, evS_swp, evS_stf, augO_add, augO_sub, onV_z, onV_s, onL_z, onL_s, evS_aug, evS_app, evS_ext, evS_pop, evS_exp, evS_ifs, evS_whl, evS_forr, evS_ret, evS_brk, evS_cnt, evS_pas, evS_rse, evS_tri, triO_nx, triO_rt, triO_bk, triO_ct, triO_er, evHs_nil, bindP_nm, bindP_tp2, wipe_nm, wipe_tp2, bin_add, bin_sub, cmp_eq, cmp_ne, cmp_lt, cmp_le, cmp_gt, cmp_ge, cmp_eqS, cmp_neS, isD_n, isD_nn, isD_t, isD_nt, isD_f, isD_nf, isN_int, isN_non, isN_lst, isN_tup, isN_obj, isN_str, DL.neg_int, blt_len, blt_lenT, blt_abs, blt_int, blt_intB, blt_max, blt_min, blt_list, blt_listT, blt_tuple, fieldOf_cons, fieldOf_nil, setField_nil, setField_cons, idx_lst, idx_tup, ↓reduceIte, reduceCtorEq, List.map_cons, List.map_nil, List.cons_append, List.nil_append, List.replicate, List.length_cons, List.length_nil, decide_true, decide_false, Bool.not_true, Bool.not_false, onS_some, nD, Nat.reduceEqDiff, Nat.reduceAdd, Nat.reduceSub, Nat.reduceMul, Nat.reduceLT, Nat.reduceLeDiff, Int.cast_ofNat_Int, Int.reduceAdd, Int.reduceSub, Int.reduceMul, Int.reduceNeg, Int.reduceLT, Int.reduceLE, Int.reduceEq, pick_z, pick_1, pick_2, e]
      exact ⟨w ++ [some z], _, _, by rw [map_snoc]; rfl, by simp [hw], fun x hx' => by
        rcases List.mem_append.mp hx' with h | h
        · exact hx x h
        · simp at h; subst h; intro n hn; cases hn; omega⟩
  rintro st ⟨w, i1, jj, rfl, hw, hx⟩
  have h1000 : ∀ x ∈ w, okO 1000 x := fun x h n hn => by have := hx x h n hn; omega
  have hfw := sp_format_word (w := w) (by omega) h1000
  have hpw := sp_parse_word (o := o) (c := 21) (d1 := .int p) (d2 := .tup (m.map nD)) (d3 := .int (m.length - 1 : Nat)) (w := w) (by intro e; subst e; simp at hw; omega) (by omega) (by omega) hx
  simp only [nD] at hpw
  simp -implicitDefEqProofs only [getR_z, getR_s, get_z, get_s, set_z, set_s, bind_ok, bind_er, bindL_ok, bindL_er, lbind_ok, lbind_er, lbindL_ok, lbindL_er, bindO_ok, bindO_er, lbindO_ok, lbindO_er, obind_nx, obind_rt, obind_bk, obind_ct, obind_er, ofO_some, calm_ok, outD_nx, outD_rt, outD_er, outI_nx, outI_er, kind0, kind1, kind2_int, kind2_bl, kind2_str, kind2_non, kind2_er, toL_ok, onB_t, onB_f, onO_t, onO_f, onB_dec, onO_dec, onB_not, onO_not, notR_bl, evE_var, evE_non, evE_bl, evE_int, evE_str, evE_glo, evE_bin, evE_neg, evE_cmp, evE_isc, evE_chn, evE_and, evE_or, evE_not, evE_ite, evE_lst, evE_tup, evE_idx, evE_slc, isOm, slc_tt, slc_tf, slc_ft, slc_ff, partR_int, evE_att, attR_obj, attR_exn, evE_prp, evE_call, evE_meth, evE_make, evE_blt, evE_lsr, evE_bm, bmR_str, evE_isi, isiR, isiD, lstR_some, onSt_some, keepL_dec, keepL_t, keepL_f, keepL_not, evE_cmpr, evE_cmpi, evEs_nil, evEs_cons, evI_seq, seqR_lst, seqR_tup, seqR_str, evI_rng1, evI_rng2, evI_rng3, evI_rev, revR_lst, revR_tup, evI_zip, zipR_lst, evI_enm, evSs_nil, evSs_cons, evS_asg, evS_asgT, tupO_2, tupO_3, evS_par, onI_int, onP_some, evS_sti, evS_swp, evS_stf, augO_add, augO_sub, onV_z, onV_s, onL_z, onL_s, evS_aug, evS_app, evS_ext, evS_pop, evS_exp, evS_ifs, evS_whl, evS_forr, evS_ret, evS_brk, evS_cnt, evS_pas, evS_rse, evS_tri, triO_nx, triO_rt, triO_bk, triO_ct, triO_er, evHs_nil, bindP_nm, bindP_tp2, wipe_nm, wipe_tp2, bin_add, bin_sub, cmp_eq, cmp_ne, cmp_lt, cmp_le, cmp_gt, cmp_ge, cmp_eqS, cmp_neS, isD_n, isD_nn, isD_t, isD_nt, isD_f, isD_nf, isN_int, isN_non, isN_lst, isN_tup, isN_obj, isN_str, DL.neg_int, blt_len, blt_lenT, blt_abs, blt_int, blt_intB, blt_max, blt_min, blt_list, blt_listT, blt_tuple, fieldOf_cons, fieldOf_nil, setField_nil, setField_cons, idx_lst, idx_tup, ↓reduceIte, reduceCtorEq, List.map_cons, List.map_nil, List.cons_append, List.nil_append, List.replicate, List.length_cons, List.length_nil, decide_true, decide_false, Bool.not_true, Bool.not_false, onS_some, nD, Nat.reduceEqDiff, Nat.reduceAdd, Nat.reduceSub, Nat.reduceMul, Nat.reduceLT, Nat.reduceLeDiff, Int.cast_ofNat_Int, Int.reduceAdd, Int.reduceSub, Int.reduceMul, Int.reduceNeg, Int.reduceLT, Int.reduceLE, Int.reduceEq, pick_z, pick_1, pick_2, hfw]
  refine for_k (fun pre st => ∃ (i : Option D), st = [some (.lst (ns.map .int)), some (.lst (l.map .int)), some (.tup [.int p, .tup (m.map nD)]), some (.int o), some (.obj 21 [(98, .int p), (99, .tup (m.map nD)), (100, .int (m.length - 1 : Nat)), (101, .int o)]), some (.str (ln ([102, 105, 101, 108, 100] :: tn p :: m.map tn))), j, some (.obj 21 [(98, .int p), (99, .tup (m.map nD)), (100, .int (m.length - 1 : Nat)), (101, .int o)]), some (.int s), some (.lst (w.map eO)), i1, i, some (.lst (w.map eO)), some (.str (ln (w.map tx))), some (.lst (pre.map fun o => .str ⟨(tx o).toArray⟩)), none]) ⟨_, rfl⟩ ?_ ?_
  · rintro pre x post st hp ⟨i, rfl⟩
    have hpl : (pre.map fun o => D.str ⟨(tx o).toArray⟩).length < big := by have := congrArg List.length hp; simp at this; rw [List.length_map, big_eq]; omega
    have hx := h1000 x (by rw [hp]; simp)
    cases x with
    | none =>
      simp -implicitDefEqProofs only [getR_z, getR_s, get_z, get_s, set_z, set_s, bind_ok, bind_er, bindL_ok, bindL_er, lbind_ok, lbind_er, lbindL_ok, lbindL_er, bindO_ok, bindO_er, lbindO_ok, lbindO_er, obind_nx, obind_rt, obind_bk, obind_ct, obind_er, ofO_some, calm_ok, outD_nx, outD_rt, outD_er, outI_nx, outI_er, kind0, kind1, kind2_int, kind2_bl, kind2_str, kind2_non, kind2_er, toL_ok, onB_t, onB_f, onO_t, onO_f, onB_dec, onO_dec, onB_not, onO_not, notR_bl, evE_var, evE_non, evE_bl, evE_int, evE_str, evE_glo, evE_bin, evE_neg, evE_cmp, evE_isc, evE_chn, evE_and, evE_or, evE_not, evE_ite, evE_lst, evE_tup, evE_idx, evE_slc, isOm, slc_tt, slc_tf, slc_ft, slc_ff, partR_int, evE_att, attR_obj, attR_exn, evE_prp, evE_call, evE_meth, evE_make, evE_blt, evE_lsr, evE_bm, bmR_str, evE_isi, isiR, isiD, lstR_some, onSt_some, keepL_dec, keepL_t, keepL_f, keepL_not, evE_cmpr, evE_cmpi, evEs_nil, evEs_cons, evI_seq, seqR_lst, seqR_tup, seqR_str, evI_rng1, evI_rng2, evI_rng3, evI_rev, revR_lst, revR_tup, evI_zip, zipR_lst, evI_enm, evSs_nil, evSs_cons, evS_asg, evS_asgT, tupO_2, tupO_3, evS_par, onI_int, onP_some, evS_sti, evS_swp, evS_stf, augO_add, augO_sub, onV_z, onV_s, onL_z, onL_s, evS_aug, evS_app, evS_ext, evS_pop, evS_exp, evS_ifs, evS_whl, evS_forr, evS_ret, evS_brk, evS_cnt, evS_pas, evS_rse, evS_tri, triO_nx, triO_rt, triO_bk, triO_ct, triO_er, evHs_nil, bindP_nm, bindP_tp2, wipe_nm, wipe_tp2, bin_add, bin_sub, cmp_eq, cmp_ne, cmp_lt, cmp_le, cmp_gt, cmp_ge, cmp_eqS, cmp_neS, isD_n, isD_nn, isD_t, isD_nt, isD_f, isD_nf, isN_int, isN_non, isN_lst, isN_tup, isN_obj, isN_str, DL.neg_int, blt_len, blt_lenT, blt_abs, blt_int, blt_intB, blt_max, blt_min, blt_list, blt_listT, blt_tuple, fieldOf_cons, fieldOf_nil, setField_nil, setField_cons, idx_lst, idx_tup, ↓reduceIte, reduceCtorEq, List.map_cons, List.map_nil, List.cons_append, List.nil_append, List.replicate, List.length_cons, List.length_nil, decide_true, decide_false, Bool.not_true, Bool.not_false, onS_some, nD, Nat.reduceEqDiff, Nat.reduceAdd, Nat.reduceSub, Nat.reduceMul, Nat.reduceLT, Nat.reduceLeDiff, Int.cast_ofNat_Int, Int.reduceAdd, Int.reduceSub, Int.reduceMul, Int.reduceNeg, Int.reduceLT, Int.reduceLE, Int.reduceEq, pick_z, pick_1, pick_2, eO, hpl, show Str.ofString "?" = ⟨[63].toArray⟩ from by decide +kernel]
      exact ⟨_, by rw [map_snoc, tx_none]⟩
    | some n =>
      simp -implicitDefEqProofs only [getR_z, getR_s, get_z, get_s, set_z, set_s, bind_ok, bind_er, bindL_ok, bindL_er, lbind_ok, lbind_er, lbindL_ok, lbindL_er, bindO_ok, bindO_er, lbindO_ok, lbindO_er, obind_nx, obind_rt, obind_bk, obind_ct, obind_er, ofO_some, calm_ok, outD_nx, outD_rt, outD_er, outI_nx, outI_er, kind0, kind1, kind2_int, kind2_bl, kind2_str, kind2_non, kind2_er, toL_ok, onB_t, onB_f, onO_t, onO_f, onB_dec, onO_dec, onB_not, onO_not, notR_bl, evE_var, evE_non, evE_bl, evE_int, evE_str, evE_glo, evE_bin, evE_neg, evE_cmp, evE_isc, evE_chn, evE_and, evE_or, evE_not, evE_ite, evE_lst, evE_tup, evE_idx, evE_slc, isOm, slc_tt, slc_tf, slc_ft, slc_ff, partR_int, evE_att, attR_obj, attR_exn, evE_prp, evE_call, evE_meth, evE_make, evE_blt, evE_lsr, evE_bm, bmR_str, evE_isi, isiR, isiD, lstR_some, onSt_some, keepL_dec, keepL_t, keepL_f, keepL_not, evE_cmpr, evE_cmpi, evEs_nil, evEs_cons, evI_seq, seqR_lst, seqR_tup, seqR_str, evI_rng1, evI_rng2, evI_rng3, evI_rev, revR_lst, revR_tup, evI_zip, zipR_lst, evI_enm, evSs_nil, evSs_cons, evS_asg, evS_asgT, tupO_2, tupO_3, evS_par, onI_int, onP_some, evS_sti, evS_swp, evS_stf, augO_add, augO_sub, onV_z, onV_s, onL_z, onL_s, evS_aug, evS_app, evS_ext, evS_pop, evS_exp, evS_ifs, evS_whl, evS_forr, evS_ret, evS_brk, evS_cnt, evS_pas, evS_rse, evS_tri, triO_nx, triO_rt, triO_bk, triO_ct, triO_er, evHs_nil, bindP_nm, bindP_tp2, wipe_nm, wipe_tp2, bin_add, bin_sub, cmp_eq, cmp_ne, cmp_lt, cmp_le, cmp_gt, cmp_ge, cmp_eqS, cmp_neS, isD_n, isD_nn, isD_t, isD_nt, isD_f, isD_nf, isN_int, isN_non, isN_lst, isN_tup, isN_obj, isN_str, DL.neg_int, blt_len, blt_lenT, blt_abs, blt_int, blt_intB, blt_max, blt_min, blt_list, blt_listT, blt_tuple, fieldOf_cons, fieldOf_nil, setField_nil, setField_cons, idx_lst, idx_tup, ↓reduceIte, reduceCtorEq, List.map_cons, List.map_nil, List.cons_append, List.nil_append, List.replicate, List.length_cons, List.length_nil, decide_true, decide_false, Bool.not_true, Bool.not_false, onS_some, nD, Nat.reduceEqDiff, Nat.reduceAdd, Nat.reduceSub, Nat.reduceMul, Nat.reduceLT, Nat.reduceLeDiff, Int.cast_ofNat_Int, Int.reduceAdd, Int.reduceSub, Int.reduceMul, Int.reduceNeg, Int.reduceLT, Int.reduceLE, Int.reduceEq, pick_z, pick_1, pick_2, eO, hpl, str_int (hx n rfl)]
      exact ⟨_, by rw [map_snoc, tx_some]⟩
  rintro st ⟨i, rfl⟩
  have hj := join_D (c := 32) (f := tx) (show w.length ≤ 5000 by omega) (fun x hx => by have := tx_len (h1000 x hx); omega)
  have hb : w.length ≤ big := by rw [big_eq]; omega
  simp -implicitDefEqProofs only [getR_z, getR_s, get_z, get_s, set_z, set_s, bind_ok, bind_er, bindL_ok, bindL_er, lbind_ok, lbind_er, lbindL_ok, lbindL_er, bindO_ok, bindO_er, lbindO_ok, lbindO_er, obind_nx, obind_rt, obind_bk, obind_ct, obind_er, ofO_some, calm_ok, outD_nx, outD_rt, outD_er, outI_nx, outI_er, kind0, kind1, kind2_int, kind2_bl, kind2_str, kind2_non, kind2_er, toL_ok, onB_t, onB_f, onO_t, onO_f, onB_dec, onO_dec, onB_not, onO_not, notR_bl, evE_var, evE_non, evE_bl, evE_int, evE_str, evE_glo, evE_bin, evE_neg, evE_cmp, evE_isc, evE_chn, evE_and, evE_or, evE_not, evE_ite, evE_lst, evE_tup, evE_idx, evE_slc, isOm, slc_tt, slc_tf, slc_ft, slc_ff, partR_int, evE_att, attR_obj, attR_exn, evE_prp, evE_call, evE_meth, evE_make, evE_blt, evE_lsr, evE_bm, bmR_str, evE_isi, isiR, isiD, lstR_some, onSt_some, keepL_dec, keepL_t, keepL_f, keepL_not, evE_cmpr, evE_cmpi, evEs_nil, evEs_cons, evI_seq, seqR_lst, seqR_tup, seqR_str, evI_rng1, evI_rng2, evI_rng3, evI_rev, revR_lst, revR_tup, evI_zip, zipR_lst, evI_enm, evSs_nil, evSs_cons, evS_asg, evS_asgT, tupO_2, tupO_3, evS_par, onI_int, onP_some, evS_sti, evS_swp, evS_stf, augO_add, augO_sub, onV_z, onV_s, onL_z, onL_s, evS_aug, evS_app, evS_ext, evS_pop, evS_exp, evS_ifs, evS_whl, evS_forr, evS_ret, evS_brk, evS_cnt, evS_pas, evS_rse, evS_tri, triO_nx, triO_rt, triO_bk, triO_ct, triO_er, evHs_nil, bindP_nm, bindP_tp2, wipe_nm, wipe_tp2, bin_add, bin_sub, cmp_eq, cmp_ne, cmp_lt, cmp_le, cmp_gt, cmp_ge, cmp_eqS, cmp_neS, isD_n, isD_nn, isD_t, isD_nt, isD_f, isD_nf, isN_int, isN_non, isN_lst, isN_tup, isN_obj, isN_str, DL.neg_int, blt_len, blt_lenT, blt_abs, blt_int, blt_intB, blt_max, blt_min, blt_list, blt_listT, blt_tuple, fieldOf_cons, fieldOf_nil, setField_nil, setField_cons, idx_lst, idx_tup, ↓reduceIte, reduceCtorEq, List.map_cons, List.map_nil, List.cons_append, List.nil_append, List.replicate, List.length_cons, List.length_nil, decide_true, decide_false, Bool.not_true, Bool.not_false, onS_some, nD, Nat.reduceEqDiff, Nat.reduceAdd, Nat.reduceSub, Nat.reduceMul, Nat.reduceLT, Nat.reduceLeDiff, Int.cast_ofNat_Int, Int.reduceAdd, Int.reduceSub, Int.reduceMul, Int.reduceNeg, Int.reduceLT, Int.reduceLE, Int.reduceEq, pick_z, pick_1, pick_2, ofs_sp, hj, show (⟨(joinAt [32] (w.map tx)).toArray⟩ : Str) = ln (w.map tx) from rfl, enc_eO.cmpnL (by decide), hpw, List.length_map, hb]
  have hint : ∀ n : Int, TT.fn 1004 [.int n] = .ok (.bl true) := by
    intro n
    rw [fx__law_is_integer]
    refine df_eq rfl ?_
    simp -implicitDefEqProofs only [getR_z, getR_s, get_z, get_s, set_z, set_s, bind_ok, bind_er, bindL_ok, bindL_er, lbind_ok, lbind_er, lbindL_ok, lbindL_er, bindO_ok, bindO_er, lbindO_ok, lbindO_er, obind_nx, obind_rt, obind_bk, obind_ct, obind_er, ofO_some, calm_ok, outD_nx, outD_rt, outD_er, outI_nx, outI_er, kind0, kind1, kind2_int, kind2_bl, kind2_str, kind2_non, kind2_er, toL_ok, onB_t, onB_f, onO_t, onO_f, onB_dec, onO_dec, onB_not, onO_not, notR_bl, evE_var, evE_non, evE_bl, evE_int, evE_str, evE_glo, evE_bin, evE_neg, evE_cmp, evE_isc, evE_chn, evE_and, evE_or, evE_not, evE_ite, evE_lst, evE_tup, evE_idx, evE_slc, isOm, slc_tt, slc_tf, slc_ft, slc_ff, partR_int, evE_att, attR_obj, attR_exn, evE_prp, evE_call, evE_meth, evE_make, evE_blt, evE_lsr, evE_bm, bmR_str, evE_isi, isiR, isiD, lstR_some, onSt_some, keepL_dec, keepL_t, keepL_f, keepL_not, evE_cmpr, evE_cmpi, evEs_nil, evEs_cons, evI_seq, seqR_lst, seqR_tup, seqR_str, evI_rng1, evI_rng2, evI_rng3, evI_rev, revR_lst, revR_tup, evI_zip, zipR_lst, evI_enm, evSs_nil, evSs_cons, evS_asg, evS_asgT, tupO_2, tupO_3, evS_par, onI_int, onP_some, evS_sti, evS_swp, evS_stf, augO_add, augO_sub, onV_z, onV_s, onL_z, onL_s, evS_aug, evS_app, evS_ext, evS_pop, evS_exp, evS_ifs, evS_whl, evS_forr, evS_ret, evS_brk, evS_cnt, evS_pas, evS_rse, evS_tri, triO_nx, triO_rt, triO_bk, triO_ct, triO_er, evHs_nil, bindP_nm, bindP_tp2, wipe_nm, wipe_tp2, bin_add, bin_sub, cmp_eq, cmp_ne, cmp_lt, cmp_le, cmp_gt, cmp_ge, cmp_eqS, cmp_neS, isD_n, isD_nn, isD_t, isD_nt, isD_f, isD_nf, isN_int, isN_non, isN_lst, isN_tup, isN_obj, isN_str, DL.neg_int, blt_len, blt_lenT, blt_abs, blt_int, blt_intB, blt_max, blt_min, blt_list, blt_listT, blt_tuple, fieldOf_cons, fieldOf_nil, setField_nil, setField_cons, idx_lst, idx_tup, ↓reduceIte, reduceCtorEq, List.map_cons, List.map_nil, List.cons_append, List.nil_append, List.replicate, List.length_cons, List.length_nil, decide_true, decide_false, Bool.not_true, Bool.not_false, onS_some, nD, Nat.reduceEqDiff, Nat.reduceAdd, Nat.reduceSub, Nat.reduceMul, Nat.reduceLT, Nat.reduceLeDiff, Int.cast_ofNat_Int, Int.reduceAdd, Int.reduceSub, Int.reduceMul, Int.reduceNeg, Int.reduceLT, Int.reduceLE, Int.reduceEq, pick_z, pick_1, pick_2]
    rfl
  rw [mapL_filter (e := eO) (k := eO) (p := fun _ => false) (fun x hx => by
    cases x with
    | none => simp -implicitDefEqProofs only [getR_z, getR_s, get_z, get_s, set_z, set_s, bind_ok, bind_er, bindL_ok, bindL_er, lbind_ok, lbind_er, lbindL_ok, lbindL_er, bindO_ok, bindO_er, lbindO_ok, lbindO_er, obind_nx, obind_rt, obind_bk, obind_ct, obind_er, ofO_some, calm_ok, outD_nx, outD_rt, outD_er, outI_nx, outI_er, kind0, kind1, kind2_int, kind2_bl, kind2_str, kind2_non, kind2_er, toL_ok, onB_t, onB_f, onO_t, onO_f, onB_dec, onO_dec, onB_not, onO_not, notR_bl, evE_var, evE_non, evE_bl, evE_int, evE_str, evE_glo, evE_bin, evE_neg, evE_cmp, evE_isc, evE_chn, evE_and, evE_or, evE_not, evE_ite, evE_lst, evE_tup, evE_idx, evE_slc, isOm, slc_tt, slc_tf, slc_ft, slc_ff, partR_int, evE_att, attR_obj, attR_exn, evE_prp, evE_call, evE_meth, evE_make, evE_blt, evE_lsr, evE_bm, bmR_str, evE_isi, isiR, isiD, lstR_some, onSt_some, keepL_dec, keepL_t, keepL_f, keepL_not, evE_cmpr, evE_cmpi, evEs_nil, evEs_cons, evI_seq, seqR_lst, seqR_tup, seqR_str, evI_rng1, evI_rng2, evI_rng3, evI_rev, revR_lst, revR_tup, evI_zip, zipR_lst, evI_enm, evSs_nil, evSs_cons, evS_asg, evS_asgT, tupO_2, tupO_3, evS_par, onI_int, onP_some, evS_sti, evS_swp, evS_stf, augO_add, augO_sub, onV_z, onV_s, onL_z, onL_s, evS_aug, evS_app, evS_ext, evS_pop, evS_exp, evS_ifs, evS_whl, evS_forr, evS_ret, evS_brk, evS_cnt, evS_pas, evS_rse, evS_tri, triO_nx, triO_rt, triO_bk, triO_ct, triO_er, evHs_nil, bindP_nm, bindP_tp2, wipe_nm, wipe_tp2, bin_add, bin_sub, cmp_eq, cmp_ne, cmp_lt, cmp_le, cmp_gt, cmp_ge, cmp_eqS, cmp_neS, isD_n, isD_nn, isD_t, isD_nt, isD_f, isD_nf, isN_int, isN_non, isN_lst, isN_tup, isN_obj, isN_str, DL.neg_int, blt_len, blt_lenT, blt_abs, blt_int, blt_intB, blt_max, blt_min, blt_list, blt_listT, blt_tuple, fieldOf_cons, fieldOf_nil, setField_nil, setField_cons, idx_lst, idx_tup, ↓reduceIte, reduceCtorEq, List.map_cons, List.map_nil, List.cons_append, List.nil_append, List.replicate, List.length_cons, List.length_nil, decide_true, decide_false, Bool.not_true, Bool.not_false, onS_some, nD, Nat.reduceEqDiff, Nat.reduceAdd, Nat.reduceSub, Nat.reduceMul, Nat.reduceLT, Nat.reduceLeDiff, Int.cast_ofNat_Int, Int.reduceAdd, Int.reduceSub, Int.reduceMul, Int.reduceNeg, Int.reduceLT, Int.reduceLE, Int.reduceEq, pick_z, pick_1, pick_2, eO]
    | some n => simp -implicitDefEqProofs only [getR_z, getR_s, get_z, get_s, set_z, set_s, bind_ok, bind_er, bindL_ok, bindL_er, lbind_ok, lbind_er, lbindL_ok, lbindL_er, bindO_ok, bindO_er, lbindO_ok, lbindO_er, obind_nx, obind_rt, obind_bk, obind_ct, obind_er, ofO_some, calm_ok, outD_nx, outD_rt, outD_er, outI_nx, outI_er, kind0, kind1, kind2_int, kind2_bl, kind2_str, kind2_non, kind2_er, toL_ok, onB_t, onB_f, onO_t, onO_f, onB_dec, onO_dec, onB_not, onO_not, notR_bl, evE_var, evE_non, evE_bl, evE_int, evE_str, evE_glo, evE_bin, evE_neg, evE_cmp, evE_isc, evE_chn, evE_and, evE_or, evE_not, evE_ite, evE_lst, evE_tup, evE_idx, evE_slc, isOm, slc_tt, slc_tf, slc_ft, slc_ff, partR_int, evE_att, attR_obj, attR_exn, evE_prp, evE_call, evE_meth, evE_make, evE_blt, evE_lsr, evE_bm, bmR_str, evE_isi, isiR, isiD, lstR_some, onSt_some, keepL_dec, keepL_t, keepL_f, keepL_not, evE_cmpr, evE_cmpi, evEs_nil, evEs_cons, evI_seq, seqR_lst, seqR_tup, seqR_str, evI_rng1, evI_rng2, evI_rng3, evI_rev, revR_lst, revR_tup, evI_zip, zipR_lst, evI_enm, evSs_nil, evSs_cons, evS_asg, evS_asgT, tupO_2, tupO_3, evS_par, onI_int, onP_some, evS_sti, evS_swp, evS_stf, augO_add, augO_sub, onV_z, onV_s, onL_z, onL_s, evS_aug, evS_app, evS_ext, evS_pop, evS_exp, evS_ifs, evS_whl, evS_forr, evS_ret, evS_brk, evS_cnt, evS_pas, evS_rse, evS_tri, triO_nx, triO_rt, triO_bk, triO_ct, triO_er, evHs_nil, bindP_nm, bindP_tp2, wipe_nm, wipe_tp2, bin_add, bin_sub, cmp_eq, cmp_ne, cmp_lt, cmp_le, cmp_gt, cmp_ge, cmp_eqS, cmp_neS, isD_n, isD_nn, isD_t, isD_nt, isD_f, isD_nf, isN_int, isN_non, isN_lst, isN_tup, isN_obj, isN_str, DL.neg_int, blt_len, blt_lenT, blt_abs, blt_int, blt_intB, blt_max, blt_min, blt_list, blt_listT, blt_tuple, fieldOf_cons, fieldOf_nil, setField_nil, setField_cons, idx_lst, idx_tup, ↓reduceIte, reduceCtorEq, List.map_cons, List.map_nil, List.cons_append, List.nil_append, List.replicate, List.length_cons, List.length_nil, decide_true, decide_false, Bool.not_true, Bool.not_false, onS_some, nD, Nat.reduceEqDiff, Nat.reduceAdd, Nat.reduceSub, Nat.reduceMul, Nat.reduceLT, Nat.reduceLeDiff, Int.cast_ofNat_Int, Int.reduceAdd, Int.reduceSub, Int.reduceMul, Int.reduceNeg, Int.reduceLT, Int.reduceLE, Int.reduceEq, pick_z, pick_1, pick_2, eO, hint n])]
  simp -implicitDefEqProofs only [getR_z, getR_s, get_z, get_s, set_z, set_s, bind_ok, bind_er, bindL_ok, bindL_er, lbind_ok, lbind_er, lbindL_ok, lbindL_er, bindO_ok, bindO_er, lbindO_ok, lbindO_er, obind_nx, obind_rt, obind_bk, obind_ct, obind_er, ofO_some, calm_ok, outD_nx, outD_rt, outD_er, outI_nx, outI_er, kind0, kind1, kind2_int, kind2_bl, kind2_str, kind2_non, kind2_er, toL_ok, onB_t, onB_f, onO_t, onO_f, onB_dec, onO_dec, onB_not, onO_not, notR_bl, evE_var, evE_non, evE_bl, evE_int, evE_str, evE_glo, evE_bin, evE_neg, evE_cmp, evE_isc, evE_chn, evE_and, evE_or, evE_not, evE_ite, evE_lst, evE_tup, evE_idx, evE_slc, isOm, slc_tt, slc_tf, slc_ft, slc_ff, partR_int, evE_att, attR_obj, attR_exn, evE_prp, evE_call, evE_meth, evE_make, evE_blt, evE_lsr, evE_bm, bmR_str, evE_isi, isiR, isiD, lstR_some, onSt_some, keepL_dec, keepL_t, keepL_f, keepL_not, evE_cmpr, evE_cmpi, evEs_nil, evEs_cons, evI_seq, seqR_lst, seqR_tup, seqR_str, evI_rng1, evI_rng2, evI_rng3, evI_rev, revR_lst, revR_tup, evI_zip, zipR_lst, evI_enm, evSs_nil, evSs_cons, evS_asg, evS_asgT, tupO_2, tupO_3, evS_par, onI_int, onP_some, evS_sti, evS_swp, evS_stf, augO_add, augO_sub, onV_z, onV_s, onL_z, onL_s, evS_aug, evS_app, evS_ext, evS_pop, evS_exp, evS_ifs, evS_whl, evS_forr, evS_ret, evS_brk, evS_cnt, evS_pas, evS_rse, evS_tri, triO_nx, triO_rt, triO_bk, triO_ct, triO_er, evHs_nil, bindP_nm, bindP_tp2, wipe_nm, wipe_tp2, bin_add, bin_sub, cmp_eq, cmp_ne, cmp_lt, cmp_le, cmp_gt, cmp_ge, cmp_eqS, cmp_neS, isD_n, isD_nn, isD_t, isD_nt, isD_f, isD_nf, isN_int, isN_non, isN_lst, isN_tup, isN_obj, isN_str, DL.neg_int, blt_len, blt_lenT, blt_abs, blt_int, blt_intB, blt_max, blt_min, blt_list, blt_listT, blt_tuple, fieldOf_cons, fieldOf_nil, setField_nil, setField_cons, idx_lst, idx_tup, ↓reduceIte, reduceCtorEq, List.map_cons, List.map_nil, List.cons_append, List.nil_append, List.replicate, List.length_cons, List.length_nil, decide_true, decide_false, Bool.not_true, Bool.not_false, onS_some, nD, Nat.reduceEqDiff, Nat.reduceAdd, Nat.reduceSub, Nat.reduceMul, Nat.reduceLT, Nat.reduceLeDiff, Int.cast_ofNat_Int, Int.reduceAdd, Int.reduceSub, Int.reduceMul, Int.reduceNeg, Int.reduceLT, Int.reduceLE, Int.reduceEq, pick_z, pick_1, pick_2, show ((w.filter fun _ => false).map eO) = [] from by simp]
  rfl
end Lw
end

open PySem PySem.W PySem.Calls PyProof.Rows
set_option maxRecDepth 1000000
set_option maxHeartbeats 0
theorem PySem.Challenge.cw_nearestword_k74_written_fields_and_words_holds : PySem.Challenge.rw_nearestword_k74_written_fields_and_words.Holds := by
  w_on; o_law
  refine HandSHeadRun.head_any (r := OpenLaw.row PySem.Challenge.rw_nearestword_k74_written_fields_and_words) (q := view (OpenLaw.row PySem.Challenge.rw_nearestword_k74_written_fields_and_words).prog [29]) (H := Lw.hk) (ob := Lw.ob) (M := 4000) (loose := Lw.loose) (d := HandSHeadRun.topDef (OpenLaw.row PySem.Challenge.rw_nearestword_k74_written_fields_and_words).prog 29) (kwd := []) Lw.ob_eq
    (by kernel_rfl) (fun s => by kernel_rfl) Lw.run (by kernel_rfl) (by kernel_rfl) (by kernel_rfl) (by rfl) (by first | assumption | decide +kernel) (by decide +kernel) ⟨rfl, rfl, rfl, rfl, rfl, by decide +kernel⟩ ?hw ?hc
  case hw => w_witness2
  case hc =>
    refine DL.walk_D (l := PySem.Challenge.rw_nearestword_k74_written_fields_and_words) (n := 63) (k := 2 * Lw.LV + 2) (x := "_law_script") rfl (by decide) (by kernel_rfl) ⟨rfl, by decide, by decide⟩ ?F
    intro w mg fa h Y G hmg0
    obtain ⟨K, KX, c⟩ := Y
    have hmg : mg ("law" : PySem.Str) = some (.ref fa) := by
      have e : (HandSHeadRun.topDef (OpenLaw.row PySem.Challenge.rw_nearestword_k74_written_fields_and_words).prog 29).name = ("law" : PySem.Str) := by kernel_rfl
      rw [← e]
      exact hmg0
    obtain ⟨fd, hb, hF⟩ := Lw.facts (P := (PySem.Challenge.rw_nearestword_k74_written_fields_and_words).prog) (w := w) KX G hmg c
    exact ⟨Lw.mkC K, fd, DL.evDef Lw.TT Lw.U Lw.c_law, Lw.c_law.kind, KX, hb, Lw.plain, hF⟩
