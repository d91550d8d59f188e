import PyProof.Rows.All
import Wide.All
import OpenK.AllK
import Wide.FinOn
import HandS.ForMost
import HandS.ForExc
import HandS.Wide
import HandS.WideBits
import HandS.Property
import HandS.IsInst
import HandS.CallSlots
import HandS.ExcInit
import HandS.Flow
import HandS.Style
import HandS.SortInts
import HandS.Conv
import HandS.OwnEq
import HandS.Text
import HandS.Words
import HandS.Codes
import KE.GoesEnum
import HandS.Star
import PySem.Challenge.RW_lacekeys_k27_cells_in_order_by_all_words
set_option Elab.async false
set_option linter.all false
set_option maxRecDepth 100000
set_option maxHeartbeats 2000000
namespace PyV
open PySem

/-! ## data, states, answers of the little interpreter -/
inductive D where
  | non | bl (b : Bool) | int (i : Int) | str (s : List Nat)
  | lst (ds : List D) | tup (ds : List D) | dct (ks vs : List D)
  | obj (c : Nat) (ns : List Str) (vs : List D) | exc (c : Nat) (ns : List Str) (vs : List D)

/-- a slot: nothing, a value that nobody changes any more, a list (dict, object) that is this slot's alone -/
inductive Sl where
  | emp | val (d : D) | own (d : D)
abbrev Ss := List Sl
/-- what an expression gives: a value, a new list of nobody's as yet, the own list of slot i -/
inductive Rv where
  | val (d : D) | own (d : D) | ali (i : Nat)
/-- an exception: its class, its fields -/
structure Ex where
  c : Nat
  ns : List Str
  vs : List D
inductive R (α : Type) where
  | ok (a : α) (s : Ss) | ex (x : Ex) (s : Ss) | bad
@[simp] def R.bind {α β : Type} (r : R α) (f : α → Ss → R β) : R β := match r with
  | .ok a s => f a s
  | .ex x s => .ex x s
  | .bad => .bad
/-- what a def gives: its value (whether it is a new list of nobody's), the arguments that it may change -/
inductive FR where
  | ok (d : D) (fr : Bool) (io : Option D) | ex (x : Ex) (io : Option D) | bad
abbrev Fn := List D → FR
/-- how a block ends -/
inductive Fl where
  | nx | rt (d : D) (fr : Bool) | bk | ct

@[simp] def sl? (s : Ss) (i : Nat) : Sl := s.getD i .emp
/-- the data behind a result -/
@[simp] def rd (s : Ss) : Rv → Option D
  | .val d => some d
  | .own d => some d
  | .ali i => match sl? s i with
    | .own d => some d
    | .val d => some d
    | .emp => none
/-- kept by somebody: from now on nobody changes it -/
@[simp] def fz (s : Ss) : Rv → Option (D × Ss)
  | .val d => some (d, s)
  | .own d => some (d, s)
  | .ali i => match sl? s i with
    | .own d => some (d, s.set i (.val d))
    | .val d => some (d, s)
    | .emp => none
@[simp] def fzs : Ss → List Rv → Option (List D × Ss)
  | s, [] => some ([], s)
  | s, r :: rs => match fz s r with
    | none => none
    | some (d, s1) => match fzs s1 rs with
      | none => none
      | some (ds, s2) => some (d :: ds, s2)
@[simp] def rds (s : Ss) : List Rv → Option (List D)
  | [] => some []
  | r :: rs => match rd s r, rds s rs with
    | some d, some ds => some (d :: ds)
    | _, _ => none

/-! ## operators -/
inductive Op where | add | sub | mul | fdiv | mod | pow | shl | shr | band | bor | bxor
inductive Co where | eq | ne | lt | le | gt | ge | inn | nin

@[simp] def lim : Nat := 16777216
def smallI (i : Int) : Bool := decide (i.natAbs < 2 ^ 64)
def mulOk (i j : Int) : Bool := smallI i || smallI j || decide (i.natAbs.log2 + j.natAbs.log2 < 1000000)
def divOk (j : Int) : Bool := decide (0 < j) && decide (j.natAbs.log2 < 9000)
def powOk (i j : Int) : Bool := decide (0 ≤ j) && decide ((Builtin.Int.intBits i : Int) * j ≤ 2 ^ 27)
def shlOk (i j : Int) : Bool := decide (0 ≤ j) && decide ((Builtin.Int.intBits i : Int) + j ≤ 2 ^ 27)

/-- repeated -/
def reps {α : Type} (k : Nat) (xs : List α) : List α := (List.replicate k xs).flatten
/-- a new list is nobody's as yet -/
@[simp] def out : D → Rv
  | .lst ds => .own (.lst ds)
  | .dct ks vs => .own (.dct ks vs)
  | d => .val d

@[simp] def binD : Op → D → D → Option D
  | .add, .int i, .int j => some (.int (i + j))
  | .add, .str a, .str b => if a.length + b.length ≤ lim then some (.str (a ++ b)) else none
  | .add, .lst a, .lst b => if a.length + b.length ≤ lim then some (.lst (a ++ b)) else none
  | .add, .tup a, .tup b => if a ≠ [] ∧ b ≠ [] ∧ a.length + b.length ≤ lim then some (.tup (a ++ b)) else none
  | .sub, .int i, .int j => some (.int (i - j))
  | .mul, .int i, .int j => if mulOk i j = true then some (.int (i * j)) else none
  | .mul, .str a, .int j => if a.length * j.toNat ≤ lim ∧ -(lim : Int) ≤ j ∧ j ≤ (lim : Int) then some (.str (reps j.toNat a)) else none
  | .mul, .lst a, .int j => if a.length * j.toNat ≤ lim ∧ -(lim : Int) ≤ j ∧ j ≤ (lim : Int) then some (.lst (reps j.toNat a)) else none
  | .fdiv, .int i, .int j => if divOk j = true then some (.int (i / j)) else none
  | .mod, .int i, .int j => if 0 < j then some (.int (i % j)) else none
  | .pow, .int i, .int j => if powOk i j = true then some (.int (i ^ j.toNat)) else none
  | .shl, .int i, .int j => if shlOk i j = true then some (.int (i * 2 ^ j.toNat)) else none
  | .shr, .int i, .int j => if 0 ≤ j then some (.int (i / 2 ^ j.toNat)) else none
  | .band, .int i, .int j => some (.int (Builtin.bitAnd i j))
  | .bor, .int i, .int j => some (.int (Builtin.bitOr i j))
  | .bxor, .int i, .int j => some (.int (Builtin.bitXor i j))
  | _, _, _ => none

mutual
def D.py : D → PyData
  | .non => .none
  | .bl b => .bool b
  | .int i => .int i
  | .str s => .str ⟨s.toArray⟩
  | .lst ds => .list (D.pys ds)
  | .tup ds => .tuple (D.pys ds)
  | .dct _ _ => .none
  | .obj _ _ _ => .none
  | .exc _ _ _ => .none
def D.pys : List D → List PyData
  | [] => []
  | d :: ds => D.py d :: D.pys ds
end
/-- plain data, at most so deep -/
def ck : Nat → D → Bool
  | _, .non => true
  | _, .bl _ => true
  | _, .int _ => true
  | _, .str _ => true
  | 0, _ => false
  | n + 1, .lst ds => ds.all (ck n)
  | n + 1, .tup ds => ds.all (ck n)
  | _, _ => false
def eqD (d e : D) : Bool := PyData.eqv d.py e.py
/-- is it in the list: ints, texts, None, bools alone -/
def flat : D → Bool
  | .non => true
  | .bl _ => true
  | .int _ => true
  | .str _ => true
  | _ => false
def inD (d : D) (ds : List D) : Bool := ds.any fun e => eqD e d
@[simp] def cmpD : Co → D → D → Option Bool
  | .eq, d, e => if ck 8 d = true ∧ ck 8 e = true then some (eqD d e) else none
  | .ne, d, e => if ck 8 d = true ∧ ck 8 e = true then some (!eqD d e) else none
  | .lt, .int i, .int j => some (decide (i < j))
  | .le, .int i, .int j => some (decide (i ≤ j))
  | .gt, .int i, .int j => some (decide (j < i))
  | .ge, .int i, .int j => some (decide (j ≤ i))
  | .inn, d, .lst es => if flat d = true ∧ es.all flat = true then some (inD d es) else none
  | .inn, d, .tup es => if flat d = true ∧ es.all flat = true then some (inD d es) else none
  | .nin, d, .lst es => if flat d = true ∧ es.all flat = true then some (!inD d es) else none
  | .nin, d, .tup es => if flat d = true ∧ es.all flat = true then some (!inD d es) else none
  | _, _, _ => none

/-- at a place of any sign -/
def atD {α : Type} (xs : List α) (i : Int) : Option α := if 0 ≤ i then xs[i.toNat]? else if -(xs.length : Int) ≤ i then xs[(i + xs.length).toNat]? else none
def placeD (n : Nat) (i : Int) : Option Nat := if 0 ≤ i then (if i < n then some i.toNat else none) else if -(n : Int) ≤ i then some (i + n).toNat else none
@[simp] def subD : D → D → Option D
  | .lst ds, .int i => atD ds i
  | .tup ds, .int i => atD ds i
  | .str s, .int i => if s.length ≤ lim then (atD s i).map fun c => .str [c] else none
  | _, _ => none
def clipD (n : Nat) (d : Nat) : Option Int → Nat
  | none => d
  | some i => if i < 0 then (i + (n : Int)).toNat else min i.toNat n
def cutD {α : Type} (xs : List α) (lo hi : Option Int) : List α := (xs.drop (clipD xs.length 0 lo)).take (clipD xs.length xs.length hi - clipD xs.length 0 lo)
@[simp] def slcD : D → Option Int → Option Int → Option D
  | .lst ds, lo, hi => some (.lst (cutD ds lo hi))
  | .str s, lo, hi => if s.length ≤ lim then some (.str (cutD s lo hi)) else none
  | _, _, _ => none
@[simp] def revD : D → Option D
  | .lst ds => some (.lst ds.reverse)
  | .str s => if s.length ≤ lim then some (.str s.reverse) else none
  | .tup ds => some (.tup ds.reverse)
  | _ => none

/-! ## built-ins and methods -/
inductive Bi where
  | len | abs | int | str | repr | list | tuple | max | min | sum | all | any | sorted | sortedR | set | bool | divmod
inductive Mt where
  | count | join | split | partition | upper | find | index

mutual
/-- room for the text of it -/
def szD : D → Nat
  | .non => 5
  | .bl _ => 6
  | .int _ => 1921
  | .str s => 10 * s.length + 3
  | .lst ds => szs ds + 3
  | .tup ds => szs ds + 4
  | .dct _ _ => 0
  | .obj _ _ _ => 0
  | .exc _ _ _ => 0
def szs : List D → Nat
  | [] => 0
  | d :: ds => szD d + 2 + szs ds
end
mutual
def showOk : D → Bool
  | .int i => decide (i.natAbs.log2 < 1920)
  | .lst ds => showOks ds
  | .tup ds => showOks ds
  | .non => true
  | .bl _ => true
  | .str _ => true
  | .dct _ _ => false
  | .obj _ _ _ => false
  | .exc _ _ _ => false
def showOks : List D → Bool
  | [] => true
  | d :: ds => showOk d && showOks ds
end
def reprD (d : D) : List Nat := d.py.shown.cps.toList

/-- all ints, bools, texts -/
@[simp] def allI : List D → Option (List Int)
  | [] => some []
  | .int i :: ds => (allI ds).map (i :: ·)
  | _ :: _ => none
@[simp] def allB : List D → Option (List Bool)
  | [] => some []
  | .bl i :: ds => (allB ds).map (i :: ·)
  | _ :: _ => none
@[simp] def allS : List D → Option (List (List Nat))
  | [] => some []
  | .str i :: ds => (allS ds).map (i :: ·)
  | _ :: _ => none
def maxI : List Int → Int
  | [] => 0
  | [n] => n
  | n :: m :: ns => if n ≤ maxI (m :: ns) then maxI (m :: ns) else n
def minI : List Int → Int
  | [] => 0
  | [n] => n
  | n :: m :: ns => if minI (m :: ns) ≤ n then minI (m :: ns) else n
def sortI (ns : List Int) : List Int := ns.mergeSort fun i j => decide (i ≤ j)
/-- a number's text -/
def strI (i : Int) : List Nat := (Str.ofString (toString i)).cps.toList
@[simp] def biD : Bi → List D → Option D
  | .len, [.lst ds] => some (.int ds.length)
  | .len, [.tup ds] => some (.int ds.length)
  | .len, [.str s] => if s.length ≤ lim then some (.int s.length) else none
  | .int, [.int i] => some (.int i)
  | .int, [.bl b] => some (.int (if b = true then 1 else 0))
  | .abs, [.int i] => some (.int (if i < 0 then -i else i))
  | .max, [.int i, .int j] => some (.int (if j > i then j else i))
  | .min, [.int i, .int j] => some (.int (if j < i then j else i))
  | .max, [.lst ds] => match allI ds with
    | some (n :: ns) => some (.int (maxI (n :: ns)))
    | _ => none
  | .min, [.lst ds] => match allI ds with
    | some (n :: ns) => some (.int (minI (n :: ns)))
    | _ => none
  | .sum, [.lst ds] => (allI ds).map fun ns => .int ns.sum
  | .all, [.lst ds] => (allB ds).map fun bs => .bl (bs.all id)
  | .any, [.lst ds] => (allB ds).map fun bs => .bl (bs.any id)
  | .sorted, [.lst ds] => (allI ds).map fun ns => .lst ((sortI ns).map .int)
  | .list, [.lst ds] => some (.lst ds)
  | .list, [.tup ds] => some (.lst ds)
  | .tuple, [.lst ds] => some (.tup ds)
  | .tuple, [.tup ds] => some (.tup ds)
  | .str, [.int i] => if i.natAbs.log2 < 1920 then some (.str (strI i)) else none
  | .repr, [d] => if ck 8 d = true ∧ showOk d = true ∧ szD d ≤ lim then some (.str (reprD d)) else none
  | _, _ => none
@[simp] def cntD (s : List Nat) : List D → Option D
  | [.str [c]] => some (.int (s.count c : Nat))
  | _ => none
@[simp] def joinD (s : List Nat) : List D → Option D
  | [.lst ds] => match allS ds with
    | some xs => if (xs.map List.length).sum + xs.length * s.length ≤ lim then some (.str (TL.joinL s xs)) else none
    | none => none
  | _ => none
@[simp] def mtD (m : Mt) (s : List Nat) (ds : List D) : Option D := match m with
  | .count => cntD s ds
  | .join => joinD s ds
  | _ => none

/-! ## the language -/
inductive T where
  | v (i : Nat) | tup (ts : List T)
/-- what is walked: a list, tuple or text | range | enumerate | zip -/
inductive Ik where | plain | rng | enm | zip
inductive Ty where | tint | tbool | tstr | ttuple | tlist | cls (c : Nat)
inductive E where
  | var (i : Nat) | non | bl (b : Bool) | int (i : Int) | str (s : List Nat) | glb (g : Nat)
  | bin (o : Op) (a b : E) | neg (a : E)
  | cmp (o : Co) (a b : E) | ch2 (a : E) (o : Co) (b : E) (p : Co) (c : E) | ch3 (a : E) (o : Co) (b : E) (p : Co) (c : E) (q : Co) (d : E)
  | isn (a : E) | nsn (a : E)
  | and (a b : E) | or (a b : E) | not (a : E) | ite (c a b : E)
  | tup (es : List E) | lst (es : List E) | lstS (k : Nat) (es : List E)
  | att (a : E) (f : Str) | sub (a b : E) | nop | slc (a lo hi : E) | rev (a : E)
  | call (f : Nat) (es : List E) | bi (b : Bi) (es : List E) | mth (m : Mt) (a : E) (es : List E) | bits (a : E)
  | prp (f : Nat) (a : E) | umt (f : Nat) (a : E) (es : List E) | new (c : Nat) (es : List E)
  | isi (a : E) (t : Ty)
  | lc (elt : E) (t : T) (k : Ik) (its : List E) (c : E) (own : List Nat)
inductive S where
  | asg (t : T) (e : E) | par (is : List Nat) (es : List E) | parT (is : List Nat) (es : List E)
  | aug (i : Nat) (o : Op) (e : E) | app (i : Nat) (e : E) | ext (i : Nat) (e : E) | set (i : Nat) (k e : E) | fld (i : Nat) (f : Str) (e : E)
  | exp (e : E) | ife (c : E) (a b : List S) | for_ (t : T) (k : Ik) (its : List E) (b : List S) | whl (c : E) (b : List S)
  | ret (e : E) | rtn | brk | cnt | pas | rse (c : Nat) | nev
end PyV
set_option Elab.async false
set_option linter.all false
set_option maxRecDepth 100000
set_option maxHeartbeats 2000000
namespace PyV
open PySem

/-- the program as the interpreter sees it: what each def gives, which parameter it may change, the constants, each class's __init__ -/
structure Tab where
  G : Nat → Fn
  io : Nat → Option Nat
  gl : Nat → D
  ini : Nat → Nat
  eqf : Nat → Option Nat
  mem : Nat → Nat → Bool
  nm : Nat → Str

@[simp] def mkv (d : D) (fr : Bool) : Rv := if fr = true then .own d else .val d
@[simp] def nxio : Option Nat → Option Nat
  | some (k + 1) => some k
  | _ => none
/-- all arguments but the one that may be changed are kept as they are -/
@[simp] def fzx : Option Nat → Ss → List Rv → Option (List D × Ss)
  | _, s, [] => some ([], s)
  | some 0, s, _ :: rs => match fzx none s rs with
    | none => none
    | some (ds, s2) => some (.non :: ds, s2)
  | none, s, r :: rs => match fz s r with
    | none => none
    | some (d, s1) => match fzx none s1 rs with
      | none => none
      | some (ds, s2) => some (d :: ds, s2)
  | some (k + 1), s, r :: rs => match fz s r with
    | none => none
    | some (d, s1) => match fzx (some k) s1 rs with
      | none => none
      | some (ds, s2) => some (d :: ds, s2)
@[simp] def lendD (T : Tab) (f j : Nat) (ds : List D) (r : Option Rv) (s1 : Ss) : R Rv := match r with
  | some (.ali i) => match sl? s1 i with
    | .own d => match T.G f (ds.set j d) with
      | .ok r fr (some d') => .ok (mkv r fr) (s1.set i (.own d'))
      | .ex x (some d') => .ex x (s1.set i (.own d'))
      | _ => .bad
    | _ => .bad
  | some (.own d) => match T.G f (ds.set j d) with
    | .ok r fr (some _) => .ok (mkv r fr) s1
    | .ex x (some _) => .ex x s1
    | _ => .bad
  | _ => .bad
@[simp] def callD (T : Tab) (f : Nat) (rs : List Rv) (s : Ss) : R Rv :=
  match fzx (T.io f) s rs with
  | none => .bad
  | some (ds, s1) => match T.io f with
    | none => match T.G f ds with
      | .ok d fr none => .ok (mkv d fr) s1
      | .ex x none => .ex x s1
      | _ => .bad
    | some j => lendD T f j ds rs[j]? s1
/-- a new object of a class -/
@[simp] def newD (T : Tab) (c : Nat) (rs : List Rv) (s : Ss) : R Rv :=
  match fzs s rs with
  | none => .bad
  | some (ds, s1) => match T.G (T.ini c) (.obj c [] [] :: ds) with
    | .ok .non _ (some d') => .ok (.own d') s1
    | .ex x (some _) => .ex x s1
    | _ => .bad

@[simp] def isiD : D → Ty → Option Bool
  | .non, _ => some false
  | .bl _, .tint => some true
  | .bl _, .tbool => some true
  | .bl _, _ => some false
  | .int _, .tint => some true
  | .int _, _ => some false
  | .str _, .tstr => some true
  | .str _, _ => some false
  | .lst _, .tlist => some true
  | .lst _, _ => some false
  | .tup _, .ttuple => some true
  | .tup _, _ => some false
  | .obj c _ _, .cls k => some (c == k)
  | .obj _ _ _, _ => some false
  | _, _ => none

/-- a slot is stored; the one that the caller lends stays -/
@[simp] def stS (p : Option Nat) (i : Nat) (x : Sl) (s : Ss) : Option Ss := if p = some i ∨ s.length ≤ i then none else some (s.set i x)
mutual
def asgT (p : Option Nat) : T → D → Ss → Option Ss
  | .v i, d, s => stS p i (.val d) s
  | .tup ts, .tup ds, s => asgTs p ts ds s
  | _, _, _ => none
def asgTs (p : Option Nat) : List T → List D → Ss → Option Ss
  | [], [], s => some s
  | t :: ts, d :: ds, s => match asgT p t d s with
    | none => none
    | some s1 => asgTs p ts ds s1
  | _, _, _ => none
end
@[simp] def irange (lo : Int) (n : Nat) (c : Int) : List D := (List.range n).map fun (k : Nat) => .int (lo + (k : Int) * c)
def big62 (i : Int) : Bool := decide (-(2 ^ 62) ≤ i) && decide (i < 2 ^ 62)
@[simp] def enumD : Nat → List D → List D
  | _, [] => []
  | k, d :: ds => .tup [.int (k : Int), d] :: enumD (k + 1) ds
@[simp] def zipD : List D → List D → List D
  | d :: ds, e :: es => .tup [d, e] :: zipD ds es
  | _, _ => []
@[simp] def itemsD : Ik → List D → Option (List D)
  | .plain, [.lst ds] => some ds
  | .plain, [.tup ds] => some ds
  | .plain, [.str s] => some (s.map fun c => .str [c])
  | .rng, [.int j] => if big62 j = true then some (irange 0 j.toNat 1) else none
  | .rng, [.int i, .int j] => if big62 i = true ∧ big62 j = true then some (irange i (j - i).toNat 1) else none
  | .rng, [.int i, .int j, .int (.negSucc 0)] => if big62 i = true ∧ big62 j = true then some (irange i (i - j).toNat (-1)) else none
  | .enm, [.lst ds] => some (enumD 0 ds)
  | .enm, [.str s] => some (enumD 0 (s.map fun c => .str [c]))
  | .zip, [.lst a, .lst b] => some (zipD a b)
  | _, _ => none
def wipeS : List Nat → Ss → Ss
  | [], s => s
  | v :: vs, s => (wipeS vs s).set v .emp
def restS (s : Ss) : List Nat → Ss → Ss
  | [], s' => s'
  | v :: vs, s' => (restS s vs s').set v (sl? s v)
def noOwn (p : Option Nat) (own : List Nat) (s : Ss) : Bool := own.all fun i => decide (p ≠ some i) && match sl? s i with
  | .own _ => false
  | _ => true
def lcL (st : D → Ss → Option Ss) (cond : Ss → R Bool) (elt : Ss → R Rv) (wp : Ss → Ss) : List D → List D → Ss → R (List D)
  | [], acc, s => .ok acc s
  | d :: ds, acc, s => match st d s with
    | none => .bad
    | some s1 => match cond s1 with
      | .ok true s2 => match elt s2 with
        | .ok r s3 => match fz s3 r with
          | none => .bad
          | some (z, s4) => if acc.length < lim then lcL st cond elt wp ds (acc ++ [z]) (wp s4) else .bad
        | _ => .bad
      | .ok false s2 => lcL st cond elt wp ds acc (wp s2)
      | _ => .bad

@[simp] def fgetD (f : Str) : List Str → List D → Option D
  | n :: ns, d :: ds => if n = f then some d else fgetD f ns ds
  | _, _ => none
/-- == of two objects of a class with an own __eq__ -/
def objQ (T : Tab) (d e : D) : Option Bool := match d, e with
  | .obj c ns vs, .obj c2 ms ws => if c = c2 then (match T.eqf c with
    | some f => (match T.io f, T.G f [.obj c ns vs, .obj c2 ms ws] with
      | none, .ok (.bl k) false none => some k
      | _, _ => none)
    | none => none) else none
  | _, _ => none
@[simp] def eqO (T : Tab) (o : Co) (x y : Rv) (s : Ss) : R Rv := match o with
  | .eq => match fz s x with
    | some (d, s1) => match fz s1 y with
      | some (e, s2) => match objQ T d e with
        | some k => .ok (.val (.bl k)) s2
        | none => .bad
      | none => .bad
    | none => .bad
  | _ => .bad
mutual
def evE (T : Tab) (p : Option Nat) : E → Ss → R Rv
  | .var i, s => match sl? s i with
    | .emp => .bad
    | .val d => .ok (.val d) s
    | .own _ => .ok (.ali i) s
  | .non, s => .ok (.val .non) s
  | .bl b, s => .ok (.val (.bl b)) s
  | .int i, s => .ok (.val (.int i)) s
  | .str x, s => .ok (.val (.str x)) s
  | .glb g, s => .ok (.val (T.gl g)) s
  | .bin o a b, s => (evE T p a s).bind fun x s1 => (evE T p b s1).bind fun y s2 =>
    match rd s2 x, rd s2 y with
    | some d, some e => (match binD o d e with
      | some z => .ok (out z) s2
      | none => .bad)
    | _, _ => .bad
  | .neg a, s => (evE T p a s).bind fun x s1 => match x with
    | .val (.int i) => .ok (.val (.int (-i))) s1
    | _ => .bad
  | .cmp o a b, s => (evE T p a s).bind fun x s1 => (evE T p b s1).bind fun y s2 =>
    match rd s2 x, rd s2 y with
    | some d, some e => (match cmpD o d e with
      | some z => .ok (.val (.bl z)) s2
      | none => eqO T o x y s2)
    | _, _ => .bad
  | .att a f, s => (evE T p a s).bind fun x s1 => match rd s1 x with
    | some (.obj _ ns vs) => (match fgetD f ns vs with
      | some z => .ok (.val z) s1
      | none => .bad)
    | _ => .bad
  | .ch2 a o b q c, s => (evE T p a s).bind fun x s1 => (evE T p b s1).bind fun y s2 =>
    match x, y with
    | .val d, .val e => (match cmpD o d e with
      | some true => (evE T p c s2).bind fun z s3 => match z with
        | .val g => (match cmpD q e g with
          | some k => .ok (.val (.bl k)) s3
          | none => .bad)
        | _ => .bad
      | some false => .ok (.val (.bl false)) s2
      | none => .bad)
    | _, _ => .bad
  | .ch3 a o b q c r d', s => (evE T p a s).bind fun x s1 => (evE T p b s1).bind fun y s2 =>
    match x, y with
    | .val d, .val e => (match cmpD o d e with
      | some true => (evE T p c s2).bind fun z s3 => match z with
        | .val g => (match cmpD q e g with
          | some true => (evE T p d' s3).bind fun w s4 => match w with
            | .val h => (match cmpD r g h with
              | some k => .ok (.val (.bl k)) s4
              | none => .bad)
            | _ => .bad
          | some false => .ok (.val (.bl false)) s3
          | none => .bad)
        | _ => .bad
      | some false => .ok (.val (.bl false)) s2
      | none => .bad)
    | _, _ => .bad
  | .isn a, s => (evE T p a s).bind fun x s1 => match rd s1 x with
    | some .non => .ok (.val (.bl true)) s1
    | some _ => .ok (.val (.bl false)) s1
    | none => .bad
  | .nsn a, s => (evE T p a s).bind fun x s1 => match rd s1 x with
    | some .non => .ok (.val (.bl false)) s1
    | some _ => .ok (.val (.bl true)) s1
    | none => .bad
  | .and a b, s => (evE T p a s).bind fun x s1 => match x with
    | .val (.bl true) => (evE T p b s1).bind fun y s2 => (match y with
      | .val (.bl k) => .ok (.val (.bl k)) s2
      | _ => .bad)
    | .val (.bl false) => .ok (.val (.bl false)) s1
    | _ => .bad
  | .or a b, s => (evE T p a s).bind fun x s1 => match x with
    | .val (.bl false) => (evE T p b s1).bind fun y s2 => (match y with
      | .val (.bl k) => .ok (.val (.bl k)) s2
      | _ => .bad)
    | .val (.bl true) => .ok (.val (.bl true)) s1
    | _ => .bad
  | .not a, s => (evE T p a s).bind fun x s1 => match x with
    | .val (.bl k) => .ok (.val (.bl (!k))) s1
    | _ => .bad
  | .ite c a b, s => (evE T p c s).bind fun x s1 => match x with
    | .val (.bl true) => evE T p a s1
    | .val (.bl false) => evE T p b s1
    | _ => .bad
  | .tup es, s => (evEs T p es s).bind fun rs s1 => match fzs s1 rs with
    | some (ds, s2) => if ds.length ≤ lim then .ok (.val (.tup ds)) s2 else .bad
    | none => .bad
  | .lst es, s => (evEs T p es s).bind fun rs s1 => match fzs s1 rs with
    | some (ds, s2) => if ds.length ≤ lim then .ok (.own (.lst ds)) s2 else .bad
    | none => .bad
  | .lstS k es, s => (evXs T p k es s).bind fun rs s1 => match fzs s1 rs with
    | some (ds, s2) => if ds.length ≤ lim then .ok (.own (.lst ds)) s2 else .bad
    | none => .bad
  | .sub a b, s => (evE T p a s).bind fun x s1 => (evE T p b s1).bind fun y s2 =>
    match rd s2 x, rd s2 y with
    | some d, some e => (match subD d e with
      | some z => .ok (.val z) s2
      | none => .bad)
    | _, _ => .bad
  | .nop, _ => .bad
  | .slc a lo hi, s => (evE T p a s).bind fun x s1 =>
    (match lo with
     | .nop => R.ok none s1
     | lo => (evE T p lo s1).bind fun y s2 => match y with
       | .val (.int i) => .ok (some i) s2
       | _ => .bad).bind fun l s2 =>
    (match hi with
     | .nop => R.ok none s2
     | hi => (evE T p hi s2).bind fun y s3 => match y with
       | .val (.int i) => .ok (some i) s3
       | _ => .bad).bind fun h s3 =>
    match rd s3 x with
    | some d => (match slcD d l h with
      | some z => .ok (out z) s3
      | none => .bad)
    | none => .bad
  | .rev a, s => (evE T p a s).bind fun x s1 => match rd s1 x with
    | some d => (match revD d with
      | some z => .ok (out z) s1
      | none => .bad)
    | none => .bad
  | .call f es, s => (evEs T p es s).bind fun rs s1 => callD T f rs s1
  | .bi b es, s => (evEs T p es s).bind fun rs s1 => match rds s1 rs with
    | some ds => (match biD b ds with
      | some z => .ok (out z) s1
      | none => .bad)
    | none => .bad
  | .mth m a es, s => (evE T p a s).bind fun x s1 => match x with
    | .val (.str t) => (evEs T p es s1).bind fun rs s2 => (match rds s2 rs with
      | some ds => (match mtD m t ds with
        | some z => .ok (out z) s2
        | none => .bad)
      | none => .bad)
    | _ => .bad
  | .bits a, s => (evE T p a s).bind fun x s1 => match x with
    | .val (.int i) => .ok (.val (.int (Builtin.Int.intBits i : Nat))) s1
    | _ => .bad
  | .prp f a, s => (evE T p a s).bind fun x s1 => match rd s1 x with
    | some (.obj c _ _) => if T.mem f c = true then (match callD T f [x] s1 with
      | .ok z s2 => .ok z s2
      | _ => .bad) else .bad
    | _ => .bad
  | .umt f a es, s => (evE T p a s).bind fun x s1 => match rd s1 x with
    | some (.obj c ns _) => if T.mem f c = true ∧ ns.contains (T.nm f) = false then (evEs T p es s1).bind fun rs s2 => callD T f (x :: rs) s2 else .bad
    | _ => .bad
  | .new c es, s => (evEs T p es s).bind fun rs s1 => newD T c rs s1
  | .isi a t, s => (evE T p a s).bind fun x s1 => match rd s1 x with
    | some d => (match isiD d t with
      | some k => .ok (.val (.bl k)) s1
      | none => .bad)
    | none => .bad
  | .lc elt t k its c own, s => (evEs T p its s).bind fun rs s1 => match fzs s1 rs with
    | none => .bad
    | some (ds, s2) => match itemsD k ds with
      | none => .bad
      | some xs => if noOwn p own s2 = true then
          match lcL (asgT p t) (match c with
              | .nop => fun s => .ok true s
              | c => fun s => (evE T p c s).bind fun y s' => match y with
                | .val (.bl b) => .ok b s'
                | _ => .bad) (evE T p elt) (wipeS own) xs [] (wipeS own s2) with
          | .ok acc s3 => .ok (.own (.lst acc)) (restS s2 own s3)
          | _ => .bad
        else .bad
def evEs (T : Tab) (p : Option Nat) : List E → Ss → R (List Rv)
  | [], s => .ok [] s
  | e :: es, s => (evE T p e s).bind fun x s1 => (evEs T p es s1).bind fun rs s2 => .ok (x :: rs) s2
/-- *a, .., b, ..: so many with a star ahead -/
def evXs (T : Tab) (p : Option Nat) : Nat → List E → Ss → R (List Rv)
  | _, [], s => .ok [] s
  | 0, e :: es, s => (evE T p e s).bind fun x s1 => (evXs T p 0 es s1).bind fun rs s2 => .ok (x :: rs) s2
  | k + 1, a :: es, s => (evE T p a s).bind fun x s1 => match rd s1 x with
    | some (.lst ds) => (evXs T p k es s1).bind fun rs s2 => .ok (ds.map .val ++ rs) s2
    | _ => .bad
end

/-- what is handed back: an own list of the def's goes out as it is, the lent one is kept by the caller -/
@[simp] def retD (p : Option Nat) (r : Rv) (s : Ss) : Option (D × Bool × Ss) := match r with
  | .val d => some (d, false, s)
  | .own d => some (d, true, s)
  | .ali i => match sl? s i with
    | .own d => if p = some i then none else some (d, true, s.set i .emp)
    | .val d => some (d, false, s)
    | .emp => none
/-- a value as a slot has it -/
@[simp] def slR (s : Ss) : Rv → Option (Sl × Ss)
  | .own d => some (.own d, s)
  | .val d => some (.val d, s)
  | .ali i => match fz s (.ali i) with
    | some (d, s1) => some (.val d, s1)
    | none => none
@[simp] def slRs : Ss → List Rv → Option (List Sl × Ss)
  | s, [] => some ([], s)
  | s, r :: rs => match slR s r with
    | none => none
    | some (x, s1) => match slRs s1 rs with
      | none => none
      | some (xs, s2) => some (x :: xs, s2)
@[simp] def putR (p : Option Nat) (i : Nat) (r : Rv) (s : Ss) : Option Ss := match slR s r with
  | some (x, s1) => stS p i x s1
  | none => none
@[simp] def stSs (p : Option Nat) : List Nat → List Sl → Ss → Option Ss
  | [], [], s => some s
  | i :: is, x :: xs, s => match stS p i x s with
    | none => none
    | some s1 => stSs p is xs s1
  | _, _, _ => none
@[simp] def putRs (p : Option Nat) (is : List Nat) (rs : List Rv) (s : Ss) : Option Ss := match slRs s rs with
  | some (xs, s1) => stSs p is xs s1
  | none => none
/-- a op= e -/
@[simp] def augD : Op → D → D → Option D
  | .add, .int i, .int j => some (.int (i + j))
  | .add, .str a, .str b => if a.length + b.length ≤ lim then some (.str (a ++ b)) else none
  | .sub, .int i, .int j => some (.int (i - j))
  | .bor, .int i, .int j => some (.int (Builtin.bitOr i j))
  | _, _, _ => none
def forL (st : D → Ss → Option Ss) (body : Ss → R Fl) : List D → Ss → R Fl
  | [], s => .ok .nx s
  | d :: ds, s => match st d s with
    | none => .bad
    | some s1 => match body s1 with
      | .ok .nx s2 => forL st body ds s2
      | .ok .ct s2 => forL st body ds s2
      | .ok .bk s2 => .ok .nx s2
      | r => r
def whlN (cond : Ss → R Bool) (body : Ss → R Fl) : Nat → Ss → R Fl
  | 0, _ => .bad
  | n + 1, s => match cond s with
    | .ok true s1 => (match body s1 with
      | .ok .nx s2 => whlN cond body n s2
      | .ok .ct s2 => whlN cond body n s2
      | .ok .bk s2 => .ok .nx s2
      | r => r)
    | .ok false s1 => .ok .nx s1
    | .ex x s1 => .ex x s1
    | .bad => .bad
@[simp] def tstR (r : R Rv) : R Bool := r.bind fun y s' => match y with
  | .val (.bl b) => .ok b s'
  | _ => .bad
@[simp] def nxO (o : Option Ss) : R Fl := match o with
  | some s => .ok .nx s
  | none => .bad
@[simp] def fputD (f : Str) (v : D) : List Str → List D → List Str × List D
  | n :: ns, d :: ds => if n = f then (n :: ns, v :: ds) else (n :: (fputD f v ns ds).1, d :: (fputD f v ns ds).2)
  | _, _ => ([f], [v])

mutual
def evS (T : Tab) (p : Option Nat) (n : Nat) : S → Ss → R Fl
  | .asg (.v i) e, s => (evE T p e s).bind fun x s1 => nxO (putR p i x s1)
  | .asg t e, s => (evE T p e s).bind fun x s1 => match fz s1 x with
    | some (d, s2) => nxO (asgT p t d s2)
    | none => .bad
  | .par is es, s => (evEs T p es s).bind fun rs s1 => nxO (putRs p is rs s1)
  | .parT is es, s => (evEs T p es s).bind fun rs s1 => if is.length ≤ lim then nxO (putRs p is rs s1) else .bad
  | .aug i o e, s => match sl? s i with
    | .val d => (evE T p e s).bind fun y s1 => (match y with
      | .val d' => (match augD o d d' with
        | some z => nxO (stS p i (.val z) s1)
        | none => .bad)
      | _ => .bad)
    | _ => .bad
  | .app i e, s => match sl? s i with
    | .own (.lst _) => (evE T p e s).bind fun y s1 => (match fz s1 y with
      | some (d, s2) => (match sl? s2 i with
        | .own (.lst ds) => if ds.length < lim then .ok .nx (s2.set i (.own (.lst (ds ++ [d])))) else .bad
        | _ => .bad)
      | none => .bad)
    | _ => .bad
  | .ext i e, s => match sl? s i with
    | .own (.lst _) => (evE T p e s).bind fun y s1 => (match y with
      | .own (.lst es) => (match sl? s1 i with
        | .own (.lst ds) => if ds.length + es.length ≤ lim then .ok .nx (s1.set i (.own (.lst (ds ++ es)))) else .bad
        | _ => .bad)
      | _ => .bad)
    | _ => .bad
  | .set i k e, s => (evE T p e s).bind fun y s1 => match fz s1 y with
    | some (d, s2) => (match sl? s2 i with
      | .own (.lst _) => (evE T p k s2).bind fun z s3 => (match z, sl? s3 i with
        | .val (.int j), .own (.lst ds) => (match placeD ds.length j with
          | some m => .ok .nx (s3.set i (.own (.lst (ds.set m d))))
          | none => .bad)
        | _, _ => .bad)
      | _ => .bad)
    | none => .bad
  | .fld i f e, s => (evE T p e s).bind fun y s1 => match fz s1 y with
    | some (d, s2) => (match sl? s2 i with
      | .own (.obj c ns vs) => if ns.length < 900 then .ok .nx (s2.set i (.own (.obj c (fputD f d ns vs).1 (fputD f d ns vs).2))) else .bad
      | _ => .bad)
    | none => .bad
  | .exp e, s => (evE T p e s).bind fun _ s1 => .ok .nx s1
  | .ife c a b, s => (tstR (evE T p c s)).bind fun k s1 => if k = true then evB T p n a s1 else evB T p n b s1
  | .for_ t k its b, s => (evEs T p its s).bind fun rs s1 => match fzs s1 rs with
    | none => .bad
    | some (ds, s2) => match itemsD k ds with
      | none => .bad
      | some xs => forL (asgT p t) (evB T p n b) xs s2
  | .whl c b, s => whlN (fun s => tstR (evE T p c s)) (evB T p n b) n s
  | .ret e, s => (evE T p e s).bind fun x s1 => match retD p x s1 with
    | some (d, fr, s2) => .ok (.rt d fr) s2
    | none => .bad
  | .rtn, s => .ok (.rt .non false) s
  | .brk, s => .ok .bk s
  | .cnt, s => .ok .ct s
  | .pas, s => .ok .nx s
  | .rse c, s => .ex ⟨c, [], []⟩ s
  | .nev, _ => .bad
def evB (T : Tab) (p : Option Nat) (n : Nat) : List S → Ss → R Fl
  | [], s => .ok .nx s
  | st :: r, s => match evS T p n st s with
    | .ok .nx s1 => evB T p n r s1
    | x => x
end

/-- a def: how many parameters, how many slots, its body -/
structure Df where
  np : Nat
  ns : Nat
  body : List S
@[simp] def lent (p : Option Nat) (s : Ss) : Option (Option D) := match p with
  | none => some none
  | some j => match sl? s j with
    | .own d => some (some d)
    | _ => none
@[simp] def start0 : Option Nat → List D → Ss
  | _, [] => []
  | none, d :: ds => .val d :: start0 none ds
  | some 0, d :: ds => .own d :: start0 none ds
  | some (k + 1), d :: ds => .val d :: start0 (some k) ds
def runD (T : Tab) (p : Option Nat) (n : Nat) (f : Df) (args : List D) : FR :=
  if args.length = f.np then
    match evB T p n f.body (start0 p args ++ List.replicate (f.ns - f.np) .emp) with
    | .ok .nx s => (match lent p s with
      | some o => .ok .non false o
      | none => .bad)
    | .ok (.rt d fr) s => (match lent p s with
      | some o => .ok d fr o
      | none => .bad)
    | .ex x s => (match lent p s with
      | some o => .ex x o
      | none => .bad)
    | _ => .bad
  else .bad
end PyV
set_option Elab.async false
set_option linter.all false
set_option maxRecDepth 100000
set_option maxHeartbeats 2000000
namespace PyV
open PySem L2

/-! ## data as it lies in the heap -/
/-- the written part, each class's address -/
structure Kx where
  K : PySem.W.Frag
  cls : Nat → Addr
  n : Nat
/-- a list that may be read: tracked, locked, or one of the written part as it stands -/
def SqX (K : PySem.W.Frag) (h : Hp) (a : Addr) (xs : List V) : Prop := Rd h a (.lst xs) ∨
  ∃ (its : Array Value) (n : Nat), K.lookup a = some { cls := .type "list", data := .seq its n } ∧ its.size ≤ sizeLine ∧ Vals xs its.toList
theorem SqX.sq {K : PySem.W.Frag} {h : Hp} {a : Addr} {xs : List V} (q : SqX K h a xs) : SqL K h a xs := by
  rcases q with q | ⟨its, n, e, z, r⟩
  · exact .inl q
  · exact .inr ⟨_, its, n, e, rfl, rfl, rfl, z, r⟩
theorem SqX.mono {K : PySem.W.Frag} {h h' : Hp} {a : Addr} {xs : List V} (e : Same h h') (q : SqX K h a xs) : SqX K h' a xs := by
  rcases q with (q | ⟨o, q⟩) | q
  · exact .inl (.inl (e _ _ q))
  · exact .inl (.inr ⟨o, e _ _ q⟩)
  · exact .inr q
mutual
inductive Rep (κ : Kx) (h : Hp) : V → D → Prop where
  | non : Rep κ h .non .non
  | bl (b : Bool) : Rep κ h (.bl b) (.bl b)
  | int (i : Int) : Rep κ h (.int i) (.int i)
  | str (s : List Nat) (ok : ∀ c ∈ s, c < 1114112) : Rep κ h (.str ⟨s.toArray⟩) (.str s)
  | lst {a : Addr} {vs : List V} {ds : List D} : SqX κ.K h a vs → Reps κ h vs ds → Rep κ h (.ref a) (.lst ds)
  | tup {a : Addr} {vs : List V} {ds : List D} : SqT κ.K h a vs → Reps κ h vs ds → Rep κ h (.ref a) (.tup ds)
  | obj {a dx : Addr} {c : Nat} {ns : List Str} {vs : List V} {ds : List D} : c < κ.n → h a = some (.ins (κ.cls c) dx (ns.zip vs)) → ns.length = vs.length → Reps κ h vs ds → Rep κ h (.ref a) (.obj c ns ds)
inductive Reps (κ : Kx) (h : Hp) : List V → List D → Prop where
  | nil : Reps κ h [] []
  | cons {v : V} {vs : List V} {d : D} {ds : List D} : Rep κ h v d → Reps κ h vs ds → Reps κ h (v :: vs) (d :: ds)
end
/-- an own list, an own object -/
inductive Own (κ : Kx) (f h : Hp) (a : Addr) : D → Prop where
  | lst {vs : List V} {ds : List D} : h a = some (.lst vs) → Reps κ f vs ds → Own κ f h a (.lst ds)
  | obj {dx : Addr} {c : Nat} {ns : List Str} {vs : List V} {ds : List D} : c < κ.n → h a = some (.ins (κ.cls c) dx (ns.zip vs)) → ns.length = vs.length → Reps κ f vs ds → Own κ f h a (.obj c ns ds)

section
variable {κ : Kx} {f f' h h' : Hp}
theorem sqT_mono {K : PySem.W.Frag} {a : Addr} {xs : List V} (e : Same h h') (q : SqT K h a xs) : SqT K h' a xs := by
  rcases q with (q | ⟨o, q⟩) | q
  · exact .inl (.inl (e _ _ q))
  · exact .inl (.inr ⟨o, e _ _ q⟩)
  · exact .inr q
mutual
theorem Rep.mono (e : Same h h') : ∀ {v : V} {d : D}, Rep κ h v d → Rep κ h' v d
  | _, _, .non => .non
  | _, _, .bl b => .bl b
  | _, _, .int i => .int i
  | _, _, .str s ok => .str s ok
  | _, _, .lst q r => .lst (q.mono e) (Reps.mono e r)
  | _, _, .tup q r => .tup (sqT_mono e q) (Reps.mono e r)
  | _, _, .obj c q l r => .obj c (e _ _ q) l (Reps.mono e r)
theorem Reps.mono (e : Same h h') : ∀ {vs : List V} {ds : List D}, Reps κ h vs ds → Reps κ h' vs ds
  | _, _, .nil => .nil
  | _, _, .cons r t => .cons (Rep.mono e r) (Reps.mono e t)
end
theorem Reps.length : ∀ {vs : List V} {ds : List D}, Reps κ h vs ds → vs.length = ds.length
  | _, _, .nil => rfl
  | _, _, .cons _ t => congrArg (· + 1) (Reps.length t)
theorem Reps.append : ∀ {vs ws : List V} {ds es : List D}, Reps κ h vs ds → Reps κ h ws es → Reps κ h (vs ++ ws) (ds ++ es)
  | _, _, _, _, .nil, s => s
  | _, _, _, _, .cons r t, s => .cons r (Reps.append t s)
theorem Reps.get : ∀ {vs : List V} {ds : List D} {i : Nat} {d : D}, Reps κ h vs ds → ds[i]? = some d → ∃ v, vs[i]? = some v ∧ Rep κ h v d
  | _, _, i, _, .nil, e => by simp at e
  | _, _, 0, _, .cons r _, e => by simp at e; subst e; exact ⟨_, rfl, r⟩
  | _, _, i + 1, _, .cons _ t, e => by
    obtain ⟨v, h1, h2⟩ := Reps.get (i := i) t (by simpa using e)
    exact ⟨v, by simpa using h1, h2⟩
theorem Reps.getV {vs : List V} {ds : List D} {i : Nat} {v : V} (r : Reps κ h vs ds) (e : vs[i]? = some v) : ∃ d, ds[i]? = some d ∧ Rep κ h v d := by
  obtain ⟨hi, _⟩ := List.getElem?_eq_some_iff.mp e
  have hl := r.length
  obtain ⟨v', h1, h2⟩ := r.get (i := i) (d := ds[i]'(by omega)) (by simp)
  rw [e] at h1
  cases h1
  exact ⟨_, by simp, h2⟩
theorem Reps.set {v : V} {d : D} (r : Rep κ h v d) : ∀ {vs : List V} {ds : List D} (i : Nat), Reps κ h vs ds → Reps κ h (vs.set i v) (ds.set i d)
  | _, _, _, .nil => .nil
  | _, _, 0, .cons _ t => .cons r t
  | _, _, i + 1, .cons q t => .cons q (Reps.set r i t)
theorem Reps.take : ∀ {vs : List V} {ds : List D} (n : Nat), Reps κ h vs ds → Reps κ h (vs.take n) (ds.take n)
  | _, _, 0, _ => .nil
  | _, _, _ + 1, .nil => .nil
  | _, _, n + 1, .cons r t => .cons r (Reps.take n t)
theorem Reps.drop : ∀ {vs : List V} {ds : List D} (n : Nat), Reps κ h vs ds → Reps κ h (vs.drop n) (ds.drop n)
  | _, _, 0, r => r
  | _, _, _ + 1, .nil => .nil
  | _, _, n + 1, .cons _ t => Reps.drop n t
theorem Reps.rep {vs : List V} {ds : List D} (r : Reps κ h vs ds) : ∀ k : Nat, Reps κ h (List.replicate k vs).flatten (List.replicate k ds).flatten
  | 0 => .nil
  | k + 1 => by
    rw [List.replicate_succ, List.replicate_succ, List.flatten_cons, List.flatten_cons]
    exact r.append (Reps.rep r k)
theorem Reps.snoc {vs : List V} {ds : List D} {v : V} {d : D} (r : Reps κ h vs ds) (q : Rep κ h v d) : Reps κ h (vs ++ [v]) (ds ++ [d]) := r.append (.cons q .nil)
theorem Reps.reverse : ∀ {vs : List V} {ds : List D}, Reps κ h vs ds → Reps κ h vs.reverse ds.reverse
  | _, _, .nil => .nil
  | _, _, .cons r t => by
    rw [List.reverse_cons, List.reverse_cons]
    exact (Reps.reverse t).snoc r
theorem Reps.of {F : Nat → V} {G : Nat → D} (n : Nat) (q : ∀ i, Rep κ h (F i) (G i)) : Reps κ h ((List.range n).map F) ((List.range n).map G) := by
  generalize List.range n = l
  induction l with
  | nil => exact .nil
  | cons a l ih => exact .cons (q a) ih
theorem Own.mono {a : Addr} {d : D} (e : Same f f') (k : h' a = h a) (o : Own κ f h a d) : Own κ f' h' a d := by
  cases o with
  | lst q r => exact .lst (k.trans q) (r.mono e)
  | obj c q l r => exact .obj c (k.trans q) l (r.mono e)
/-- kept: from now on it stands in f -/
theorem same_upd {a : Addr} {u : HO} (hf : f a = none) : Same f (upd f a u) := fun b o hb => by
  rw [upd_ne (ne_of_none hb hf)]
  exact hb
theorem Own.froze {a : Addr} {d : D} (hf : f a = none) (o : Own κ f h a d) : ∃ u, h a = some u ∧ Same f (upd f a u) ∧ Rep κ (upd f a u) (.ref a) d := by
  cases o with
  | lst q r => exact ⟨_, q, same_upd hf, .lst (.inl (.inl upd_same)) (r.mono (same_upd hf))⟩
  | obj c q l r => exact ⟨_, q, same_upd hf, .obj c upd_same l (r.mono (same_upd hf))⟩
end

/-! ## a store: values with what they stand for -/
abbrev En := Option V × Sl
def entOk (κ : Kx) (f h : Hp) : En → Prop
  | (_, .emp) => True
  | (ov, .val d) => ∃ v, ov = some v ∧ Rep κ f v d
  | (ov, .own d) => ∃ a, ov = some (.ref a) ∧ f a = none ∧ Own κ f h a d
def ownA : En → Option Addr
  | (some (.ref a), .own _) => some a
  | _ => none
/-- f: what nobody changes any more -/
structure RelF (κ : Kx) (f h : Hp) (L : List En) : Prop where
  same : Same f h
  ent : ∀ e ∈ L, entOk κ f h e
  nd : (L.filterMap ownA).Nodup
def Rel (κ : Kx) (h : Hp) (L : List En) : Prop := ∃ f, RelF κ f h L

section
variable {κ : Kx} {f h : Hp} {L M : List En}
theorem RelF.perm (p : L.Perm M) (r : RelF κ f h L) : RelF κ f h M :=
  ⟨r.same, fun e he => r.ent e (p.mem_iff.mpr he), (p.filterMap ownA).nodup_iff.mp r.nd⟩
theorem Rel.perm (p : L.Perm M) (r : Rel κ h L) : Rel κ h M := let ⟨f, r⟩ := r; ⟨f, r.perm p⟩
theorem RelF.sub (p : M.Sublist L) (r : RelF κ f h L) : RelF κ f h M :=
  ⟨r.same, fun e he => r.ent e (p.mem he), r.nd.sublist (p.filterMap ownA)⟩
theorem Rel.sub (p : M.Sublist L) (r : Rel κ h L) : Rel κ h M := let ⟨f, r⟩ := r; ⟨f, r.sub p⟩
theorem Rel.tail {e : En} (r : Rel κ h (e :: L)) : Rel κ h L := r.sub (List.sublist_cons_self ..)
theorem RelF.tail {e : En} (r : RelF κ f h (e :: L)) : RelF κ f h L := r.sub (List.sublist_cons_self ..)
theorem RelF.free {e : En} {a : Addr} (r : RelF κ f h (e :: L)) (he : ownA e = some a) : ∀ x ∈ L, ownA x ≠ some a := fun x hx z => by
  have nd := r.nd
  rw [List.filterMap_cons, he] at nd
  exact (List.nodup_cons.mp nd).1 (List.mem_filterMap.mpr ⟨x, hx, z⟩)
/-- a further value -/
theorem RelF.val {v : V} {d : D} (r : RelF κ f h L) (q : Rep κ f v d) : RelF κ f h ((some v, .val d) :: L) :=
  ⟨r.same, fun e he => by
    rcases List.mem_cons.mp he with rfl | he
    · exact ⟨v, rfl, q⟩
    · exact r.ent e he, by
    rw [List.filterMap_cons]
    have z : ownA (some v, .val d) = none := by unfold ownA; cases v <;> rfl
    rw [z]
    exact r.nd⟩
theorem RelF.emp {o : Option V} (r : RelF κ f h L) : RelF κ f h ((o, .emp) :: L) :=
  ⟨r.same, fun e he => by
    rcases List.mem_cons.mp he with rfl | he
    · exact trivial
    · exact r.ent e he, by
    rw [List.filterMap_cons]
    have z : ownA (o, .emp) = none := by
      rcases o with _ | v
      · rfl
      · cases v <;> rfl
    rw [z]
    exact r.nd⟩
theorem Rel.emp {o : Option V} (r : Rel κ h L) : Rel κ h ((o, .emp) :: L) := let ⟨f, r⟩ := r; ⟨f, r.emp⟩
theorem RelF.at (r : RelF κ f h L) {ov : Option V} {d : D} (he : (ov, .val d) ∈ L) : ∃ v, ov = some v ∧ Rep κ f v d := r.ent _ he
theorem RelF.atO (r : RelF κ f h L) {ov : Option V} {d : D} (he : (ov, .own d) ∈ L) : ∃ a, ov = some (.ref a) ∧ f a = none ∧ Own κ f h a d := r.ent _ he
theorem Rel.dup {v : V} {d : D} (r : Rel κ h L) (he : (some v, .val d) ∈ L) : Rel κ h ((some v, .val d) :: L) := by
  obtain ⟨f, r⟩ := r
  obtain ⟨v', e, q⟩ := r.at he
  cases e
  exact ⟨f, r.val q⟩
theorem Rel.scal {v : V} {d : D} (r : Rel κ h L) (q : ∀ g, Rep κ g v d) : Rel κ h ((some v, .val d) :: L) := let ⟨f, r⟩ := r; ⟨f, r.val (q f)⟩
/-- the heap grows by objects that nobody here owns -/
theorem RelF.grow {h' : Hp} (e : Same h h') (r : RelF κ f h L) : RelF κ f h' L :=
  ⟨r.same.trans e, fun x hx => by
    have z := r.ent x hx
    obtain ⟨ov, sl⟩ := x
    cases sl with
    | emp => exact trivial
    | val d => exact z
    | own d =>
      obtain ⟨a, e1, hf, o⟩ := z
      refine ⟨a, e1, hf, ?_⟩
      cases o with
      | lst q s => exact .lst (e _ _ q) s
      | obj c q l s => exact .obj c (e _ _ q) l s, r.nd⟩
theorem Rel.grow {h' : Hp} (e : Same h h') (r : Rel κ h L) : Rel κ h' L := let ⟨f, r⟩ := r; ⟨f, r.grow e⟩
/-- f may grow by an object that nobody here owns -/
theorem RelF.more {a : Addr} {u : HO} (hf : f a = none) (hh : h a = some u) (no : ∀ x ∈ L, ownA x ≠ some a) (r : RelF κ f h L) : RelF κ (upd f a u) h L := by
  have e : Same f (upd f a u) := fun b o hb => by rw [upd_ne (ne_of_none hb hf)]; exact hb
  refine ⟨fun b o hb => ?_, fun x hx => ?_, r.nd⟩
  · by_cases hba : b = a
    · subst hba
      rw [upd_same] at hb
      cases hb
      exact hh
    · rw [upd_ne hba] at hb
      exact r.same b o hb
  · have z := r.ent x hx
    obtain ⟨ov, sl⟩ := x
    cases sl with
    | emp => exact trivial
    | val d =>
      obtain ⟨v, e1, q⟩ := z
      exact ⟨v, e1, q.mono e⟩
    | own d =>
      obtain ⟨b, e1, hb, o⟩ := z
      have hne : b ≠ a := fun z => no _ hx (by rw [e1, ← z]; rfl)
      exact ⟨b, e1, by rw [upd_ne hne]; exact hb, o.mono e rfl⟩
/-- an own one is kept -/
theorem Rel.froze {v : V} {d : D} (r : Rel κ h ((some v, .own d) :: L)) : Rel κ h ((some v, .val d) :: L) := by
  obtain ⟨f, r⟩ := r
  obtain ⟨a, e, hf, o⟩ := r.atO List.mem_cons_self
  cases e
  obtain ⟨u, hu, e2, q⟩ := o.froze hf
  have no := r.free (e := (some (.ref a), .own d)) rfl
  exact ⟨_, (r.tail.more hf hu no).val q⟩
/-- a new object is laid: as an own one -/
theorem RelF.laid {p : Addr} {u : HO} {d : D} (hp : h p = none) (o : Own κ f (upd h p u) p d) (r : RelF κ f h L) : RelF κ f (upd h p u) ((some (.ref p), .own d) :: L) := by
  have e : Same h (upd h p u) := fun b o hb => by rw [upd_ne (ne_of_none hb hp)]; exact hb
  have r' := r.grow e
  have hf : f p = none := r.same.free hp
  refine ⟨r'.same, fun x hx => ?_, ?_⟩
  · rcases List.mem_cons.mp hx with rfl | hx
    · exact ⟨p, rfl, hf, o⟩
    · exact r'.ent x hx
  · rw [List.filterMap_cons]
    show (p :: L.filterMap ownA).Nodup
    refine List.nodup_cons.mpr ⟨fun hm => ?_, r.nd⟩
    obtain ⟨x, hx, q⟩ := List.mem_filterMap.mp hm
    have z := r.ent x hx
    obtain ⟨ov, sl⟩ := x
    cases sl with
    | emp => simp [ownA] at q
    | val d => simp [ownA] at q
    | own d' =>
      obtain ⟨b, e1, hb, ob⟩ := z
      rw [e1] at q
      simp [ownA] at q
      subst q
      cases ob with
      | lst q _ => rw [hp] at q; cases q
      | obj _ q _ _ => rw [hp] at q; cases q
/-- .. as one that nobody changes -/
theorem RelF.laidV {p : Addr} {u : HO} {d : D} (hp : h p = none) (q : Rep κ (upd f p u) (.ref p) d) (r : RelF κ f h L) : RelF κ (upd f p u) (upd h p u) ((some (.ref p), .val d) :: L) := by
  have e : Same h (upd h p u) := fun b o hb => by rw [upd_ne (ne_of_none hb hp)]; exact hb
  have hf : f p = none := r.same.free hp
  refine ((r.grow e).more hf upd_same fun x hx z => ?_).val q
  have y := r.ent x hx
  obtain ⟨ov, sl⟩ := x
  cases sl with
  | emp => simp [ownA] at z
  | val d => simp [ownA] at z
  | own d' =>
    obtain ⟨b, e1, hb, ob⟩ := y
    rw [e1] at z
    simp [ownA] at z
    subst z
    cases ob with
    | lst q _ => rw [hp] at q; cases q
    | obj _ q _ _ => rw [hp] at q; cases q
/-- an own one is changed -/
theorem RelF.mut {a : Addr} {u : HO} {d d' : D} (o : Own κ f (upd h a u) a d') (r : RelF κ f h ((some (.ref a), .own d) :: L)) : RelF κ f (upd h a u) ((some (.ref a), .own d') :: L) := by
  obtain ⟨a', e, hf, _⟩ := r.atO (ov := some (.ref a)) List.mem_cons_self
  cases e
  have no := r.free (e := (some (.ref a), .own d)) rfl
  refine ⟨fun b o hb => by rw [upd_ne (ne_of_none hb hf)]; exact r.same b o hb, fun x hx => ?_, r.nd⟩
  rcases List.mem_cons.mp hx with rfl | hx
  · exact ⟨a, rfl, hf, o⟩
  · have z := r.ent x (List.mem_cons_of_mem _ hx)
    obtain ⟨ov, sl⟩ := x
    cases sl with
    | emp => exact trivial
    | val d => exact z
    | own e =>
      obtain ⟨b, e1, hb, ob⟩ := z
      have hne : b ≠ a := fun z => no _ hx (by rw [e1, ← z]; rfl)
      exact ⟨b, e1, hb, ob.mono (Same.refl _) (upd_ne hne)⟩
end

/-! ## lists of entries -/
theorem zip_split {σ : List (Option V)} {δ : List Sl} {i : Nat} (hl : σ.length = δ.length) (hi : i < δ.length) (τ : List En) :
    ∃ ρ : List En, (σ.zip δ ++ τ).Perm (((σ[i]?).getD none, δ.getD i .emp) :: ρ) ∧ (∀ x, (σ.zip (δ.set i x) ++ τ).Perm (((σ[i]?).getD none, x) :: ρ)) ∧ ∀ v x, ((σ.set i v).zip (δ.set i x) ++ τ).Perm ((v, x) :: ρ) := by
  induction σ generalizing δ i with
  | nil =>
    have : δ.length = 0 := by simpa using hl.symm
    omega
  | cons a σ ih =>
    cases δ with
    | nil => simp at hi
    | cons b δ =>
      cases i with
      | zero => exact ⟨σ.zip δ ++ τ, by simp, fun x => by simp, fun v x => by simp⟩
      | succ i =>
        obtain ⟨ρ, h1, h2, h3⟩ := ih (δ := δ) (i := i) (by simpa using hl) (by simpa using hi)
        refine ⟨(a, b) :: ρ, ?_, fun x => ?_, fun v x => ?_⟩
        · simp only [List.zip_cons_cons, List.cons_append, List.getElem?_cons_succ, List.getD_cons_succ]
          exact ((h1.cons (a, b)).trans (List.Perm.swap ..))
        · simp only [List.zip_cons_cons, List.cons_append, List.getElem?_cons_succ, List.set_cons_succ]
          exact (((h2 x).cons (a, b)).trans (List.Perm.swap ..))
        · simp only [List.zip_cons_cons, List.cons_append, List.set_cons_succ]
          exact (((h3 v x).cons (a, b)).trans (List.Perm.swap ..))
end PyV
set_option Elab.async false
set_option linter.all false
set_option maxRecDepth 100000
set_option maxHeartbeats 2000000
namespace PyV
open PySem L2 PySem.Spec PyProof.Rows

/-! ## rules of operators over the layer -/
section
variable {X : Cx} {pins : List (Addr × Obj)} {σ : L2.St} {H : Hp} {s : Shared}
theorem lineEq : sizeLine = 16777216 := sizeLine_eq
theorem Inv.lx {l : Addr} {xs : List V} (I : Inv X pins σ H s) (h : SqX X.K H l xs) :
    xs.length ≤ sizeLine ∧ ∃ (its : List Value) (n : Nat), Vals xs its ∧ xs.length = its.length ∧ s.heap.get? l = some { cls := .type "list", data := .seq its.toArray n } := by
  rcases h with h | ⟨its, n, hk, hz, r⟩
  · obtain ⟨z, its, n, r, e⟩ := h.ok I.hok
    exact ⟨z, its, n, r, r.length, e⟩
  · have hl := r.length
    simp only [Array.length_toList] at hl
    exact ⟨by omega, its.toList, n, r, by simpa using hl, by simpa using I.kIn l _ hk⟩
def rCatX (K : PySem.W.Frag) : R2 := fun x y H Q => ∃ l b xs zs, x = .ref l ∧ y = .ref b ∧ SqX K H l xs ∧ SqX K H b zs ∧ xs.length + zs.length ≤ 16777216 ∧ ∀ p, H p = none → Q (.ref p) (upd H p (.lst (xs ++ zs)))
theorem op_catX : OpR X (binaryOp .Add) (rCatX X.K) := by
  rintro pins s σ H x y v u Q I rx ry ⟨l, b, xs, zs, rfl, rfl, hH, hB, hz, q⟩
  cases rx
  cases ry
  obtain ⟨z, its, n, r, hl, e⟩ := Inv.lx I hH
  obtain ⟨z2, its2, n2, r2, hl2, e2⟩ := Inv.lx I hB
  refine PySem.P.add_list e e2 ?_ (by rw [List.size_toArray, List.size_toArray, lineEq]; omega)
  rw [show its.toArray ++ its2.toArray = (its ++ its2).toArray by simp]
  exact ⟨.ref _, _, I.lnew (t' := s.toks) (r.append r2) (by rw [List.length_append, lineEq]; omega), rfl, q _ I.fresh⟩
def rRepX (K : PySem.W.Frag) : R2 := fun x y H Q => ∃ l k xs, x = .ref l ∧ y = .int k ∧ SqX K H l xs ∧ -16777216 ≤ k ∧ k ≤ 16777216 ∧ xs.length * k.toNat ≤ 16777216 ∧
  ∀ p, H p = none → Q (.ref p) (upd H p (.lst (List.replicate k.toNat xs).flatten))
theorem op_repX : OpR X (binaryOp .Mult) (rRepX X.K) := by
  rintro pins s σ H x y v u Q I rx ry ⟨l, k, xs, rfl, rfl, hH, h1, h2, hz, q⟩
  cases rx
  obtain ⟨t, rfl⟩ := ry
  obtain ⟨z, its, n, r, hl, e⟩ := Inv.lx I hH
  have size : its.toArray.size * k.toNat ≤ sizeLine := by
    rw [List.size_toArray, ← hl, lineEq]
    exact hz
  have line : (sizeLine : Nat) ≤ (2 ^ 63 - 1) / 8 := by decide
  have all : List.foldl (fun a b => a ++ b) #[] (List.replicate (if its.toArray.isEmpty = true then 0 else k.toNat) its.toArray) = (List.replicate k.toNat its).flatten.toArray := by
    have rep (m : Nat) : List.foldl (fun a b => a ++ b) #[] (List.replicate m its.toArray) = (List.replicate m its).flatten.toArray := by
      have z := foldl_rep its m []
      rwa [List.nil_append] at z
    rw [rep]
    cases its with
    | nil => simp
    | cons a r' => simp
  refine wpAny_binaryOp_repeat_ref (T := "list") (U := "int") (by decide) ⟨_, e, rfl⟩ (fun s' => typeIs_int s' k t) noFill_list_mul F.fills_int_mul F.slot_int_rmul repeat_list F.slot_int_index.lookup
    (call_meets F.slot_int_rmul (typeIs_int s k t) F.entry_int_rmul (F.args_int_rmul_2 _ _) (int___rmul___int_list k t l its.toArray n)
      ⟨e, rfl, ⟨_, e, rfl⟩, call_meets F.slot_list_mul ⟨_, e, rfl⟩ F.entry_list_mul (F.args_list_mul_2 _ _)
        (AutoListH.list___mul___list_int_3 l its.toArray n k t (by rw [fitsIndex_both (by omega) (by omega)]; exact Bool.false_ne_true) (by omega) (by rw [notLongL size]; exact Bool.false_ne_true)) ⟨e, ?_⟩⟩)
  rw [all]
  exact ⟨.ref _, _, I.lnew (t' := s.toks) (r.rep k.toNat) (by rw [PyProof.Rows.lm_len_rep_flat, Nat.mul_comm, lineEq]; exact hz), rfl, q _ I.fresh⟩
theorem fold_rep (a : Array Nat) : ∀ (m : Nat) (b : Array Nat), ((List.replicate m a).foldl (fun x y => x ++ y) b).toList = b.toList ++ (List.replicate m a.toList).flatten
  | 0, b => by simp
  | m + 1, b => by
    rw [List.replicate_succ, List.foldl_cons, fold_rep a m, List.replicate_succ, List.flatten_cons]
    simp
theorem len_rep (a : List Nat) (m : Nat) : (List.replicate m a).flatten.length = m * a.length := by simp
def rMulS : R2 := fun x y H Q => ∃ (z : List Nat) (k : Int), x = .str ⟨z.toArray⟩ ∧ y = .int k ∧ -16777216 ≤ k ∧ k ≤ 16777216 ∧ z.length * k.toNat ≤ 16777216 ∧ Q (.str ⟨(List.replicate k.toNat z).flatten.toArray⟩) H
theorem op_mulS : OpR X (binaryOp .Mult) rMulS := by
  rintro pins s σ H x y v u Q I rx ry ⟨z, k, rfl, rfl, h1, h2, hz, q⟩
  obtain ⟨t, rfl⟩ := rx
  obtain ⟨t', rfl⟩ := ry
  have lz : (⟨z.toArray⟩ : Str).length = z.length := by simp [Str.length]
  refine PySem.P.mul_str (by rw [decide_eq_false (by omega), decide_eq_false (by omega)]; rfl) (fun a b => ?_) (fun a b => ?_) ?_
  · rw [lz]
    have hk : 0 < k := by omega
    have hk2 : (z.length : Int) * k ≤ 16777216 := by
      have e : ((z.length * k.toNat : Nat) : Int) = (z.length : Int) * k := by
        rw [Int.natCast_mul, Int.toNat_of_nonneg (by omega)]
      rw [← e]
      omega
    have : (z.length : Int) ≤ (2 ^ 63 - 1) / k := (Int.le_ediv_iff_mul_le hk).mpr (by omega)
    omega
  · rw [lz]
    exact decide_eq_false (by rw [lineEq]; omega)
  · by_cases c1 : k < 1
    · rw [if_pos c1]
      have e : k.toNat = 0 := by omega
      rw [e] at q
      exact ⟨by decide, .str Str.empty, H, I.tok _, ⟨_, rfl⟩, q⟩
    · rw [if_neg c1]
      by_cases c2 : (k == 1 || (⟨z.toArray⟩ : Str).length == 0) = true
      · rw [if_pos c2]
        have e : (List.replicate k.toNat z).flatten = z := by
          rcases Bool.or_eq_true_iff.mp c2 with c | c
          · have : k = 1 := by simpa using c
            subst this
            simp
          · have : z = [] := by
              have : z.length = 0 := by rw [← lz]; simpa using c
              exact List.eq_nil_of_length_eq_zero this
            subst this
            simp
        rw [e] at q
        exact ⟨.str ⟨z.toArray⟩, H, I, ⟨_, rfl⟩, q⟩
      · rw [if_neg c2]
        have e : (List.foldl (fun x y => x ++ y) #[] (List.replicate k.toNat z.toArray)) = (List.replicate k.toNat z).flatten.toArray := by
          apply Array.ext'
          rw [fold_rep]
          simp
        show _ ∧ _
        rw [e]
        refine ⟨?_, .str ⟨(List.replicate k.toNat z).flatten.toArray⟩, H, I.tok _, ⟨_, rfl⟩, q⟩
        show (List.replicate k.toNat z).flatten.toArray.size ≤ sizeLine
        rw [List.size_toArray, len_rep, lineEq, Nat.mul_comm]
        exact hz
def CMulV (i j : Int) : Prop := mulOk i j = true
theorem op_mulV : OpR X (binaryOp .Mult) (rI CMulV fun i j => .int (i * j)) := opI fun i j _ _ _ _ _ hc q => by
  refine mul_int q ?_
  unfold CMulV mulOk smallI at hc
  simp only [Bool.or_eq_true, decide_eq_true_eq] at hc
  rcases hc with (hc | hc) | hc
  · exact .of_left (intBits_le_64 (by omega) (by omega))
  · exact .of_right (intBits_le_64 (by omega) (by omega))
  · exact CMulW.ok hc
def CDivV (_ j : Int) : Prop := divOk j = true
theorem op_fdivV : OpR X (binaryOp .FloorDiv) (rI CDivV fun i j => .int (i / j)) := by
  intro pins s σ H x y v u Q I rx ry ⟨i, j, e1, e2, hc, q⟩
  refine op_fdivW pins s σ H x y v u Q I rx ry ⟨i, j, e1, e2, ?_, q⟩
  unfold CDivV divOk at hc
  simp only [Bool.and_eq_true, decide_eq_true_eq] at hc
  exact hc
def CPowV (i j : Int) : Prop := powOk i j = true
theorem op_powV : OpR X (binaryOp .Pow) (rI CPowV fun i j => .int (i ^ j.toNat)) := opI fun i j _ _ _ _ _ hc q => by
  unfold CPowV powOk at hc
  simp only [Bool.and_eq_true, decide_eq_true_eq] at hc
  exact pow_int hc.1 hc.2 q
def CShlV (i j : Int) : Prop := shlOk i j = true
theorem shlV {i j : Int} (hc : CShlV i j) : CShl i j := by
  unfold CShlV shlOk at hc
  simp only [Bool.and_eq_true, decide_eq_true_eq] at hc
  exact hc
theorem op_shlV : OpR X (binaryOp .LShift) (rI CShlV fun i j => .int (i * 2 ^ j.toNat)) := by
  intro pins s σ H x y v u Q I rx ry ⟨i, j, e1, e2, hc, q⟩
  exact op_shlW pins s σ H x y v u Q I rx ry ⟨i, j, e1, e2, shlV hc, q⟩

/-! ### which operator it is in the text -/
def opP : Op → Operator
  | .add => .Add | .sub => .Sub | .mul => .Mult | .fdiv => .FloorDiv | .mod => .Mod | .pow => .Pow | .shl => .LShift | .shr => .RShift | .band => .BitAnd | .bor => .BitOr | .bxor => .BitXor
def rAddS : R2 := fun x y H Q => ∃ i j, x = .str i ∧ y = .str j ∧ i.length + j.length ≤ sizeLine ∧ Q (.str (i ++ j)) H
def rBin (K : PySem.W.Frag) : Op → R2
  | .add => fun x y H Q => (rI0 (fun i j => .int (i + j)) x y H Q ∨ rAddS x y H Q) ∨ (rCatX K x y H Q ∨ rCatT K x y H Q)
  | .sub => rI0 fun i j => .int (i - j)
  | .mul => fun x y H Q => rI CMulV (fun i j => .int (i * j)) x y H Q ∨ (rMulS x y H Q ∨ rRepX K x y H Q)
  | .fdiv => rI CDivV fun i j => .int (i / j)
  | .mod => rI (fun _ j => 0 < j) fun i j => .int (i % j)
  | .pow => rI CPowV fun i j => .int (i ^ j.toNat)
  | .shl => rI CShlV fun i j => .int (i * 2 ^ j.toNat)
  | .shr => rI (fun _ j => 0 ≤ j) fun i j => .int (i / 2 ^ j.toNat)
  | .band => rI0 fun i j => .int (Builtin.bitAnd i j)
  | .bor => rI0 fun i j => .int (Builtin.bitOr i j)
  | .bxor => rI0 fun i j => .int (Builtin.bitXor i j)
theorem op_bin (o : Op) : OpR X (binaryOp (opP o)) (rBin X.K o) := by
  cases o with
  | add => exact (op_add.or op_add_str).or (op_catX.or op_catT)
  | sub => exact op_sub
  | mul => exact op_mulV.or (op_mulS.or op_repX)
  | fdiv => exact op_fdivV
  | mod => exact op_mod
  | pow => exact op_powV
  | shl => exact op_shlV
  | shr => exact op_shr
  | band => exact op_and
  | bor => exact op_or
  | bxor => exact op_xor
end
end PyV
set_option Elab.async false
set_option linter.all false
set_option maxRecDepth 100000
set_option maxHeartbeats 2000000
namespace PyV
open PySem PySem.Spec PyProof.Rows L2

/-! ## readings by the interpreter -/
def slotOf : Rv → Sl
  | .val d => .val d
  | .own d => .own d
  | .ali _ => .emp
def ent (r : Rv) (v : V) : En := (some v, slotOf r)
def AliOk (σ : L2.St) (r : Rv) (v : V) : Prop := ∀ i, r = .ali i → σ[i]? = some (some v)
structure SR (κ : Kx) (io : Option (Nat × V)) (σ : L2.St) (H : Hp) (δ : Ss) (τ : List En) : Prop where
  len : σ.length = δ.length
  rel : Rel κ H (σ.zip δ ++ τ)
  io : ∀ j v, io = some (j, v) → σ[j]? = some (some v)
/-- an exception of a class -/
def ExR (κ : Kx) (cls : Value) (x : Ex) : Prop := cls = .ref (κ.cls x.c) ∧ x.ns = []
/-- what is wanted behind an expression that the interpreter answers so -/
def post {α : Type} (κ : Kx) (io : Option (Nat × V)) (W : WX) (σ : L2.St) (τ : List En) (K : α → Ss → Prop) : R α → Prop
  | .ok a δ => K a δ
  | .ex x δ => ∀ cls d H, SR κ io σ H δ τ → ExR κ cls x → W cls d σ H
  | .bad => False
def okE (κ : Kx) (io : Option (Nat × V)) (σ : L2.St) (τ : List En) (Q : VK) : Rv → Ss → Prop := fun r δ => ∀ v H, SR κ io σ H δ (ent r v :: τ) → AliOk σ r v → Q v H
def tD (κ : Kx) (io : Option (Nat × V)) (W : WX) (den : Ss → R Rv) : TE := fun σ H Q => ∃ δ τ, SR κ io σ H δ τ ∧ post κ io W σ τ (okE κ io σ τ Q) (den δ)
def okT (κ : Kx) (io : Option (Nat × V)) (σ : L2.St) (τ : List En) (Q : Bool → Hp → Prop) : Bool → Ss → Prop := fun b δ => ∀ H, SR κ io σ H δ τ → Q b H
def tDT (κ : Kx) (io : Option (Nat × V)) (W : WX) (den : Ss → R Bool) : TT := fun σ H Q => ∃ δ τ, SR κ io σ H δ τ ∧ post κ io W σ τ (okT κ io σ τ Q) (den δ)
/-- argument lists: the last one's entry first -/
def ents : List Rv → List V → List En
  | r :: rs, v :: vs => ents rs vs ++ [ent r v]
  | _, _ => []
inductive Alis (σ : L2.St) : List Rv → List V → Prop where
  | nil : Alis σ [] []
  | cons {r : Rv} {v : V} {rs : List Rv} {vs : List V} : AliOk σ r v → Alis σ rs vs → Alis σ (r :: rs) (v :: vs)
def okA (κ : Kx) (io : Option (Nat × V)) (σ : L2.St) (τ : List En) (Q : List V → Hp → Prop) : List Rv → Ss → Prop := fun rs δ => ∀ vs H, SR κ io σ H δ (ents rs vs ++ τ) → Alis σ rs vs → Q vs H
def tDA (κ : Kx) (io : Option (Nat × V)) (W : WX) (den : Ss → R (List Rv)) : TA := fun σ H Q => ∃ δ τ, SR κ io σ H δ τ ∧ post κ io W σ τ (okA κ io σ τ Q) (den δ)

theorem PE.imp {X : Cx} {e : Expr} {t t' : TE} (h : PE X e t) (k : ∀ σ H Q, t' σ H Q → t σ H Q) : PE X e t' := ⟨fun pins s σ H Q I q => h.run pins s σ H Q I (k σ H Q q)⟩
theorem PT.imp {X : Cx} {e : Expr} {t t' : TT} (h : PT X e t) (k : ∀ σ H Q, t' σ H Q → t σ H Q) : PT X e t' := ⟨fun pins s σ H Q I q => h.run pins s σ H Q I (k σ H Q q)⟩
theorem PW.imp {X : Cx} {e : Expr} {t t' : TT} (h : PW X e t) (k : ∀ σ H Q, t' σ H Q → t σ H Q) : PW X e t' := ⟨fun wh pins s σ H Q I q => h.run wh pins s σ H Q I (k σ H Q q)⟩
theorem PA.imp {X : Cx} {e : List Expr} {t t' : TA} (h : PA X e t) (k : ∀ σ H Q, t' σ H Q → t σ H Q) : PA X e t' := ⟨fun pos pins s σ H Q I q => h.run pos pins s σ H Q I (k σ H Q q)⟩

section
variable {κ : Kx} {io : Option (Nat × V)} {W : WX} {σ : L2.St} {H : Hp} {δ : Ss} {τ ρ : List En}
theorem SR.cut (s : SR κ io σ H δ (ρ ++ τ)) : SR κ io σ H δ τ := ⟨s.len, s.rel.sub ((List.sublist_append_right ρ τ).append_left _), s.io⟩
theorem SR.tl {e : En} (s : SR κ io σ H δ (e :: τ)) : SR κ io σ H δ τ := SR.cut (ρ := [e]) s
theorem SR.bottom {τ' : List En} (s : SR κ io σ H δ τ) (h : ∀ L, Rel κ H (L ++ τ) → Rel κ H (L ++ τ')) : SR κ io σ H δ τ' := ⟨s.len, h _ s.rel, s.io⟩
theorem SR.push {e : En} (s : SR κ io σ H δ τ) (h : ∀ L, Rel κ H L → Rel κ H (e :: L)) : SR κ io σ H δ (e :: τ) :=
  ⟨s.len, (h _ s.rel).perm List.perm_middle.symm, s.io⟩
theorem SR.grow {H' : Hp} (s : SR κ io σ H δ τ) (e : Same H H') : SR κ io σ H' δ τ := ⟨s.len, s.rel.grow e, s.io⟩
/-- one after the other: den first, then f; ρ is what hangs in the air -/
theorem seqD {α : Type} {den : Ss → R Rv} {f : Rv → Ss → R α} {Kf : α → Ss → Prop} {K : V → Hp → Prop} (hp : post κ io W σ τ Kf ((den δ).bind f)) (hs : SR κ io σ H δ (ρ ++ τ))
    (k : ∀ r δ1 v H1, SR κ io σ H1 δ1 (ent r v :: (ρ ++ τ)) → AliOk σ r v → post κ io W σ τ Kf (f r δ1) → K v H1) : tD κ io W den σ H K := by
  refine ⟨δ, ρ ++ τ, hs, ?_⟩
  cases e : den δ with
  | ok r δ1 =>
    rw [e] at hp
    exact fun v H1 s1 a => k r δ1 v H1 s1 a hp
  | ex x δ1 =>
    rw [e] at hp
    exact fun cls d H1 s1 xr => hp cls d H1 s1.cut xr
  | bad =>
    rw [e] at hp
    exact hp
theorem seqT {α : Type} {den : Ss → R Bool} {f : Bool → Ss → R α} {Kf : α → Ss → Prop} {K : Bool → Hp → Prop} (hp : post κ io W σ τ Kf ((den δ).bind f)) (hs : SR κ io σ H δ (ρ ++ τ))
    (k : ∀ b δ1 H1, SR κ io σ H1 δ1 (ρ ++ τ) → post κ io W σ τ Kf (f b δ1) → K b H1) : tDT κ io W den σ H K := by
  refine ⟨δ, ρ ++ τ, hs, ?_⟩
  cases e : den δ with
  | ok r δ1 =>
    rw [e] at hp
    exact fun H1 s1 => k r δ1 H1 s1 hp
  | ex x δ1 =>
    rw [e] at hp
    exact fun cls d H1 s1 xr => hp cls d H1 s1.cut xr
  | bad =>
    rw [e] at hp
    exact hp
theorem seqA {α : Type} {den : Ss → R (List Rv)} {f : List Rv → Ss → R α} {Kf : α → Ss → Prop} {K : List V → Hp → Prop} (hp : post κ io W σ τ Kf ((den δ).bind f)) (hs : SR κ io σ H δ (ρ ++ τ))
    (k : ∀ rs δ1 vs H1, SR κ io σ H1 δ1 (ents rs vs ++ (ρ ++ τ)) → Alis σ rs vs → post κ io W σ τ Kf (f rs δ1) → K vs H1) : tDA κ io W den σ H K := by
  refine ⟨δ, ρ ++ τ, hs, ?_⟩
  cases e : den δ with
  | ok r δ1 =>
    rw [e] at hp
    exact fun vs H1 s1 a => k r δ1 vs H1 s1 a hp
  | ex x δ1 =>
    rw [e] at hp
    exact fun cls d H1 s1 xr => hp cls d H1 s1.cut xr
  | bad =>
    rw [e] at hp
    exact hp
/-- a value's entry: what may be read of it -/
theorem SR.read (s : SR κ io σ H δ τ) {r : Rv} {v : V} {d : D} (he : (some v, slotOf r) ∈ τ) (a : AliOk σ r v) (e : rd δ r = some d) {f : Hp} (rf : RelF κ f H (σ.zip δ ++ τ)) :
    Rep κ f v d ∨ ∃ a, v = .ref a ∧ f a = none ∧ Own κ f H a d := by
  have slot : ∀ x, (some v, x) ∈ σ.zip δ ++ τ → (x = .val d ∨ x = .own d) → Rep κ f v d ∨ ∃ a, v = .ref a ∧ f a = none ∧ Own κ f H a d := fun x hx q => by
    rcases q with rfl | rfl
    · obtain ⟨v', e1, q⟩ := rf.at hx
      cases e1
      exact .inl q
    · obtain ⟨b, e1, h1, o⟩ := rf.atO hx
      exact .inr ⟨b, Option.some.inj e1, h1, o⟩
  cases r with
  | val d' =>
    simp [rd] at e
    subst e
    exact slot _ (List.mem_append_right _ he) (.inl rfl)
  | own d' =>
    simp [rd] at e
    subst e
    exact slot _ (List.mem_append_right _ he) (.inr rfl)
  | ali i =>
    have hi := a i rfl
    simp only [rd, sl?] at e
    have mem : ∀ x, δ.getD i .emp = x → x ≠ .emp → (some v, x) ∈ σ.zip δ ++ τ := fun x hx ne => by
      have hlt : i < δ.length := by
        rcases Nat.lt_or_ge i δ.length with q | q
        · exact q
        · exact absurd (by rw [← hx]; simp [List.getD, List.getElem?_eq_none q]) ne
      refine List.mem_append_left _ (List.mem_of_getElem? (i := i) ?_)
      rw [List.getElem?_zip_eq_some]
      exact ⟨hi, by rw [← hx]; simp [hlt]⟩
    cases q : δ.getD i .emp with
    | emp => rw [q] at e; cases e
    | val d' =>
      rw [q] at e
      cases e
      exact slot _ (mem _ q (by simp)) (.inl rfl)
    | own d' =>
      rw [q] at e
      cases e
      exact slot _ (mem _ q (by simp)) (.inr rfl)
/-- .. over the whole heap -/
theorem rep_of {f : Hp} {v : V} {d : D} (sm : Same f H) (q : Rep κ f v d ∨ ∃ a, v = .ref a ∧ f a = none ∧ Own κ f H a d) : Rep κ H v d := by
  rcases q with q | ⟨a, rfl, _, o⟩
  · exact q.mono sm
  · cases o with
    | lst q r => exact .lst (.inl (.inl q)) (r.mono sm)
    | obj c q l r => exact .obj c q l (r.mono sm)
theorem lst_of {f : Hp} {K : PySem.W.Frag} {v : V} {ds : List D} (sm : Same f H) (hK : κ.K = K) (q : Rep κ f v (.lst ds) ∨ ∃ a, v = .ref a ∧ f a = none ∧ Own κ f H a (.lst ds)) : ∃ a vs, v = .ref a ∧ SqX K H a vs ∧ Reps κ f vs ds := by
  subst hK
  rcases q with q | ⟨a, rfl, _, o⟩
  · cases q with
    | lst q r => exact ⟨_, _, rfl, q.mono sm, r⟩
  · cases o with
    | lst q r => exact ⟨_, _, rfl, .inl (.inl q), r⟩
theorem tup_of {f : Hp} {K : PySem.W.Frag} {v : V} {ds : List D} (sm : Same f H) (hK : κ.K = K) (q : Rep κ f v (.tup ds) ∨ ∃ a, v = .ref a ∧ f a = none ∧ Own κ f H a (.tup ds)) : ∃ a vs, v = .ref a ∧ SqT K H a vs ∧ Reps κ f vs ds := by
  subst hK
  rcases q with q | ⟨a, rfl, _, o⟩
  · cases q with
    | tup q r => exact ⟨_, _, rfl, sqT_mono sm q, r⟩
  · cases o
theorem rep_int {f : Hp} {v : V} {i : Int} (q : Rep κ f v (.int i)) : v = .int i := by cases q; rfl
theorem rep_bl {f : Hp} {v : V} {i : Bool} (q : Rep κ f v (.bl i)) : v = .bl i := by cases q; rfl
theorem rep_str {f : Hp} {v : V} {s : List Nat} (q : Rep κ f v (.str s)) : v = .str ⟨s.toArray⟩ ∧ ∀ c ∈ s, c < 1114112 := by cases q; exact ⟨rfl, by assumption⟩
end
end PyV
set_option Elab.async false
set_option linter.all false
set_option maxRecDepth 100000
set_option maxHeartbeats 2000000
namespace PyV
open PySem PySem.Spec PyProof.Rows L2

section
variable {κ : Kx} {io : Option (Nat × V)} {W : WX} {σ : L2.St} {H : Hp} {δ : Ss} {τ ρ : List En} {X : Cx} {a' b' c' : Expr} {pos : Pos} {Q : VK}
/-! ### ends -/
theorem SR.scal {v : V} {d : D} (s : SR κ io σ H δ τ) (q : ∀ g, Rep κ g v d) : SR κ io σ H δ (ent (.val d) v :: τ) := s.push fun L r => r.scal q
theorem fin_scal {d : D} {v : V} (s : SR κ io σ H δ τ) (hq : okE κ io σ τ Q (.val d) δ) (q : ∀ g, Rep κ g v d) : Q v H := hq v H (s.scal q) (fun i e => nomatch e)
theorem fin_int {i : Int} (s : SR κ io σ H δ τ) (hq : okE κ io σ τ Q (.val (.int i)) δ) : Q (.int i) H := fin_scal s hq fun _ => .int i
theorem fin_bl {i : Bool} (s : SR κ io σ H δ τ) (hq : okE κ io σ τ Q (.val (.bl i)) δ) : Q (.bl i) H := fin_scal s hq fun _ => .bl i
theorem fin_str {x : List Nat} (s : SR κ io σ H δ τ) (hq : okE κ io σ τ Q (.val (.str x)) δ) (h : ∀ c ∈ x, c < 1114112) : Q (.str ⟨x.toArray⟩) H := fin_scal s hq fun _ => .str x h
/-- a new list -/
theorem fin_lst {f : Hp} {ds : List D} {vs : List V} {p : Addr} (len : σ.length = δ.length) (hio : ∀ j v, io = some (j, v) → σ[j]? = some (some v)) (rf : RelF κ f H (σ.zip δ ++ τ)) (hq : okE κ io σ τ Q (.own (.lst ds)) δ) (hp : H p = none) (r : Reps κ f vs ds) : Q (.ref p) (upd H p (.lst vs)) :=
  hq (.ref p) _ ⟨len, (show Rel κ (upd H p (.lst vs)) _ from ⟨f, rf.laid hp (.lst upd_same r)⟩).perm List.perm_middle.symm, hio⟩ (fun i e => nomatch e)
theorem fin_tup {f : Hp} {ds : List D} {vs : List V} {p : Addr} (len : σ.length = δ.length) (hio : ∀ j v, io = some (j, v) → σ[j]? = some (some v)) (rf : RelF κ f H (σ.zip δ ++ τ)) (hq : okE κ io σ τ Q (.val (.tup ds)) δ) (hp : H p = none) (r : Reps κ f vs ds) : Q (.ref p) (upd H p (.tup vs)) := by
  have hf : f p = none := rf.same.free hp
  have e : Same f (upd f p (.tup vs)) := same_upd hf
  exact hq (.ref p) _ ⟨len, (show Rel κ (upd H p (.tup vs)) _ from ⟨_, rf.laidV hp (.tup (.inl (.inl upd_same)) (r.mono e))⟩).perm List.perm_middle.symm, hio⟩ (fun i e => nomatch e)
/-- a value that lies there already -/
theorem fin_rep {f : Hp} {d : D} {v : V} (len : σ.length = δ.length) (hio : ∀ j v, io = some (j, v) → σ[j]? = some (some v)) (rf : RelF κ f H (σ.zip δ ++ τ)) (hq : okE κ io σ τ Q (.val d) δ) (r : Rep κ f v d) : Q v H :=
  hq v _ ⟨len, (show Rel κ H _ from ⟨f, rf.val r⟩).perm List.perm_middle.symm, hio⟩ (fun i e => nomatch e)

/-! ### two operands -/
theorem bin_use {K : PySem.W.Frag} (hK : κ.K = K) {o : Op} {x y : V} {d e z : D} {f : Hp} (len : σ.length = δ.length) (hio : ∀ j v, io = some (j, v) → σ[j]? = some (some v)) (rf : RelF κ f H (σ.zip δ ++ τ))
    (hx : Rep κ f x d ∨ ∃ a, x = .ref a ∧ f a = none ∧ Own κ f H a d) (hy : Rep κ f y e ∨ ∃ a, y = .ref a ∧ f a = none ∧ Own κ f H a e) (hz : binD o d e = some z) (hq : okE κ io σ τ Q (out z) δ) : rBin K o x y H Q := by
  have s : SR κ io σ H δ τ := ⟨len, ⟨f, rf⟩, hio⟩
  have sm := rf.same
  have kx := rep_of sm hx
  have ky := rep_of sm hy
  have twoI : ∀ i j, d = .int i → e = .int j → x = .int i ∧ y = .int j := fun i j e1 e2 => by
    subst e1 e2
    exact ⟨rep_int kx, rep_int ky⟩
  cases o with
  | add =>
    unfold binD at hz
    split at hz <;> try (cases hz; done)
    all_goals first | cases ‹Op.add = _›; done | skip
    · obtain ⟨rfl, rfl⟩ := twoI _ _ rfl rfl
      cases hz
      exact .inl (.inl ⟨_, _, rfl, rfl, fin_int s hq⟩)
    · rename_i a b _
      obtain ⟨rfl, v1⟩ := rep_str kx
      obtain ⟨rfl, v2⟩ := rep_str ky
      split at hz
      · rename_i hl
        cases hz
        refine .inl (.inr ⟨_, _, rfl, rfl, by rw [lineEq]; simpa [Str.length] using hl, ?_⟩)
        have q := fin_str (x := a ++ b) s hq (by
          intro c hc
          rcases List.mem_append.mp hc with hc | hc
          · exact v1 c hc
          · exact v2 c hc)
        have ee : (⟨a.toArray⟩ : Str) ++ (⟨b.toArray⟩ : Str) = ⟨(a ++ b).toArray⟩ := by
          show Str.mk (a.toArray ++ b.toArray) = _
          simp
        rw [ee]
        exact q
      · cases hz
    · obtain ⟨l, vs, rfl, q1, r1⟩ := lst_of sm hK hx
      obtain ⟨l2, ws, rfl, q2, r2⟩ := lst_of sm hK hy
      split at hz
      · rename_i hl
        cases hz
        refine .inr (.inl ⟨l, l2, vs, ws, rfl, rfl, q1, q2, by rw [r1.length, r2.length]; exact hl, fun p hp => ?_⟩)
        exact fin_lst len hio rf hq hp (r1.append r2)
      · cases hz
    · obtain ⟨l, vs, rfl, q1, r1⟩ := tup_of sm hK hx
      obtain ⟨l2, ws, rfl, q2, r2⟩ := tup_of sm hK hy
      split at hz
      · rename_i hl
        cases hz
        have n1 : vs ≠ [] := fun z => by
          have := r1.length
          rw [z] at this
          exact hl.1 (List.eq_nil_of_length_eq_zero this.symm)
        have n2 : ws ≠ [] := fun z => by
          have := r2.length
          rw [z] at this
          exact hl.2.1 (List.eq_nil_of_length_eq_zero this.symm)
        refine .inr (.inr ⟨l, l2, vs, ws, rfl, rfl, q1, q2, n1, by rw [r1.length, r2.length, lineEq]; exact hl.2.2, fun z => absurd z n2, fun _ p hp => ?_⟩)
        exact fin_tup len hio rf hq hp (r1.append r2)
      · cases hz
  | mul =>
    unfold binD at hz
    split at hz <;> try (cases hz; done)
    all_goals first | cases ‹Op.mul = _›; done | skip
    · obtain ⟨rfl, rfl⟩ := twoI _ _ rfl rfl
      split at hz
      · rename_i hm
        cases hz
        exact .inl ⟨_, _, rfl, rfl, hm, fin_int s hq⟩
      · cases hz
    · rename_i a j _
      obtain ⟨rfl, v1⟩ := rep_str kx
      obtain rfl := rep_int ky
      split at hz
      · rename_i hl
        cases hz
        refine .inr (.inl ⟨_, _, rfl, rfl, by simpa using hl.2.1, by simpa using hl.2.2, hl.1, ?_⟩)
        refine fin_str s hq ?_
        intro c hc
        obtain ⟨l, hl, hc⟩ := List.mem_flatten.mp hc
        rw [List.eq_of_mem_replicate hl] at hc
        exact v1 c hc
      · cases hz
    · obtain ⟨l, vs, rfl, q1, r1⟩ := lst_of sm hK hx
      obtain rfl := rep_int ky
      split at hz
      · rename_i hl
        cases hz
        refine .inr (.inr ⟨l, _, vs, rfl, rfl, q1, by simpa using hl.2.1, by simpa using hl.2.2, by rw [r1.length]; exact hl.1, fun p hp => ?_⟩)
        exact fin_lst len hio rf hq hp (r1.rep _)
      · cases hz
  | sub =>
    unfold binD at hz
    split at hz <;> try (cases hz; done)
    all_goals first | cases ‹Op.sub = _›; done | skip
    obtain ⟨rfl, rfl⟩ := twoI _ _ rfl rfl
    cases hz
    exact ⟨_, _, rfl, rfl, fin_int s hq⟩
  | band =>
    unfold binD at hz
    split at hz <;> try (cases hz; done)
    all_goals first | cases ‹Op.band = _›; done | skip
    obtain ⟨rfl, rfl⟩ := twoI _ _ rfl rfl
    cases hz
    exact ⟨_, _, rfl, rfl, fin_int s hq⟩
  | bor =>
    unfold binD at hz
    split at hz <;> try (cases hz; done)
    all_goals first | cases ‹Op.bor = _›; done | skip
    obtain ⟨rfl, rfl⟩ := twoI _ _ rfl rfl
    cases hz
    exact ⟨_, _, rfl, rfl, fin_int s hq⟩
  | bxor =>
    unfold binD at hz
    split at hz <;> try (cases hz; done)
    all_goals first | cases ‹Op.bxor = _›; done | skip
    obtain ⟨rfl, rfl⟩ := twoI _ _ rfl rfl
    cases hz
    exact ⟨_, _, rfl, rfl, fin_int s hq⟩
  | fdiv =>
    unfold binD at hz
    split at hz <;> try (cases hz; done)
    all_goals first | cases ‹Op.fdiv = _›; done | skip
    obtain ⟨rfl, rfl⟩ := twoI _ _ rfl rfl
    split at hz <;> cases hz
    exact ⟨_, _, rfl, rfl, by assumption, fin_int s hq⟩
  | mod =>
    unfold binD at hz
    split at hz <;> try (cases hz; done)
    all_goals first | cases ‹Op.mod = _›; done | skip
    obtain ⟨rfl, rfl⟩ := twoI _ _ rfl rfl
    split at hz <;> cases hz
    exact ⟨_, _, rfl, rfl, by assumption, fin_int s hq⟩
  | pow =>
    unfold binD at hz
    split at hz <;> try (cases hz; done)
    all_goals first | cases ‹Op.pow = _›; done | skip
    obtain ⟨rfl, rfl⟩ := twoI _ _ rfl rfl
    split at hz <;> cases hz
    exact ⟨_, _, rfl, rfl, by assumption, fin_int s hq⟩
  | shl =>
    unfold binD at hz
    split at hz <;> try (cases hz; done)
    all_goals first | cases ‹Op.shl = _›; done | skip
    obtain ⟨rfl, rfl⟩ := twoI _ _ rfl rfl
    split at hz <;> cases hz
    exact ⟨_, _, rfl, rfl, by assumption, fin_int s hq⟩
  | shr =>
    unfold binD at hz
    split at hz <;> try (cases hz; done)
    all_goals first | cases ‹Op.shr = _›; done | skip
    obtain ⟨rfl, rfl⟩ := twoI _ _ rfl rfl
    split at hz <;> cases hz
    exact ⟨_, _, rfl, rfl, by assumption, fin_int s hq⟩
end
end PyV
set_option Elab.async false
set_option linter.all false
set_option maxRecDepth 100000
set_option maxHeartbeats 2000000
namespace PyV
open PySem PySem.Spec PyProof.Rows L2

section
variable {κ : Kx} {io : Option (Nat × V)} {W : WX} {σ : L2.St} {H : Hp} {δ : Ss} {τ ρ : List En} {X : Cx} {a' b' c' d' : Expr} {pos : Pos} {Q : VK} {T : Tab}
theorem SR.slot (s : SR κ io σ H δ τ) {i : Nat} {x : Sl} (hx : sl? δ i = x) (ne : x ≠ .emp) : ∃ v, σ[i]? = some (some v) ∧ (some v, x) ∈ σ.zip δ := by
  have hlt : i < δ.length := by
    rcases Nat.lt_or_ge i δ.length with q | q
    · exact q
    · exact absurd (by rw [← hx]; simp [List.getD, List.getElem?_eq_none q]) ne
  have hls : i < σ.length := by rw [s.len]; exact hlt
  have mem : (σ[i], x) ∈ σ.zip δ := by
    refine List.mem_of_getElem? (i := i) ?_
    rw [List.getElem?_zip_eq_some]
    refine ⟨by simp, ?_⟩
    rw [← hx]
    simp [hlt]
  obtain ⟨f, rf⟩ := s.rel
  have e := rf.ent _ (List.mem_append_left τ mem)
  cases x with
  | emp => exact absurd rfl ne
  | val d =>
    obtain ⟨v, e1, _⟩ := e
    have e1 : σ[i] = some v := e1
    exact ⟨v, by rw [← e1]; simp, by rw [← e1]; exact mem⟩
  | own d =>
    obtain ⟨a, e1, _⟩ := e
    have e1 : σ[i] = some (.ref a) := e1
    exact ⟨.ref a, by rw [← e1]; simp, by rw [← e1]; exact mem⟩
theorem snd_var {i : Nat} {x : Str} (hN : X.N[i]? = some x) (hv : Vis X.env.scope x) (hd : (x == ("__debug__" : Str)) = false) (hc : (x == ("__classdict__" : Str)) = false) {p : Option Nat} :
    PE X (.Name x pos) (tD κ io W (evE T p (.var i))) := by
  refine PE.imp (pe_var hN hv hd hc) fun σ H Q ⟨δ, τ, s, h⟩ => ?_
  simp only [evE] at h
  cases q : sl? δ i with
  | emp => rw [q] at h; exact h.elim
  | val d =>
    rw [q] at h
    obtain ⟨v, e, m⟩ := s.slot q (by simp)
    refine ⟨v, e, h v H ?_ (fun i e => nomatch e)⟩
    exact ⟨s.len, (s.rel.dup (List.mem_append_left _ m)).perm List.perm_middle.symm, s.io⟩
  | own d =>
    rw [q] at h
    obtain ⟨v, e, m⟩ := s.slot q (by simp)
    refine ⟨v, e, h v H (s.push fun L r => r.emp) fun j e2 => ?_⟩
    cases e2
    exact e
theorem snd_non {p : Option Nat} {j : Nat} : PE X (.Constant .none j pos) (tD κ io W (evE T p .non)) :=
  PE.imp pe_non fun σ H Q ⟨δ, τ, s, h⟩ => fin_scal s h fun _ => .non
theorem snd_bl {p : Option Nat} {j : Nat} {b : Bool} : PE X (.Constant (.bool b) j pos) (tD κ io W (evE T p (.bl b))) :=
  PE.imp pe_bl fun σ H Q ⟨δ, τ, s, h⟩ => fin_scal s h fun _ => .bl b
theorem snd_int {p : Option Nat} {j : Nat} {b : Int} : PE X (.Constant (.int b) j pos) (tD κ io W (evE T p (.int b))) :=
  PE.imp pe_int fun σ H Q ⟨δ, τ, s, h⟩ => fin_scal s h fun _ => .int b
theorem snd_str {p : Option Nat} {j : Nat} {x : Str} {z : List Nat} (e : x.cps.toList = z) (ok : ∀ c ∈ z, c < 1114112) : PE X (.Constant (.str x) j pos) (tD κ io W (evE T p (.str z))) := by
  refine PE.imp pe_str fun σ H Q ⟨δ, τ, s, h⟩ => ?_
  have ex : x = ⟨z.toArray⟩ := by
    cases x
    simp at e
    subst e
    simp
  rw [ex]
  exact fin_scal s h fun _ => .str z ok
theorem snd_glb {p : Option Nat} {g : Nat} {x : Str} {v : V} {u : Value} (hg : Gl X x) (hm : X.mg x = some u) (r : RelV v u) (q : ∀ f, Rep κ f v (T.gl g)) (hd : (x == ("__debug__" : Str)) = false) :
    PE X (.Name x pos) (tD κ io W (evE T p (.glb g))) :=
  PE.imp (pe_glob hg hm r hd) fun σ H Q ⟨δ, τ, s, h⟩ => fin_scal s h q
theorem snd_bin {p : Option Nat} {o : Op} {a b : E} (hK : X.K = κ.K) (ha : PE X a' (tD κ io W (evE T p a))) (hb : PE X b' (tD κ io W (evE T p b))) : PE X (.BinOp a' (opP o) b' pos) (tD κ io W (evE T p (.bin o a b))) := by
  refine PE.imp (pe_op (op_bin o) ha hb) fun σ H Q ⟨δ, τ, s, h⟩ => ?_
  simp only [evE] at h
  refine seqD (ρ := []) h s fun r δ1 v H1 s1 a1 h1 => seqD (ρ := [ent r v]) h1 s1 fun r2 δ2 v2 H2 s2 a2 h2 => ?_
  split at h2
  · rename_i d e hd he
    split at h2
    · rename_i z hz
      obtain ⟨f, rf⟩ := s2.rel
      have x1 := s2.read (by simp [ent]) a1 hd rf
      have x2 := s2.read (by simp [ent]) a2 he rf
      have s3 := s2.tl.tl
      exact bin_use hK.symm s3.len s3.io (rf.sub (List.Sublist.append_left (by simp) _)) x1 x2 hz h2
    · exact h2.elim
  · exact h2.elim
theorem snd_neg {p : Option Nat} {a : E} (ha : PE X a' (tD κ io W (evE T p a))) : PE X (.UnaryOp .USub a' pos) (tD κ io W (evE T p (.neg a))) := by
  refine PE.imp (pe_un un_neg ha) fun σ H Q ⟨δ, τ, s, h⟩ => ?_
  simp only [evE] at h
  refine seqD (ρ := []) h s fun r δ1 v H1 s1 a1 h1 => ?_
  split at h1
  · rename_i i
    obtain ⟨f, rf⟩ := s1.rel
    obtain ⟨v', e1, q⟩ := rf.at (ov := some v) (d := .int i) (by simp [ent, slotOf])
    cases e1
    obtain rfl := rep_int q
    exact ⟨i, rfl, fin_int s1.tl h1⟩
  · exact h1.elim
/-- what the entry of a plain value says -/
theorem SR.top {v : V} {d : D} (s : SR κ io σ H δ (ent (.val d) v :: τ)) : ∃ f, Same f H ∧ Rep κ f v d := by
  obtain ⟨f, rf⟩ := s.rel
  obtain ⟨v', e1, q⟩ := rf.at (ov := some v) (d := d) (by simp [ent, slotOf])
  cases e1
  exact ⟨f, rf.same, q⟩
theorem SR.topI {v : V} {i : Int} (s : SR κ io σ H δ (ent (.val (.int i)) v :: τ)) : v = .int i := let ⟨_, _, q⟩ := s.top; rep_int q
theorem SR.topB {v : V} {i : Bool} (s : SR κ io σ H δ (ent (.val (.bl i)) v :: τ)) : v = .bl i := let ⟨_, _, q⟩ := s.top; rep_bl q

/-! ### tests -/
theorem snd_test {p : Option Nat} {a : E} (ha : PE X a' (tD κ io W (evE T p a))) (he : ∀ whole, isTrue a' X.env whole = (do let v ← whole; standAt a'.pos; holding [v] (truthy v))) :
    PT X a' (tDT κ io W fun s => tstR (evE T p a s)) := by
  refine PT.imp (pt_val ha he) fun σ H Q ⟨δ, τ, s, h⟩ => ?_
  simp only [tstR] at h
  refine seqD (ρ := []) h s fun r δ1 v H1 s1 a1 h1 => ?_
  split at h1
  · rename_i b
    obtain rfl := s1.topB
    exact ⟨b, rfl, h1 H1 s1.tl⟩
  · exact h1.elim
theorem tst_and {p : Option Nat} {a b : E} {s : Ss} : tstR (evE T p (.and a b) s) = (tstR (evE T p a s)).bind fun k s1 => if k = true then tstR (evE T p b s1) else .ok false s1 := by
  simp only [tstR, evE]
  cases evE T p a s with
  | bad => rfl
  | ex x s => rfl
  | ok r s1 =>
    simp only [R.bind]
    cases r with
    | val d =>
      cases d with
      | bl k =>
        cases k with
        | true =>
          simp only [R.bind, if_true]
          cases evE T p b s1 with
          | bad => rfl
          | ex x s => rfl
          | ok r s1 =>
            simp only [R.bind]
            cases r with
            | val d => cases d <;> rfl
            | own d => rfl
            | ali i => rfl
        | false => rfl
      | _ => rfl
    | _ => rfl
theorem tst_or {p : Option Nat} {a b : E} {s : Ss} : tstR (evE T p (.or a b) s) = (tstR (evE T p a s)).bind fun k s1 => if k = true then .ok true s1 else tstR (evE T p b s1) := by
  simp only [tstR, evE]
  cases evE T p a s with
  | bad => rfl
  | ex x s => rfl
  | ok r s1 =>
    simp only [R.bind]
    cases r with
    | val d =>
      cases d with
      | bl k =>
        cases k with
        | false =>
          simp only [R.bind]
          cases evE T p b s1 with
          | bad => rfl
          | ex x s => rfl
          | ok r s1 =>
            simp only [R.bind]
            cases r with
            | val d => cases d <;> rfl
            | own d => rfl
            | ali i => rfl
        | true => rfl
      | _ => rfl
    | _ => rfl
theorem tst_not {p : Option Nat} {a : E} {s : Ss} : tstR (evE T p (.not a) s) = (tstR (evE T p a s)).bind fun k s1 => .ok (!k) s1 := by
  simp only [tstR, evE]
  cases evE T p a s with
  | bad => rfl
  | ex x s => rfl
  | ok r s1 =>
    simp only [R.bind]
    cases r with
    | val d => cases d <;> rfl
    | _ => rfl
theorem sndT_and {p : Option Nat} {a b : E} {rest : List Expr} (ha : PT X a' (tDT κ io W fun s => tstR (evE T p a s))) (hb : PW X (.BoolOp .And (b' :: rest) pos) (tDT κ io W fun s => tstR (evE T p b s))) :
    PW X (.BoolOp .And (a' :: b' :: rest) pos) (tDT κ io W fun s => tstR (evE T p (.and a b) s)) := by
  refine PW.imp (pw_and ha hb) fun σ H Q ⟨δ, τ, s, h⟩ => ?_
  simp only [tst_and] at h
  refine seqT (den := fun s => tstR (evE T p a s)) (ρ := []) h s fun k δ1 H1 s1 h1 => ?_
  cases k with
  | true => exact ⟨δ1, τ, s1, h1⟩
  | false => exact h1 H1 s1
theorem sndT_or {p : Option Nat} {a b : E} {rest : List Expr} (ha : PT X a' (tDT κ io W fun s => tstR (evE T p a s))) (hb : PW X (.BoolOp .Or (b' :: rest) pos) (tDT κ io W fun s => tstR (evE T p b s))) :
    PW X (.BoolOp .Or (a' :: b' :: rest) pos) (tDT κ io W fun s => tstR (evE T p (.or a b) s)) := by
  refine PW.imp (pw_or ha hb) fun σ H Q ⟨δ, τ, s, h⟩ => ?_
  simp only [tst_or] at h
  refine seqT (den := fun s => tstR (evE T p a s)) (ρ := []) h s fun k δ1 H1 s1 h1 => ?_
  cases k with
  | false => exact ⟨δ1, τ, s1, h1⟩
  | true => exact h1 H1 s1
theorem sndT_not {p : Option Nat} {a : E} (ha : PT X a' (tDT κ io W fun s => tstR (evE T p a s))) : PT X (.UnaryOp .Not a' pos) (tDT κ io W fun s => tstR (evE T p (.not a) s)) := by
  refine PT.imp (pt_not ha) fun σ H Q ⟨δ, τ, s, h⟩ => ?_
  simp only [tst_not] at h
  exact seqT (den := fun s => tstR (evE T p a s)) (ρ := []) h s fun k δ1 H1 s1 h1 => h1 H1 s1
/-! ### and, or, not as values -/
theorem snd_and {p : Option Nat} {a b : E} {rest : List Expr} (ha : PE X a' (tD κ io W (evE T p a))) (hb : PE X (.BoolOp .And (b' :: rest) pos) (tD κ io W (evE T p b))) :
    PE X (.BoolOp .And (a' :: b' :: rest) pos) (tD κ io W (evE T p (.and a b))) := by
  refine PE.imp (pe_and ha hb) fun σ H Q ⟨δ, τ, s, h⟩ => ?_
  simp only [evE] at h
  refine seqD (ρ := []) h s fun r δ1 v H1 s1 a1 h1 => ?_
  split at h1
  · obtain rfl := s1.topB
    refine ⟨true, rfl, ?_⟩
    rw [if_pos rfl]
    refine seqD (ρ := []) h1 s1.tl fun r2 δ2 v2 H2 s2 a2 h2 => ?_
    split at h2
    · exact h2 _ _ s2 (fun i e => nomatch e)
    · exact h2.elim
  · obtain rfl := s1.topB
    refine ⟨false, rfl, ?_⟩
    rw [if_neg Bool.false_ne_true]
    exact fin_bl s1.tl h1
  · exact h1.elim
theorem snd_or {p : Option Nat} {a b : E} {rest : List Expr} (ha : PE X a' (tD κ io W (evE T p a))) (hb : PE X (.BoolOp .Or (b' :: rest) pos) (tD κ io W (evE T p b))) :
    PE X (.BoolOp .Or (a' :: b' :: rest) pos) (tD κ io W (evE T p (.or a b))) := by
  refine PE.imp (pe_or ha hb) fun σ H Q ⟨δ, τ, s, h⟩ => ?_
  simp only [evE] at h
  refine seqD (ρ := []) h s fun r δ1 v H1 s1 a1 h1 => ?_
  split at h1
  · obtain rfl := s1.topB
    refine ⟨false, rfl, ?_⟩
    rw [if_neg Bool.false_ne_true]
    refine seqD (ρ := []) h1 s1.tl fun r2 δ2 v2 H2 s2 a2 h2 => ?_
    split at h2
    · exact h2 _ _ s2 (fun i e => nomatch e)
    · exact h2.elim
  · obtain rfl := s1.topB
    refine ⟨true, rfl, ?_⟩
    rw [if_pos rfl]
    exact fin_bl s1.tl h1
  · exact h1.elim
theorem snd_not {p : Option Nat} {a : E} (ha : PE X a' (tD κ io W (evE T p a))) : PE X (.UnaryOp .Not a' pos) (tD κ io W (evE T p (.not a))) := by
  refine PE.imp (pe_not ha) fun σ H Q ⟨δ, τ, s, h⟩ => ?_
  simp only [evE] at h
  refine seqD (ρ := []) h s fun r δ1 v H1 s1 a1 h1 => ?_
  split at h1
  · obtain rfl := s1.topB
    exact ⟨_, rfl, fin_bl s1.tl h1⟩
  · exact h1.elim
theorem ite_tst {p : Option Nat} {c a b : E} {s : Ss} : evE T p (.ite c a b) s = (tstR (evE T p c s)).bind fun k s1 => if k = true then evE T p a s1 else evE T p b s1 := by
  simp only [tstR, evE]
  cases evE T p c s with
  | bad => rfl
  | ex x s => rfl
  | ok r s1 =>
    simp only [R.bind]
    cases r with
    | val d =>
      cases d with
      | bl k => cases k <;> rfl
      | _ => rfl
    | _ => rfl
theorem snd_ite {p : Option Nat} {c a b : E} (hc : PT X c' (tDT κ io W fun s => tstR (evE T p c s))) (ha : PE X a' (tD κ io W (evE T p a))) (hb : PE X b' (tD κ io W (evE T p b))) :
    PE X (.IfExp c' a' b' pos) (tD κ io W (evE T p (.ite c a b))) := by
  refine PE.imp (pe_ifExp hc ha hb) fun σ H Q ⟨δ, τ, s, h⟩ => ?_
  rw [ite_tst] at h
  refine seqT (den := fun s => tstR (evE T p c s)) (ρ := []) h s fun k δ1 H1 s1 h1 => ?_
  cases k with
  | true => exact ⟨δ1, τ, s1, h1⟩
  | false => exact ⟨δ1, τ, s1, h1⟩
end
end PyV
set_option Elab.async false
set_option linter.all false
set_option maxRecDepth 100000
set_option maxHeartbeats 2000000
namespace PyV
open PySem PySem.Spec PyProof.Rows L2

/-! ## comparisons -/
section
variable {κ : Kx} {H : Hp}
theorem strOk_of {s : List Nat} (ok : ∀ c ∈ s, c < 1114112) : PyData.strOk ⟨s.toArray⟩ = true := by
  unfold PyData.strOk
  rw [Array.all_eq_true']
  intro x hx
  simpa using ok x (by simpa using hx)
mutual
theorem Rep.dp : ∀ {n : Nat} {v : V} {d : D}, Rep κ H v d → ck n d = true → Dp κ.K H v d.py ∧ d.py.canLay0 = true ∧ d.py.depth ≤ n
  | _, _, _, .non, _ => ⟨.non, rfl, Nat.zero_le _⟩
  | _, _, _, .bl b, _ => ⟨.bl b, rfl, Nat.zero_le _⟩
  | _, _, _, .int b, _ => ⟨.int b, rfl, Nat.zero_le _⟩
  | _, _, _, .str s ok, _ => ⟨.str _, strOk_of ok, Nat.zero_le _⟩
  | 0, _, _, .lst _ _, h => by simp [ck] at h
  | 0, _, _, .tup _ _, h => by simp [ck] at h
  | n + 1, _, _, .lst q r, h => by
    obtain ⟨a, b, c⟩ := Reps.dp (n := n) r (by simpa [ck] using h)
    exact ⟨.lst q.sq a, b, Nat.succ_le_succ c⟩
  | n + 1, _, _, .tup q r, h => by
    obtain ⟨a, b, c⟩ := Reps.dp (n := n) r (by simpa [ck] using h)
    exact ⟨.tup q a, b, Nat.succ_le_succ c⟩
  | 0, _, _, .obj _ _ _ _, h => by simp [ck] at h
  | n + 1, _, _, .obj _ _ _ _, h => by simp [ck] at h
theorem Reps.dp : ∀ {n : Nat} {vs : List V} {ds : List D}, Reps κ H vs ds → (∀ d ∈ ds, ck n d = true) → DpAll κ.K H vs (D.pys ds) ∧ PyData.canLayAll0 (D.pys ds) = true ∧ PyData.depthAll (D.pys ds) ≤ n
  | _, _, _, .nil, _ => ⟨.nil, rfl, Nat.zero_le _⟩
  | n, _, _, .cons r t, h => by
    obtain ⟨a, b, c⟩ := Rep.dp r (h _ List.mem_cons_self)
    obtain ⟨a', b', c'⟩ := Reps.dp t fun d hd => h d (List.mem_cons_of_mem _ hd)
    refine ⟨.cons a a', ?_, Nat.max_le.mpr ⟨c, c'⟩⟩
    show (PyData.canLay0 _ && PyData.canLayAll0 _) = true
    rw [b, b']
    rfl
end
theorem Rep.shaped {v : V} {d : D} (r : Rep κ H v d) (h : ck 8 d = true) : Dp κ.K H v d.py ∧ SeqAt.shaped d.py = true := by
  obtain ⟨a, b, c⟩ := r.dp h
  refine ⟨a, ?_⟩
  unfold SeqAt.shaped
  rw [b, decide_eq_true (by omega)]
  rfl
theorem Rep.flatV {v : V} {d : D} (r : Rep κ H v d) (h : flat d = true) : L2.flatV v = true := by
  cases r <;> first | rfl | (simp [flat] at h; done)
theorem beq_true_comm {b : Bool} : (b == true) = b := by cases b <;> rfl
theorem Rep.eqV {v w : V} {d e : D} (r : Rep κ H v d) (q : Rep κ H w e) (h : flat d = true) (h' : flat e = true) : L2.eqV v w = eqD d e := by
  cases r <;> cases q <;> first | (simp [flat] at h h'; done) | simp [L2.eqV, eqD, D.py, PyData.eqv]
theorem Reps.inV {w : V} {e : D} (q : Rep κ H w e) (h' : flat e = true) : ∀ {vs : List V} {ds : List D}, Reps κ H vs ds → ds.all flat = true → L2.inV w vs = inD e ds ∧ vs.all L2.flatV = true
  | _, _, .nil, _ => ⟨rfl, rfl⟩
  | _, _, .cons r t, h => by
    rw [List.all_cons, Bool.and_eq_true] at h
    obtain ⟨a, b⟩ := Reps.inV q h' t h.2
    unfold L2.inV inD at a ⊢
    rw [List.any_cons, List.any_cons, List.all_cons, a, b, r.eqV q h.1 h', r.flatV h.1]
    exact ⟨rfl, rfl⟩
end
def coP : Co → CmpOp
  | .eq => .Eq | .ne => .NotEq | .lt => .Lt | .le => .LtE | .gt => .Gt | .ge => .GtE | .inn => .In | .nin => .NotIn
def rCmp (K : PySem.W.Frag) : Co → R2
  | .eq => rEqD K
  | .ne => rNeD K
  | .lt => rI0 fun i j => .bl (decide (i < j))
  | .le => rI0 fun i j => .bl (decide (i ≤ j))
  | .gt => rI0 fun i j => .bl (decide (j < i))
  | .ge => rI0 fun i j => .bl (decide (j ≤ i))
  | .inn => rIn K false
  | .nin => rIn K true
theorem op_cmp {X : Cx} (hu : X.A.units + 64 < cLine) (o : Co) : OpR X (compareOp (coP o)) (rCmp X.K o) := by
  cases o with
  | eq => exact op_eqD hu
  | ne => exact op_neD hu
  | lt => exact op_lt
  | le => exact op_le
  | gt => exact op_gt
  | ge => exact op_ge
  | inn => exact op_in_seq
  | nin => exact op_notIn_seq
theorem cmp_use {κ : Kx} {K : PySem.W.Frag} (hK : κ.K = K) {H : Hp} {o : Co} {x y : V} {d e : D} {z : Bool} {Q : VK} (kx : Rep κ H x d) (ky : Rep κ H y e) (hz : cmpD o d e = some z) (hq : Q (.bl z) H) : rCmp K o x y H Q := by
  subst hK
  have twoI : ∀ i j, d = .int i → e = .int j → x = .int i ∧ y = .int j := fun i j e1 e2 => by
    subst e1 e2
    exact ⟨rep_int kx, rep_int ky⟩
  cases o with
  | eq =>
    simp only [cmpD] at hz
    split at hz <;> cases hz
    rename_i h
    obtain ⟨a1, b1⟩ := kx.shaped h.1
    obtain ⟨a2, b2⟩ := ky.shaped h.2
    exact ⟨_, _, a1, a2, b1, b2, hq⟩
  | ne =>
    simp only [cmpD] at hz
    split at hz <;> cases hz
    rename_i h
    obtain ⟨a1, b1⟩ := kx.shaped h.1
    obtain ⟨a2, b2⟩ := ky.shaped h.2
    exact ⟨_, _, a1, a2, b1, b2, hq⟩
  | lt =>
    unfold cmpD at hz
    split at hz <;> try (cases hz; done)
    all_goals first | cases ‹Co.lt = _›; done | skip
    obtain ⟨rfl, rfl⟩ := twoI _ _ rfl rfl
    cases hz
    exact ⟨_, _, rfl, rfl, hq⟩
  | le =>
    unfold cmpD at hz
    split at hz <;> try (cases hz; done)
    all_goals first | cases ‹Co.le = _›; done | skip
    obtain ⟨rfl, rfl⟩ := twoI _ _ rfl rfl
    cases hz
    exact ⟨_, _, rfl, rfl, hq⟩
  | gt =>
    unfold cmpD at hz
    split at hz <;> try (cases hz; done)
    all_goals first | cases ‹Co.gt = _›; done | skip
    obtain ⟨rfl, rfl⟩ := twoI _ _ rfl rfl
    cases hz
    exact ⟨_, _, rfl, rfl, hq⟩
  | ge =>
    unfold cmpD at hz
    split at hz <;> try (cases hz; done)
    all_goals first | cases ‹Co.ge = _›; done | skip
    obtain ⟨rfl, rfl⟩ := twoI _ _ rfl rfl
    cases hz
    exact ⟨_, _, rfl, rfl, hq⟩
  | inn =>
    unfold cmpD at hz
    split at hz <;> try (cases hz; done)
    all_goals first | cases ‹Co.inn = _›; done | skip
    · split at hz <;> cases hz
      rename_i h
      cases ky with
      | lst q r =>
        obtain ⟨a, b⟩ := r.inV kx h.1 h.2
        exact ⟨_, _, rfl, .inl q.sq, kx.flatV h.1, b, by rw [if_neg Bool.false_ne_true, a]; exact hq⟩
    · split at hz <;> cases hz
      rename_i h
      cases ky with
      | tup q r =>
        obtain ⟨a, b⟩ := r.inV kx h.1 h.2
        exact ⟨_, _, rfl, .inr q, kx.flatV h.1, b, by rw [if_neg Bool.false_ne_true, a]; exact hq⟩
  | nin =>
    unfold cmpD at hz
    split at hz <;> try (cases hz; done)
    all_goals first | cases ‹Co.nin = _›; done | skip
    · split at hz <;> cases hz
      rename_i h
      cases ky with
      | lst q r =>
        obtain ⟨a, b⟩ := r.inV kx h.1 h.2
        exact ⟨_, _, rfl, .inl q.sq, kx.flatV h.1, b, by rw [if_pos rfl, a]; exact hq⟩
    · split at hz <;> cases hz
      rename_i h
      cases ky with
      | tup q r =>
        obtain ⟨a, b⟩ := r.inV kx h.1 h.2
        exact ⟨_, _, rfl, .inr q, kx.flatV h.1, b, by rw [if_pos rfl, a]; exact hq⟩
/-- no written set stands behind in, not in -/
def noSet : Expr → Bool
  | .Set _ _ _ => false
  | _ => true
theorem noSet_mark {op : CmpOp} {b : Expr} (h : noSet b = true) : behindInMarks op b = false := by
  cases b <;> first | rfl | (simp [noSet] at h; done)

section
variable {κ : Kx} {io : Option (Nat × V)} {W : WX} {σ : L2.St} {H : Hp} {δ : Ss} {τ ρ : List En} {X : Cx} {a' b' c' d' : Expr} {pos : Pos} {Q : VK} {T : Tab}
theorem isn_read {p : Option Nat} {a : E} : ∀ σ H Q, tD κ io W (evE T p (.isn a)) σ H Q → tIsN (tD κ io W (evE T p a)) σ H Q := fun σ H Q ⟨δ, τ, s, h⟩ => by
  simp only [evE] at h
  refine seqD (ρ := []) h s fun r δ1 v H1 s1 a1 h1 => ?_
  obtain ⟨f, rf⟩ := s1.rel
  split at h1
  · rename_i hd
    have q := rep_of rf.same (s1.read (by simp [ent]) a1 hd rf)
    cases q
    exact fin_bl s1.tl h1
  · rename_i d ne hd
    have q := rep_of rf.same (s1.read (by simp [ent]) a1 hd rf)
    have e : decide (v = .non) = false := decide_eq_false fun z => by
      subst z
      cases q
      exact ne rfl
    rw [e]
    exact fin_bl s1.tl h1
  · exact h1.elim
theorem snd_isn {p : Option Nat} {a : E} {j : Nat} {pos' : Pos} (ha : PE X a' (tD κ io W (evE T p a))) : PE X (.Compare a' [.Is] [.Constant .none j pos'] pos) (tD κ io W (evE T p (.isn a))) := PE.imp (pe_cmp (pc_isN ha)) isn_read
theorem nsn_read {p : Option Nat} {a : E} : ∀ σ H Q, tD κ io W (evE T p (.nsn a)) σ H Q → tNotN (tD κ io W (evE T p a)) σ H Q := fun σ H Q ⟨δ, τ, s, h⟩ => by
  simp only [evE] at h
  refine seqD (ρ := []) h s fun r δ1 v H1 s1 a1 h1 => ?_
  obtain ⟨f, rf⟩ := s1.rel
  split at h1
  · rename_i hd
    have q := rep_of rf.same (s1.read (by simp [ent]) a1 hd rf)
    cases q
    exact fin_bl s1.tl h1
  · rename_i d ne hd
    have q := rep_of rf.same (s1.read (by simp [ent]) a1 hd rf)
    have e : decide (v = .non) = false := decide_eq_false fun z => by
      subst z
      cases q
      exact ne rfl
    rw [e]
    exact fin_bl s1.tl h1
  · exact h1.elim
theorem snd_nsn {p : Option Nat} {a : E} {j : Nat} {pos' : Pos} (ha : PE X a' (tD κ io W (evE T p a))) : PE X (.Compare a' [.IsNot] [.Constant .none j pos'] pos) (tD κ io W (evE T p (.nsn a))) := PE.imp (pe_cmp (pc_notN ha)) nsn_read
/-! ### chains -/
def t3 (r1 r2 r3 : R2) (ta tb tc td : TE) : TE := fun σ H Q => ta σ H fun x H1 => tb σ H1 fun y H2 => r1 x y H2 fun z H3 => ∃ k, z = .bl k ∧ (if k = true then tc σ H3 fun w H4 => r2 y w H4 fun z' H5 => ∃ k', z' = .bl k' ∧
  (if k' = true then td σ H5 fun u H6 => r3 w u H6 Q else Q (.bl false) H5) else Q (.bl false) H3)
theorem pe_chain3 {o1 o2 o3 : CmpOp} {r1 r2 r3 : R2} {ta tb tc td : TE} (h1 : OpR X (compareOp o1) r1) (h2 : OpR X (compareOp o2) r2) (h3 : OpR X (compareOp o3) r3) (ha : PE X a' ta) (hb : PE X b' tb) (hc : PE X c' tc) (hd : PE X d' td)
    (hm : lastMarks [o1, o2, o3] [b', c', d'] = false) : PE X (.Compare a' [o1, o2, o3] [b', c', d'] pos) (t3 r1 r2 r3 ta tb tc td) := by
  refine ⟨fun pins s σ H Q I h => ?_⟩
  refine Compare_chain (thn (ha.run pins s σ H _ I h) fun v s1 ⟨x, H1, I1, r1', q1⟩ => chain_link (thn (hb.run pins s1 σ H1 _ I1 q1) fun u s2 ⟨y, H2, I2, r2', q2⟩ =>
    thn (h1 pins s2 σ H2 x y v u _ I2 r1' r2' q2) fun d s3 ⟨z, H3, I3, r3', k, e, q3⟩ => ?_)) hm
  subst e
  cases r3'
  refine wpAny_truthy_bool ?_
  cases k with
  | false => exact ite_ff ⟨.bl false, H3, I3, rfl, by simpa using q3⟩
  | true =>
    rw [if_pos rfl] at q3
    refine ite_tt (chain_link (thn (hc.run pins s3 σ H3 _ I3 q3) fun w s4 ⟨y2, H4, I4, r4', q4⟩ => thn (h2 pins s4 σ H4 y y2 u w _ I4 r2' r4' q4) fun d2 s5 ⟨z2, H5, I5, r5', k2, e2, q5⟩ => ?_))
    subst e2
    cases r5'
    refine wpAny_truthy_bool ?_
    cases k2 with
    | false => exact ite_ff ⟨.bl false, H5, I5, rfl, by simpa using q5⟩
    | true =>
      rw [if_pos rfl] at q5
      exact ite_tt (chain_last (thn (hd.run pins s5 σ H5 _ I5 q5) fun w' s6 ⟨z', H6, I6, r6', q6⟩ => h3 pins s6 σ H6 y2 z' w w' Q I6 r4' r6' q6))
theorem ch2_read {p : Option Nat} {o q : Co} {a b c : E} : ∀ σ H Q, tD κ io W (evE T p (.ch2 a o b q c)) σ H Q → tChain (rCmp κ.K o) (rCmp κ.K q) (tD κ io W (evE T p a)) (tD κ io W (evE T p b)) (tD κ io W (evE T p c)) σ H Q := fun σ H Q ⟨δ, τ, s, h⟩ => by
  simp only [evE] at h
  refine seqD (ρ := []) h s fun r δ1 v H1 s1 a1 h1 => seqD (ρ := [ent r v]) h1 s1 fun r2 δ2 v2 H2 s2 a2 h2 => ?_
  split at h2
  · rename_i d e
    obtain ⟨f, rf⟩ := s2.rel
    have x1 := rep_of rf.same (s2.read (δ := δ2) (r := .val d) (by simp [ent]) a1 rfl rf)
    have x2 := rep_of rf.same (s2.read (δ := δ2) (r := .val e) (by simp [ent]) a2 rfl rf)
    split at h2
    · rename_i hz
      refine cmp_use rfl x1 x2 hz ⟨true, rfl, ?_⟩
      rw [if_pos rfl]
      refine seqD (ρ := [ent (.val e) v2, ent (.val d) v]) h2 s2 fun r3 δ3 v3 H3 s3 a3 h3 => ?_
      split at h3
      · rename_i g
        obtain ⟨f3, rf3⟩ := s3.rel
        have y2 := rep_of rf3.same (s3.read (δ := δ3) (r := .val e) (v := v2) (by simp [ent]) a2 rfl rf3)
        have y3 := rep_of rf3.same (s3.read (δ := δ3) (r := .val g) (v := v3) (by simp [ent]) a3 rfl rf3)
        split at h3
        · rename_i k hk
          exact cmp_use rfl y2 y3 hk (fin_bl s3.tl.tl.tl h3)
        · exact h3.elim
      · exact h3.elim
    · rename_i hz
      refine cmp_use rfl x1 x2 hz ⟨false, rfl, ?_⟩
      rw [if_neg Bool.false_ne_true]
      exact fin_bl s2.tl.tl h2
    · exact h2.elim
  · exact h2.elim
theorem pt_chain3 {o1 o2 o3 : CmpOp} {r1 r2 r3 : R2} {ta tb tc td : TE} (h1 : OpR X (compareOp o1) r1) (h2 : OpR X (compareOp o2) r2) (h3 : OpR X (compareOp o3) r3) (ha : PE X a' ta) (hb : PE X b' tb) (hc : PE X c' tc) (hd : PE X d' td)
    (hm : lastMarks [o1, o2, o3] [b', c', d'] = false) : PT X (.Compare a' [o1, o2, o3] [b', c', d'] pos) (tTest (t3 r1 r2 r3 ta tb tc td)) := by
  refine ⟨fun pins s σ H Q I h => ?_⟩
  refine isTrue_chain (thn (ha.run pins s σ H _ I h) fun v s1 ⟨x, H1, I1, r1', q1⟩ => test_link (thn (hb.run pins s1 σ H1 _ I1 q1) fun u s2 ⟨y, H2, I2, r2', q2⟩ =>
    thn (h1 pins s2 σ H2 x y v u _ I2 r1' r2' q2) fun d s3 ⟨z, H3, I3, r3', k, e, q3⟩ => ?_)) hm
  subst e
  cases r3'
  refine wpAny_truthy_bool ?_
  cases k with
  | false =>
    obtain ⟨k', e', q'⟩ := q3
    cases e'
    exact ite_ff ⟨H3, I3, q'⟩
  | true =>
    rw [if_pos rfl] at q3
    refine ite_tt (test_link (thn (hc.run pins s3 σ H3 _ I3 q3) fun w s4 ⟨y2, H4, I4, r4', q4⟩ => thn (h2 pins s4 σ H4 y y2 u w _ I4 r2' r4' q4) fun d2 s5 ⟨z2, H5, I5, r5', k2, e2, q5⟩ => ?_))
    subst e2
    cases r5'
    refine wpAny_truthy_bool ?_
    cases k2 with
    | false =>
      obtain ⟨k', e', q'⟩ := q5
      cases e'
      exact ite_ff ⟨H5, I5, q'⟩
    | true =>
      rw [if_pos rfl] at q5
      refine ite_tt (test_last (thn (hd.run pins s5 σ H5 _ I5 q5) fun w' s6 ⟨z', H6, I6, r6', q6⟩ => thn (h3 pins s6 σ H6 y2 z' w w' _ I6 r4' r6' q6) fun d3 s7 ⟨z3, H7, I7, r7, k3, e3, q7⟩ => ?_))
      subst e3
      cases r7
      exact wpAny_truthy_bool ⟨H7, I7, q7⟩
/-- a test by its value's reading -/
theorem tst_D {den : Ss → R Rv} {σ : L2.St} {H : Hp} {Q : Bool → Hp → Prop} (h : tDT κ io W (fun s => tstR (den s)) σ H Q) : tD κ io W den σ H fun z H' => ∃ k, z = .bl k ∧ Q k H' := by
  obtain ⟨δ, τ, s, h⟩ := h
  simp only [tstR] at h
  refine seqD (ρ := []) h s fun r δ1 v H1 s1 a1 h1 => ?_
  split at h1
  · rename_i b
    exact ⟨b, s1.topB, h1 H1 s1.tl⟩
  · exact h1.elim
theorem sndT_isn {p : Option Nat} {a : E} {j : Nat} {pos' : Pos} (ha : PE X a' (tD κ io W (evE T p a))) : PT X (.Compare a' [.Is] [.Constant .none j pos'] pos) (tDT κ io W fun s => tstR (evE T p (.isn a) s)) := PT.imp (pt_cmp (pc_isN ha)) fun σ H Q h => isn_read σ H _ (tst_D h)
theorem sndT_nsn {p : Option Nat} {a : E} {j : Nat} {pos' : Pos} (ha : PE X a' (tD κ io W (evE T p a))) : PT X (.Compare a' [.IsNot] [.Constant .none j pos'] pos) (tDT κ io W fun s => tstR (evE T p (.nsn a) s)) := PT.imp (pt_cmp (pc_notN ha)) fun σ H Q h => nsn_read σ H _ (tst_D h)
theorem sndT_ch2 {p : Option Nat} {o q : Co} {a b c : E} (ho : OpR X (compareOp (coP o)) (rCmp κ.K o)) (hq : OpR X (compareOp (coP q)) (rCmp κ.K q)) (hm : noSet c' = true) (ha : PE X a' (tD κ io W (evE T p a))) (hb : PE X b' (tD κ io W (evE T p b)))
    (hc : PE X c' (tD κ io W (evE T p c))) : PT X (.Compare a' [coP o, coP q] [b', c'] pos) (tDT κ io W fun s => tstR (evE T p (.ch2 a o b q c) s)) := PT.imp (pt_chain ho hq ha hb hc (noSet_mark hm)) fun σ H Q h => ch2_read σ H _ (tst_D h)
theorem snd_ch2 {p : Option Nat} {o q : Co} {a b c : E} (ho : OpR X (compareOp (coP o)) (rCmp κ.K o)) (hq : OpR X (compareOp (coP q)) (rCmp κ.K q)) (hm : noSet c' = true) (ha : PE X a' (tD κ io W (evE T p a))) (hb : PE X b' (tD κ io W (evE T p b)))
    (hc : PE X c' (tD κ io W (evE T p c))) : PE X (.Compare a' [coP o, coP q] [b', c'] pos) (tD κ io W (evE T p (.ch2 a o b q c))) := PE.imp (pe_chain ho hq ha hb hc (noSet_mark hm)) ch2_read
theorem ch3_read {p : Option Nat} {o q t : Co} {a b c d : E} : ∀ σ H Q, tD κ io W (evE T p (.ch3 a o b q c t d)) σ H Q → t3 (rCmp κ.K o) (rCmp κ.K q) (rCmp κ.K t) (tD κ io W (evE T p a)) (tD κ io W (evE T p b)) (tD κ io W (evE T p c)) (tD κ io W (evE T p d)) σ H Q := fun σ H Q ⟨δ, τ, s, h⟩ => by
  simp only [evE] at h
  refine seqD (ρ := []) h s fun r δ1 v H1 s1 a1 h1 => seqD (ρ := [ent r v]) h1 s1 fun r2 δ2 v2 H2 s2 a2 h2 => ?_
  split at h2
  · rename_i d e
    obtain ⟨f, rf⟩ := s2.rel
    have x1 := rep_of rf.same (s2.read (δ := δ2) (r := .val d) (by simp [ent]) a1 rfl rf)
    have x2 := rep_of rf.same (s2.read (δ := δ2) (r := .val e) (by simp [ent]) a2 rfl rf)
    split at h2
    · rename_i hz
      refine cmp_use rfl x1 x2 hz ⟨true, rfl, ?_⟩
      rw [if_pos rfl]
      refine seqD (ρ := [ent (.val e) v2, ent (.val d) v]) h2 s2 fun r3 δ3 v3 H3 s3 a3 h3 => ?_
      split at h3
      · rename_i g
        obtain ⟨f3, rf3⟩ := s3.rel
        have y2 := rep_of rf3.same (s3.read (δ := δ3) (r := .val e) (v := v2) (by simp [ent]) a2 rfl rf3)
        have y3 := rep_of rf3.same (s3.read (δ := δ3) (r := .val g) (v := v3) (by simp [ent]) a3 rfl rf3)
        split at h3
        · rename_i hk
          refine cmp_use rfl y2 y3 hk ⟨true, rfl, ?_⟩
          rw [if_pos rfl]
          refine seqD (ρ := [ent (.val g) v3, ent (.val e) v2, ent (.val d) v]) h3 s3 fun r4 δ4 v4 H4 s4 a4 h4 => ?_
          split at h4
          · rename_i u
            obtain ⟨f4, rf4⟩ := s4.rel
            have z3 := rep_of rf4.same (s4.read (δ := δ4) (r := .val g) (v := v3) (by simp [ent]) a3 rfl rf4)
            have z4 := rep_of rf4.same (s4.read (δ := δ4) (r := .val u) (v := v4) (by simp [ent]) a4 rfl rf4)
            split at h4
            · rename_i k hk
              exact cmp_use rfl z3 z4 hk (fin_bl s4.tl.tl.tl.tl h4)
            · exact h4.elim
          · exact h4.elim
        · rename_i hk
          refine cmp_use rfl y2 y3 hk ⟨false, rfl, ?_⟩
          rw [if_neg Bool.false_ne_true]
          exact fin_bl s3.tl.tl.tl h3
        · exact h3.elim
      · exact h3.elim
    · rename_i hz
      refine cmp_use rfl x1 x2 hz ⟨false, rfl, ?_⟩
      rw [if_neg Bool.false_ne_true]
      exact fin_bl s2.tl.tl h2
    · exact h2.elim
  · exact h2.elim
theorem snd_ch3 {p : Option Nat} {o q t : Co} {a b c d : E} (ho : OpR X (compareOp (coP o)) (rCmp κ.K o)) (hq : OpR X (compareOp (coP q)) (rCmp κ.K q)) (ht : OpR X (compareOp (coP t)) (rCmp κ.K t)) (hm : noSet d' = true)
    (ha : PE X a' (tD κ io W (evE T p a))) (hb : PE X b' (tD κ io W (evE T p b))) (hc : PE X c' (tD κ io W (evE T p c))) (hd : PE X d' (tD κ io W (evE T p d))) :
    PE X (.Compare a' [coP o, coP q, coP t] [b', c', d'] pos) (tD κ io W (evE T p (.ch3 a o b q c t d))) := PE.imp (pe_chain3 ho hq ht ha hb hc hd (noSet_mark hm)) ch3_read
theorem sndT_ch3 {p : Option Nat} {o q t : Co} {a b c d : E} (ho : OpR X (compareOp (coP o)) (rCmp κ.K o)) (hq : OpR X (compareOp (coP q)) (rCmp κ.K q)) (ht : OpR X (compareOp (coP t)) (rCmp κ.K t)) (hm : noSet d' = true)
    (ha : PE X a' (tD κ io W (evE T p a))) (hb : PE X b' (tD κ io W (evE T p b))) (hc : PE X c' (tD κ io W (evE T p c))) (hd : PE X d' (tD κ io W (evE T p d))) :
    PT X (.Compare a' [coP o, coP q, coP t] [b', c', d'] pos) (tDT κ io W fun s => tstR (evE T p (.ch3 a o b q c t d) s)) := PT.imp (pt_chain3 ho hq ht ha hb hc hd (noSet_mark hm)) fun σ H Q h => ch3_read σ H _ (tst_D h)
end
end PyV
set_option Elab.async false
set_option linter.all false
set_option maxRecDepth 100000
set_option maxHeartbeats 2000000
namespace PyV
open PySem PySem.Spec PyProof.Rows L2

section
variable {κ : Kx} {io : Option (Nat × V)} {W : WX} {σ : L2.St} {H : Hp} {δ δ' : Ss} {τ τ' ρ : List En} {X : Cx} {a' b' c' d' : Expr} {pos : Pos} {Q : VK} {T : Tab}
/-! ## kept values -/
theorem SR.perm (p : τ.Perm τ') (s : SR κ io σ H δ τ) : SR κ io σ H δ τ' := ⟨s.len, s.rel.perm (p.append_left _), s.io⟩
theorem SR.subl (p : τ'.Sublist τ) (s : SR κ io σ H δ τ) : SR κ io σ H δ τ' := ⟨s.len, s.rel.sub (p.append_left _), s.io⟩
theorem SR.head (s : SR κ io σ H δ τ) {e e' : En} {L : List En} (p : (σ.zip δ ++ τ).Perm (e :: L)) (h : Rel κ H (e :: L) → Rel κ H (e' :: L)) (q : (σ.zip δ' ++ τ').Perm (e' :: L)) (hl : δ'.length = δ.length) : SR κ io σ H δ' τ' :=
  ⟨s.len.trans hl.symm, (h (s.rel.perm p)).perm q.symm, s.io⟩
theorem fz_len {r : Rv} {d : D} (h : fz δ r = some (d, δ')) : δ'.length = δ.length := by
  cases r with
  | val d => simp [fz] at h; rw [h.2]
  | own d => simp [fz] at h; rw [h.2]
  | ali i =>
    simp only [fz] at h
    split at h
    · cases h; rw [List.length_set]
    · cases h; rfl
    · cases h
theorem SR.fz1 {r : Rv} {v : V} {d : D} (s : SR κ io σ H δ (ent r v :: τ)) (a : AliOk σ r v) (h : fz δ r = some (d, δ')) : SR κ io σ H δ' ((some v, .val d) :: τ) := by
  cases r with
  | val d' =>
    simp only [fz, Option.some.injEq, Prod.mk.injEq] at h
    obtain ⟨rfl, rfl⟩ := h
    exact s
  | own d' =>
    simp only [fz, Option.some.injEq, Prod.mk.injEq] at h
    obtain ⟨rfl, rfl⟩ := h
    exact s.head (e := (some v, .own d')) (L := σ.zip δ ++ τ) List.perm_middle Rel.froze List.perm_middle rfl
  | ali i =>
    have hi := a i rfl
    have s0 := s.tl
    simp only [fz] at h
    cases q : sl? δ i with
    | emp => rw [q] at h; cases h
    | val d' =>
      rw [q] at h
      cases h
      obtain ⟨v', e, m⟩ := s0.slot q (by simp)
      rw [hi] at e
      cases e
      exact ⟨s0.len, (s0.rel.dup (List.mem_append_left _ m)).perm List.perm_middle.symm, s0.io⟩
    | own d' =>
      rw [q] at h
      cases h
      have hlt : i < δ.length := by
        rcases Nat.lt_or_ge i δ.length with z | z
        · exact z
        · have : sl? δ i = .emp := by simp [List.getD, List.getElem?_eq_none z]
          rw [q] at this
          cases this
      obtain ⟨L, p1, p2, _⟩ := zip_split s0.len hlt τ
      have e1 : ((σ[i]?).getD none, δ.getD i .emp) = (some v, .own d) := by
        rw [hi]
        exact congrArg (Prod.mk (some v)) q
      rw [e1] at p1
      rw [hi] at p2
      have s1 : SR κ io σ H (δ.set i (.val d)) τ := s0.head p1 Rel.froze (p2 (.val d)) (List.length_set ..)
      have m : (some v, Sl.val d) ∈ σ.zip (δ.set i (.val d)) ++ τ := (p2 (.val d)).mem_iff.mpr List.mem_cons_self
      exact ⟨s1.len, (s1.rel.dup m).perm List.perm_middle.symm, s1.io⟩
/-! ## ==, < .., in -/
/-- what is asked of own __eq__: the object on the left -/
def rObj (κ : Kx) (T : Tab) : R2 := fun x y H Q => ∃ d e k L, Rel κ H ((some x, .val d) :: (some y, .val e) :: L) ∧ objQ T d e = some k ∧ ∀ H', Rel κ H' L → Q (.bl k) H'
def rCmpX (κ : Kx) (T : Tab) : Co → R2
  | .eq => fun x y H Q => rCmp κ.K .eq x y H Q ∨ rObj κ T x y H Q
  | o => rCmp κ.K o
theorem op_cmpX (hK : κ.K = X.K) (hu : X.A.units + 64 < cLine) (h1 : OpR X (compareOp .Eq) (rObj κ T)) (o : Co) : OpR X (compareOp (coP o)) (rCmpX κ T o) := by
  have base : ∀ o, OpR X (compareOp (coP o)) (rCmp κ.K o) := fun o => by
    rw [hK]
    exact op_cmp hu o
  cases o with
  | eq => exact OpR.or (base .eq) h1
  | ne => exact base .ne
  | lt => exact base .lt
  | le => exact base .le
  | gt => exact base .gt
  | ge => exact base .ge
  | inn => exact base .inn
  | nin => exact base .nin
theorem rCmp_X {o : Co} {x y : V} (h : rCmp κ.K o x y H Q) : rCmpX κ T o x y H Q := by
  cases o <;> first | exact .inl h | exact h
theorem cmp_read {p : Option Nat} {o : Co} {a b : E} : ∀ σ H Q, tD κ io W (evE T p (.cmp o a b)) σ H Q → tOp (rCmpX κ T o) (tD κ io W (evE T p a)) (tD κ io W (evE T p b)) σ H Q := fun σ H Q ⟨δ, τ, s, h⟩ => by
  simp only [evE] at h
  refine seqD (ρ := []) h s fun r δ1 v H1 s1 a1 h1 => seqD (ρ := [ent r v]) h1 s1 fun r2 δ2 v2 H2 s2 a2 h2 => ?_
  split at h2
  · rename_i d e hd he
    split at h2
    · rename_i z hz
      obtain ⟨f, rf⟩ := s2.rel
      have x1 := rep_of rf.same (s2.read (by simp [ent]) a1 hd rf)
      have x2 := rep_of rf.same (s2.read (by simp [ent]) a2 he rf)
      exact rCmp_X (cmp_use rfl x1 x2 hz (fin_bl s2.tl.tl h2))
    · unfold eqO at h2
      split at h2
      · split at h2
        · rename_i d1 δ3 h3
          split at h2
          · rename_i e1 δ4 h4
            split at h2
            · rename_i k hk
              have s3 : SR κ io σ H2 δ3 ((some v, .val d1) :: ent r2 v2 :: τ) := (SR.perm (List.Perm.swap ..) s2).fz1 a1 h3
              have s4 : SR κ io σ H2 δ4 ((some v2, .val e1) :: (some v, .val d1) :: τ) := (SR.perm (List.Perm.swap ..) s3).fz1 a2 h4
              refine .inr ⟨d1, e1, k, σ.zip δ4 ++ τ, ?_, hk, fun H' r => fin_bl ⟨s4.len, r, s4.io⟩ h2⟩
              refine s4.rel.perm ?_
              refine (List.perm_middle.trans (List.Perm.cons _ List.perm_middle)).trans (List.Perm.swap ..)
            · exact h2.elim
          · exact h2.elim
        · exact h2.elim
      · exact h2.elim
  · exact h2.elim
theorem snd_cmp {p : Option Nat} {o : Co} {a b : E} (ho : OpR X (compareOp (coP o)) (rCmpX κ T o)) (hb' : noSet b' = true) (ha : PE X a' (tD κ io W (evE T p a))) (hb : PE X b' (tD κ io W (evE T p b))) :
    PE X (.Compare a' [coP o] [b'] pos) (tD κ io W (evE T p (.cmp o a b))) := PE.imp (pe_cmpR ho ha hb (noSet_mark hb')) cmp_read
theorem sndT_cmp {p : Option Nat} {o : Co} {a b : E} (ho : OpR X (compareOp (coP o)) (rCmpX κ T o)) (hb' : noSet b' = true) (ha : PE X a' (tD κ io W (evE T p a))) (hb : PE X b' (tD κ io W (evE T p b))) :
    PT X (.Compare a' [coP o] [b'] pos) (tDT κ io W fun s => tstR (evE T p (.cmp o a b) s)) := PT.imp (pt_cmpR ho ha hb (noSet_mark hb')) fun σ H Q h => cmp_read σ H _ (tst_D h)
/-- entries of kept values -/
def vals : List V → List D → List En
  | v :: vs, d :: ds => vals vs ds ++ [(some v, .val d)]
  | _, _ => []
theorem SR.fzs : ∀ {rs : List Rv} {vs : List V} {ds : List D} {δ : Ss} {τ : List En}, SR κ io σ H δ (ents rs vs ++ τ) → Alis σ rs vs → PyV.fzs δ rs = some (ds, δ') → SR κ io σ H δ' (vals vs ds ++ τ)
  | [], _, ds, δ, τ, s, a, h => by
    cases a
    simp only [PyV.fzs, Option.some.injEq, Prod.mk.injEq] at h
    obtain ⟨rfl, rfl⟩ := h
    exact s
  | r :: rs, _, ds, δ, τ, s, a, h => by
    cases a with
    | @cons _ v _ vs a1 a2 =>
      simp only [PyV.fzs] at h
      split at h
      · cases h
      · rename_i d δ1 hd
        split at h
        · cases h
        · rename_i ds2 δ2 hds
          cases h
          have s1 : SR κ io σ H δ (ent r v :: (ents rs vs ++ τ)) := s.perm (by
            show ((ents rs vs ++ [ent r v]) ++ τ).Perm _
            simpa using List.perm_middle)
          have s2 := s1.fz1 a1 hd
          have s3 : SR κ io σ H δ1 (ents rs vs ++ ((some v, .val d) :: τ)) := s2.perm List.perm_middle.symm
          have s4 := SR.fzs s3 a2 hds
          refine s4.perm ?_
          show (vals vs ds2 ++ (some v, Sl.val d) :: τ).Perm ((vals vs ds2 ++ [(some v, Sl.val d)]) ++ τ)
          simp
theorem reps_of {f : Hp} : ∀ {vs : List V} {ds : List D} {L τ : List En}, vs.length = ds.length → RelF κ f H (L ++ (vals vs ds ++ τ)) → Reps κ f vs ds
  | [], [], L, τ, _, _ => .nil
  | [], _ :: _, L, τ, h, _ => by simp at h
  | _ :: _, [], L, τ, h, _ => by simp at h
  | v :: vs, d :: ds, L, τ, h, r => by
    have hl : vs.length = ds.length := by simpa using h
    obtain ⟨v', e, q⟩ := r.at (ov := some v) (d := d) (by simp [vals])
    cases e
    refine .cons q (reps_of (τ := (some v, .val d) :: τ) (L := L) hl ?_)
    simpa [vals] using r
theorem fzs_length : ∀ {rs : List Rv} {ds : List D} {δ δ' : Ss}, PyV.fzs δ rs = some (ds, δ') → ds.length = rs.length
  | [], ds, δ, δ', h => by
    simp only [PyV.fzs, Option.some.injEq, Prod.mk.injEq] at h
    rw [← h.1]
    rfl
  | r :: rs, ds, δ, δ', h => by
    simp only [PyV.fzs] at h
    split at h
    · cases h
    · split at h
      · cases h
      · rename_i h2
        cases h
        rw [List.length_cons, List.length_cons, fzs_length h2]
theorem Alis.length : ∀ {rs : List Rv} {vs : List V}, Alis σ rs vs → vs.length = rs.length
  | _, _, .nil => rfl
  | _, _, .cons _ t => congrArg (· + 1) (Alis.length t)
/-- all kept, and what they are -/
theorem SR.kept {rs : List Rv} {vs : List V} {ds : List D} (s : SR κ io σ H δ (ents rs vs ++ τ)) (a : Alis σ rs vs) (h : PyV.fzs δ rs = some (ds, δ')) :
    ∃ f, RelF κ f H (σ.zip δ' ++ τ) ∧ Reps κ f vs ds ∧ σ.length = δ'.length ∧ ∀ j v, io = some (j, v) → σ[j]? = some (some v) := by
  have s1 := s.fzs a h
  obtain ⟨f, rf⟩ := s1.rel
  have hl : vs.length = ds.length := by rw [a.length, fzs_length h]
  exact ⟨f, rf.sub ((List.sublist_append_right _ _).append_left _), reps_of (L := σ.zip δ') hl rf, s1.len, s1.io⟩

/-! ## argument lists, displays -/
theorem snd_nil {p : Option Nat} : PA X [] (tDA κ io W (evEs T p [])) :=
  PA.imp pa_nil fun σ H Q ⟨δ, τ, s, h⟩ => h [] H s .nil
theorem snd_cons {p : Option Nat} {e : E} {es : List E} {es' : List Expr} (ha : PE X a' (tD κ io W (evE T p e))) (hs : PA X es' (tDA κ io W (evEs T p es)))
    (hst : starEach (a' :: es') X.env = (false, eval a' X.env) :: starEach es' X.env) : PA X (a' :: es') (tDA κ io W (evEs T p (e :: es))) := by
  refine PA.imp (pa_cons ha hs hst) fun σ H Q ⟨δ, τ, s, h⟩ => ?_
  simp only [evEs] at h
  refine seqD (ρ := []) h s fun r δ1 v H1 s1 a1 h1 => seqA (ρ := [ent r v]) h1 s1 fun rs δ2 vs H2 s2 a2 h2 => ?_
  refine h2 (v :: vs) H2 (s2.perm ?_) (.cons a1 a2)
  show (ents rs vs ++ ([ent r v] ++ τ)).Perm ((ents rs vs ++ [ent r v]) ++ τ)
  simp
theorem snd_tup {p : Option Nat} {es : List E} {es' : List Expr} {k : Nat} (hs : PA X es' (tDA κ io W (evEs T p es))) : PE X (.Tuple es' k pos) (tD κ io W (evE T p (.tup es))) := by
  refine PE.imp (pe_tup hs) fun σ H Q ⟨δ, τ, s, h⟩ => ?_
  simp only [evE] at h
  refine seqA (ρ := []) h s fun rs δ1 vs H1 s1 a1 h1 => ?_
  split at h1
  · rename_i ds δ2 hd
    split at h1
    · rename_i hl
      obtain ⟨f, rf, r, len, hio⟩ := s1.kept a1 hd
      refine ⟨by rw [r.length, lineEq]; exact hl, fun q hq => fin_tup len hio rf h1 hq r⟩
    · exact h1.elim
  · exact h1.elim
theorem snd_lst {p : Option Nat} {es : List E} {es' : List Expr} (hs : PA X es' (tDA κ io W (evEs T p es))) : PE X (.List es' pos) (tD κ io W (evE T p (.lst es))) := by
  refine PE.imp (pe_lst hs) fun σ H Q ⟨δ, τ, s, h⟩ => ?_
  simp only [evE] at h
  refine seqA (ρ := []) h s fun rs δ1 vs H1 s1 a1 h1 => ?_
  split at h1
  · rename_i ds δ2 hd
    split at h1
    · rename_i hl
      obtain ⟨f, rf, r, len, hio⟩ := s1.kept a1 hd
      refine ⟨by rw [r.length, lineEq]; exact hl, fun q hq => fin_lst len hio rf h1 hq r⟩
    · exact h1.elim
  · exact h1.elim
/-- items of a list that is spread -/
theorem reps_push {f : Hp} : ∀ {vs : List V} {ds : List D} {L : List En}, Reps κ f vs ds → RelF κ f H (σ.zip δ ++ L) → RelF κ f H (σ.zip δ ++ (ents (ds.map .val) vs ++ L))
  | [], ds, L, r, rf => by
    cases r
    exact rf
  | v :: vs, _, L, .cons (d := d) (ds := ds) r rs, rf => by
    have h1 : RelF κ f H (σ.zip δ ++ (ent (.val d) v :: L)) := (rf.val r).perm List.perm_middle.symm
    have h2 := reps_push rs h1
    show RelF κ f H (σ.zip δ ++ ((ents (ds.map .val) vs ++ [ent (.val d) v]) ++ L))
    rw [List.append_assoc]
    exact h2
theorem ents_append : ∀ {rs ss : List Rv} {vs ws : List V}, rs.length = vs.length → ents (rs ++ ss) (vs ++ ws) = ents ss ws ++ ents rs vs
  | [], ss, [], ws, _ => by simp [ents]
  | r :: rs, ss, v :: vs, ws, h => by
    have := ents_append (rs := rs) (ss := ss) (vs := vs) (ws := ws) (by simpa using h)
    show ents (rs ++ ss) (vs ++ ws) ++ [ent r v] = ents ss ws ++ (ents rs vs ++ [ent r v])
    rw [this, List.append_assoc]
theorem alis_vals : ∀ {ds : List D} {vs : List V} {rs : List Rv} {ws : List V}, ds.length = vs.length → Alis σ rs ws → Alis σ (ds.map .val ++ rs) (vs ++ ws)
  | [], [], rs, ws, _, a => a
  | d :: ds, v :: vs, rs, ws, h, a => .cons (fun i e => nomatch e) (alis_vals (by simpa using h) a)
theorem snd_star {p : Option Nat} {a : E} {k : Nat} {es : List E} {es' : List Expr} {q : Pos} (hK : κ.K = X.K) (ha : PE X a' (tD κ io W (evE T p a))) (hr : PA X es' (tDA κ io W (evXs T p k es))) : PA X (.Starred a' q :: es') (tDA κ io W (evXs T p (k + 1) (a :: es))) := by
  refine PA.imp (StX.pa_star ha hr) fun σ H Q ⟨δ, τ, s, h⟩ => ?_
  simp only [evXs] at h
  refine seqD (ρ := []) h s fun r δ1 v H1 s1 a1 h1 => ?_
  split at h1
  · rename_i ds hd
    obtain ⟨f, rf⟩ := s1.rel
    have x1 := s1.read (by simp [ent]) a1 hd rf
    obtain ⟨b, vs, rfl, q1, rr⟩ := lst_of rf.same hK x1
    refine ⟨b, vs, rfl, .inr q1.sq, ?_⟩
    have rf3 : RelF κ f H1 (σ.zip δ1 ++ τ) := rf.sub (List.Sublist.append_left (by simp) _)
    have s3 : SR κ io σ H1 δ1 (ents (ds.map .val) vs ++ τ) := ⟨s1.len, ⟨f, reps_push rr rf3⟩, s1.io⟩
    refine seqA h1 s3 fun rs δ2 ws H2 s4 a2 h2 => ?_
    have hl : (ds.map Rv.val).length = vs.length := by rw [List.length_map]; exact rr.length.symm
    exact h2 _ _ (by rw [ents_append hl, List.append_assoc]; exact s4) (alis_vals (by simpa using hl) a2)
  · exact h1.elim
theorem snd_consX {p : Option Nat} {e : E} {es : List E} {es' : List Expr} (ha : PE X a' (tD κ io W (evE T p e))) (hs : PA X es' (tDA κ io W (evXs T p 0 es)))
    (hst : starEach (a' :: es') X.env = (false, eval a' X.env) :: starEach es' X.env) : PA X (a' :: es') (tDA κ io W (evXs T p 0 (e :: es))) := by
  refine PA.imp (pa_cons ha hs hst) fun σ H Q ⟨δ, τ, s, h⟩ => ?_
  simp only [evXs] at h
  refine seqD (ρ := []) h s fun r δ1 v H1 s1 a1 h1 => seqA (ρ := [ent r v]) h1 s1 fun rs δ2 vs H2 s2 a2 h2 => ?_
  refine h2 (v :: vs) H2 (s2.perm ?_) (.cons a1 a2)
  show (ents rs vs ++ ([ent r v] ++ τ)).Perm ((ents rs vs ++ [ent r v]) ++ τ)
  simp
theorem snd_lstS {p : Option Nat} {k : Nat} {es : List E} {es' : List Expr} (hs : PA X es' (tDA κ io W (evXs T p k es))) : PE X (.List es' pos) (tD κ io W (evE T p (.lstS k es))) := by
  refine PE.imp (pe_lst hs) fun σ H Q ⟨δ, τ, s, h⟩ => ?_
  simp only [evE] at h
  refine seqA (ρ := []) h s fun rs δ1 vs H1 s1 a1 h1 => ?_
  split at h1
  · rename_i ds δ2 hd
    split at h1
    · rename_i hl
      obtain ⟨f, rf, r, len, hio⟩ := s1.kept a1 hd
      refine ⟨by rw [r.length, lineEq]; exact hl, fun q hq => fin_lst len hio rf h1 hq r⟩
    · exact h1.elim
  · exact h1.elim

/-! ## items, slices -/
theorem atD_atI {α : Type} {xs : List α} {i : Int} : atD xs i = atI xs i := by
  unfold atD atI ixN
  by_cases h : 0 ≤ i
  · rw [if_pos h, if_pos h]
    by_cases h2 : i < (xs.length : Int)
    · rw [if_pos h2]
      rfl
    · rw [if_neg h2]
      exact List.getElem?_eq_none (by omega)
  · rw [if_neg h, if_neg h]
    by_cases h2 : -(xs.length : Int) ≤ i
    · rw [if_pos h2, if_pos h2]
      rfl
    · rw [if_neg h2, if_neg h2]
      rfl
theorem atI_map {vs : List V} {ds : List D} {i : Int} {d : D} {f : Hp} (r : Reps κ f vs ds) (h : atI ds i = some d) : ∃ v, atI vs i = some v ∧ Rep κ f v d := by
  unfold atI at h ⊢
  rw [r.length]
  obtain ⟨j, hj, hd⟩ := Option.bind_eq_some_iff.mp h
  obtain ⟨v, hv, q⟩ := r.get hd
  exact ⟨v, by rw [hj]; exact hv, q⟩
theorem snd_sub {p : Option Nat} {a b : E} (hK : κ.K = X.K) (hix : PlainIx b') (ha : PE X a' (tD κ io W (evE T p a))) (hb : PE X b' (tD κ io W (evE T p b))) :
    PE X (.Subscript a' b' pos) (tD κ io W (evE T p (.sub a b))) := by
  refine PE.imp (pe_ix ix_seq ha hb hix) fun σ H Q ⟨δ, τ, s, h⟩ => ?_
  simp only [evE] at h
  refine seqD (ρ := []) h s fun r δ1 v H1 s1 a1 h1 => seqD (ρ := [ent r v]) h1 s1 fun r2 δ2 v2 H2 s2 a2 h2 => ?_
  split at h2
  · rename_i d e hd he
    split at h2
    · rename_i z hz
      obtain ⟨f, rf⟩ := s2.rel
      have x1 := s2.read (by simp [ent]) a1 hd rf
      have x2 := rep_of rf.same (s2.read (by simp [ent]) a2 he rf)
      have s3 := s2.tl.tl
      have rf3 : RelF κ f H2 (σ.zip δ2 ++ τ) := rf.sub (List.Sublist.append_left (by simp) _)
      unfold subD at hz
      split at hz
      · obtain rfl := rep_int x2
        obtain ⟨b, vs, rfl, q1, rr⟩ := lst_of rf.same hK x1
        rw [atD_atI] at hz
        obtain ⟨u, hu, q⟩ := atI_map rr hz
        exact .inl ⟨b, vs, _, u, rfl, rfl, q1.sq, hu, fin_rep s3.len s3.io rf3 h2 q⟩
      · obtain rfl := rep_int x2
        obtain ⟨b, vs, rfl, q1, rr⟩ := tup_of rf.same hK x1
        rw [atD_atI] at hz
        obtain ⟨u, hu, q⟩ := atI_map rr hz
        exact .inr (.inl ⟨b, vs, _, u, rfl, rfl, q1, hu, fin_rep s3.len s3.io rf3 h2 q⟩)
      · obtain rfl := rep_int x2
        obtain ⟨rfl, ok⟩ := rep_str (rep_of rf.same x1)
        split at hz
        · rename_i hl
          obtain ⟨c, hc, e⟩ := Option.map_eq_some_iff.mp hz
          subst e
          rw [atD_atI] at hc
          refine .inr (.inr ⟨_, _, c, rfl, rfl, by rw [lineEq]; simpa [Str.length] using hl, by simpa using hc, ?_⟩)
          refine fin_str (x := [c]) s3 h2 fun y hy => ?_
          have : y = c := by simpa using hy
          subst this
          obtain ⟨j, _, hj, _⟩ := atI_get hc
          exact ok _ (List.mem_of_getElem? hj)
        · cases hz
      · cases hz
    · exact h2.elim
  · exact h2.elim
theorem clip_sIx (n d : Nat) (o : Option Int) : clipD n d o = HT.sIx n d o := by cases o <;> rfl
theorem Reps.cut {f : Hp} {vs : List V} {ds : List D} (r : Reps κ f vs ds) (lo hi : Option Int) : Reps κ f (cutV vs lo hi) (cutD ds lo hi) := by
  unfold cutV cutD
  rw [clip_sIx, clip_sIx, r.length]
  exact (r.drop _).take _
def tDO (κ : Kx) (io : Option (Nat × V)) (W : WX) (den : Ss → R (Option Int)) : TO := fun σ H Q => ∃ δ τ, SR κ io σ H δ τ ∧ post κ io W σ τ (fun o δ' => ∀ H', SR κ io σ H' δ' τ → Q o H') (den δ)
def partD (T : Tab) (p : Option Nat) (e : E) (s : Ss) : R (Option Int) := match e with
  | .nop => R.ok none s
  | lo => (evE T p lo s).bind fun y s2 => match y with
    | .val (.int i) => .ok (some i) s2
    | _ => .bad
theorem po_nop {p : Option Nat} : PO X none (tDO κ io W (partD T p .nop)) :=
  ⟨fun pins s σ H Q I ⟨δ, τ, sr, h⟩ => po_none.run pins s σ H Q I (h H sr)⟩
theorem po_snd {p : Option Nat} {e : E} (ne : e ≠ .nop) (ha : PE X a' (tD κ io W (evE T p e))) : PO X (some a') (tDO κ io W (partD T p e)) := by
  refine ⟨fun pins s σ H Q I ⟨δ, τ, sr, h⟩ => (po_some ha).run pins s σ H Q I ?_⟩
  have e1 : partD T p e δ = (evE T p e δ).bind fun y s2 => match y with
    | .val (.int i) => .ok (some i) s2
    | _ => .bad := by
    cases e <;> first | rfl | exact absurd rfl ne
  rw [e1] at h
  refine seqD (ρ := []) h sr fun r δ1 v H1 s1 a1 h1 => ?_
  split at h1
  · obtain rfl := s1.topI
    exact ⟨_, rfl, h1 H1 s1.tl⟩
  · exact h1.elim
theorem seqO {α : Type} {den : Ss → R (Option Int)} {f : Option Int → Ss → R α} {Kf : α → Ss → Prop} {K : Option Int → Hp → Prop} (hp : post κ io W σ τ Kf ((den δ).bind f)) (hs : SR κ io σ H δ (ρ ++ τ))
    (k : ∀ b δ1 H1, SR κ io σ H1 δ1 (ρ ++ τ) → post κ io W σ τ Kf (f b δ1) → K b H1) : tDO κ io W den σ H K := by
  refine ⟨δ, ρ ++ τ, hs, ?_⟩
  cases e : den δ with
  | ok r δ1 =>
    rw [e] at hp
    exact fun H1 s1 => k r δ1 H1 s1 hp
  | ex x δ1 =>
    rw [e] at hp
    exact fun cls d H1 s1 xr => hp cls d H1 s1.cut xr
  | bad =>
    rw [e] at hp
    exact hp
theorem slc_parts {p : Option Nat} {a lo hi : E} {s : Ss} : evE T p (.slc a lo hi) s = (evE T p a s).bind fun x s1 => (partD T p lo s1).bind fun l s2 => (partD T p hi s2).bind fun h s3 => match rd s3 x with
    | some d => (match slcD d l h with
      | some z => .ok (out z) s3
      | none => .bad)
    | none => .bad := by
  simp only [evE]
  rfl
theorem snd_slc {p : Option Nat} {a lo hi : E} {lo' hi' : Option Expr} {p2 : Pos} (hK : κ.K = X.K) (ha : PE X a' (tD κ io W (evE T p a))) (hl : PO X lo' (tDO κ io W (partD T p lo))) (hh : PO X hi' (tDO κ io W (partD T p hi))) :
    PE X (.Subscript a' (.Slice lo' hi' none p2) pos) (tD κ io W (evE T p (.slc a lo hi))) := by
  refine PE.imp (pe_slice (sl_list.or sl_str) ha hl hh) fun σ H Q ⟨δ, τ, s, h⟩ => ?_
  rw [slc_parts] at h
  refine seqD (ρ := []) h s fun r δ1 v H1 s1 a1 h1 => seqO (ρ := [ent r v]) h1 s1 fun l δ2 H2 s2 h2 => seqO (ρ := [ent r v]) h2 s2 fun u δ3 H3 s3 h3 => ?_
  split at h3
  · rename_i d hd
    split at h3
    · rename_i z hz
      obtain ⟨f, rf⟩ := s3.rel
      have x1 := s3.read (by simp [ent]) a1 hd rf
      have s4 := s3.cut
      have rf3 : RelF κ f H3 (σ.zip δ3 ++ τ) := rf.sub (List.Sublist.append_left (by simp) _)
      unfold slcD at hz
      split at hz
      · cases hz
        obtain ⟨b, vs, rfl, q1, rr⟩ := lst_of rf.same hK x1
        exact .inl ⟨b, vs, rfl, q1.sq, fun q hq => fin_lst s4.len s4.io rf3 h3 hq (rr.cut l u)⟩
      · obtain ⟨rfl, ok⟩ := rep_str (rep_of rf.same x1)
        split at hz
        · rename_i hl
          cases hz
          refine .inr ⟨_, rfl, by rw [lineEq]; simpa [Str.length] using hl, ?_⟩
          rename_i s0
          have e : cutS ⟨s0.toArray⟩ l u = ⟨(cutD s0 l u).toArray⟩ := by
            unfold cutS cutD
            simp [Str.length, clip_sIx]
          rw [e]
          refine fin_str s4 h3 fun y hy => ok y ?_
          unfold cutD at hy
          exact List.mem_of_mem_drop (List.mem_of_mem_take hy)
        · cases hz
      · cases hz
    · exact h3.elim
  · exact h3.elim
theorem rev_range (s : List Nat) : ((List.range s.length).map fun k => s.length - 1 - k).filterMap (s.toArray[·]?) = s.reverse := by
  rw [W.krv_range]
  rw [List.filterMap_reverse]
  congr 1
  have := W.krv_all s.toArray
  simpa using this
section
variable {prog : Program} {w : World} {A : Around} {E : Value → Shared → Prop} {s : Shared}
theorem sliceApplied_rev {sl : Addr} {vl vu vs : Value} {n : Nat} {Q : Int × Int × Nat → Shared → Prop} (hs : s.heap.IsSliceOf sl vl vu vs) (pl : IsPart vl none) (pu : IsPart vu none) (ps : IsPart vs (some (-1)))
    (h : Q ((n : Int) - 1, -1, n) s) : wpAny (model prog w) A (Builtin.Slice.sliceApplied (.ref sl) (pure (n : Int))) Q E s := by
  obtain ⟨os, hos, hcs, hds⟩ := id hs
  unfold Builtin.Slice.sliceApplied Builtin.Slice.sliceFields
  refine wpAny_bind (wpAny_bind (wpAny_field hos hds (x := vl) rfl (wpAny_bind (wpAny_field hos hds (x := vu) rfl (wpAny_bind (wpAny_field hos hds (x := vs) rfl (wpAny_pure ?_)))))))
  refine wpAny_bind (HT.slicePart_ ps ?_)
  show wpAny _ _ (if ((-1 : Int) == 0) = true then _ else _) _ _ s
  rw [if_neg (by decide)]
  refine wpAny_bind (HT.slicePart_ pl (wpAny_bind (HT.slicePart_ pu (wpAny_bind (wpAny_pure ?_)))))
  have e : Builtin.Slice.sliceAdjust none none (-1) (n : Int) = ((n : Int) - 1, -1) := rfl
  have e2 : Builtin.Slice.slicePlaces ((n : Int) - 1) (-1) (-1) = n := by
    unfold Builtin.Slice.slicePlaces
    have h1 : ¬ ((-1 : Int) > 0) := by omega
    simp only [h1, if_false]
    split
    · have : ((n : Int) - 1 - -1 - 1) / (- -1) + 1 = n := by
        rw [show (- -1 : Int) = 1 by decide, Int.ediv_one]
        omega
      omega
    · omega
  show wpAny _ _ (match Builtin.Slice.sliceAdjust none none (-1) (n : Int) with | (lo, hi) => pure (lo, (-1 : Int), Builtin.Slice.slicePlaces lo hi (-1))) _ _ s
  rw [e]
  show wpAny _ _ (pure ((n : Int) - 1, (-1 : Int), Builtin.Slice.slicePlaces ((n : Int) - 1) (-1) (-1))) _ _ s
  rw [e2]
  exact wpAny_pure h
theorem pick_rev (xs : Array Value) : ((List.range xs.size).filterMap fun (m : Nat) => xs[(((xs.size : Int) - 1) + (m : Int) * (-1)).toNat]?).toArray = xs.toList.reverse.toArray := by
  have e : (List.range xs.size).filterMap (fun (m : Nat) => xs[(((xs.size : Int) - 1) + (m : Int) * (-1)).toNat]?) = ((List.range xs.size).map fun k => xs.size - 1 - k).filterMap (xs[·]?) := by
    have e3 : (List.range xs.size).map (fun (m : Nat) => (((xs.size : Int) - 1) + (m : Int) * (-1)).toNat) = (List.range xs.size).map fun k => xs.size - 1 - k := List.map_congr_left fun m hm => by
      have := List.mem_range.mp hm
      omega
    rw [← e3, List.filterMap_map]
    rfl
  rw [e, W.krv_range, List.filterMap_reverse, W.krv_all]
theorem getItem_tuple_rev {t sl : Addr} {items : Array Value} {vl vu vs : Value} {Q : Value → Shared → Prop} (ht : IsTup s.heap t items) (hs : s.heap.IsSliceOf sl vl vu vs) (pl : IsPart vl none) (pu : IsPart vu none) (ps : IsPart vs (some (-1)))
    (h : Q (.ref s.heap.objs.size) { s with heap := s.heap.push { cls := .type "tuple", data := .seq items.toList.reverse.toArray } })
    (hsz : items.size ≤ sizeLine) : wpAny (model prog w) A (getItem (.ref t) (.ref sl)) Q E s := by
  have htake : sizeOk (.seq items.toList.reverse.toArray) := by
    show items.toList.reverse.toArray.size ≤ sizeLine
    rw [List.size_toArray, List.length_reverse, Array.length_toList]
    omega
  obtain ⟨os, hos, hcs, hds⟩ := id hs
  have hTs : s.TypeIs (.ref sl) "slice" := ⟨os, hos, hcs⟩
  unfold getItem
  try with_reducible refine wpAny_holding ?_
  first | refine wpAny_bind (wpAny_pure ?_) | skip
  refine wpAny_bind (wpAny_sequenceKey ht.typeIs (by decide) ?_)
  refine wpAny_bind (wpAny_callSpecial?_slot (name := Str.ofString "__getitem__") ht.typeIs PyProof.Rows.slot_tuple_getitem
    (wpAny_call_entry PyProof.Rows.slot_tuple_getitem ht.typeIs entry_tuple_getitem ?_ (args_tuple_getitem _ _)))
  show wpAny _ _ (Builtin.Tuple.tupleItemsOf (.ref t) >>= _) _ _ s
  refine wpAny_bind (tupleItemsOf_ ht ?_)
  refine wpAny_bind (wpAny_typeOf hTs ?_)
  rw [if_pos (by decide)]
  refine wpAny_bind (sliceApplied_rev hs pl pu ps ?_)
  have hno : ¬ ((((items.size : Int) - 1) == 0 && (-1 : Int) == 1 && items.size == items.size) = true) := by
    rw [show ((-1 : Int) == 1) = false by decide]
    simp
  show wpAny _ _ (if (((items.size : Int) - 1) == 0 && (-1 : Int) == 1 && items.size == items.size) = true then _ else _) _ _ s
  rw [if_neg hno, pick_rev]
  first
    | exact wpAny_bind (m := Builtin.Tuple.tupleExact _) (wpAny_newObj_type (wpAny_pure ⟨_, rfl, wpAny_pure h⟩) htake)
    | exact wpAny_bind (m := Builtin.Tuple.tupleExact _) (wpAny_newObj_type (wpAny_bind (wpAny_pure (wpAny_pure ⟨_, rfl, wpAny_pure h⟩))) htake)
    | exact wpAny_bind (wpAny_bind (m := Builtin.Tuple.tupleExact _) (wpAny_newObj_type (wpAny_pure (wpAny_pure ⟨_, rfl, wpAny_pure h⟩)) htake))
    | exact wpAny_bind (wpAny_bind (m := Builtin.Tuple.tupleExact _) (wpAny_newObj_type (wpAny_pure ⟨_, rfl, wpAny_pure h⟩) htake))
end
/-- text[::-1] -/
def rRevS : V → Hp → VK → Prop := fun x H Q => ∃ s : List Nat, x = .str ⟨s.toArray⟩ ∧ s.length ≤ 16777216 ∧ Q (.str ⟨s.reverse.toArray⟩) H
def rRev (K : PySem.W.Frag) : V → Hp → VK → Prop := fun x H Q => (∃ a xs, x = .ref a ∧ SqL K H a xs ∧ ∀ p, H p = none → Q (.ref p) (upd H p (.lst xs.reverse))) ∨ rRevS x H Q ∨ (∃ a xs, x = .ref a ∧ SqT K H a xs ∧ ∀ p, H p = none → Q (.ref p) (upd H p (.tup xs.reverse)))
theorem pe_rev {e : Expr} {te : TE} {k : Nat} {p1 p2 p3 : Pos} (he : PE X e te) : PE X (.Subscript e (.Slice none none (some (.UnaryOp .USub (.Constant (.int 1) k p1) p2)) p3) pos) (tUn (rRev X.K) te) := by
  refine ⟨fun pins s σ H Q I h => ?_⟩
  refine Subscript_ (thn (he.run pins s σ H _ I h) fun v s1 ⟨x, H1, I1, r1, q1⟩ => ?_)
  have step : PO X (some (.UnaryOp .USub (.Constant (.int 1) k p1) p2)) (tPart (tUn (rU fun i => .int (-i)) (tC (.int 1)))) := po_some (pe_un un_neg pe_int)
  refine wpAny_Slice (thn (po_none.run pins s1 σ H1 (fun o G => o = none ∧ G = H1) I1 ⟨rfl, rfl⟩) fun vl s2 ⟨l, H2, I2, pl, el, e2⟩ => ?_)
  subst el e2
  refine thn (po_none.run pins s2 σ H2 (fun o G => o = none ∧ G = H2) I2 ⟨rfl, rfl⟩) fun vu s3 ⟨u, H3, I3, pu, eu, e3⟩ => ?_
  subst eu e3
  refine thn (step.run pins s3 σ H3 (fun o G => o = some (-1) ∧ G = H3) I3 ⟨1, rfl, -1, rfl, rfl, rfl⟩) fun vs s4 ⟨o, H4, I4, ps, eo, e4⟩ => ?_
  subst eo e4
  have I5 : Inv X pins σ H4 { s4 with heap := s4.heap.push { cls := .type "slice", data := .fields #[vl, vu, vs] } } := I4.kept (t' := s4.toks) fun b ob q => Heap.get?_push_of_some _ q
  rcases q1 with ⟨a, xs, ex, hx, q⟩ | ⟨z, ex, hz, q⟩ | ⟨a, xs, ex, hx, q⟩
  rotate_left 2
  · subst ex
    cases r1
    obtain ⟨its, r, ht, hz⟩ := I5.tuple hx
    have hlen := r.length
    show wpAny _ X.A (subscriptTail e (.Slice none none (some (.UnaryOp .USub (.Constant (.int 1) k p1) p2)) p3) (.ref a) (.ref s4.heap.objs.size)) _ _ { s4 with heap := s4.heap.push { cls := .type "slice", data := .fields #[vl, vu, vs] } }
    refine tail_any (ops := [.ref a, .ref s4.heap.objs.size]) ht.typeIs PyProof.Rows.slot_tuple_getitem.lookup ?_ (by with_unfolding_all rfl)
    refine getItem_tuple_rev ht (Heap.IsSliceOf.new _ vl vu vs) pl pu ps ?_ (by rw [List.size_toArray]; omega)
    exact ⟨.ref _, _, I5.laid (t' := s4.toks) (o := .tup xs.reverse) (fun b ob q => Heap.get?_push_of_some _ q) (Nat.le_refl _) ⟨by rw [List.length_reverse]; exact hz, _, r.reverse, ⟨_, Heap.get?_push_size _ rfl, rfl, _, rfl⟩⟩, rfl, q _ (I5.hok.fresh (Nat.le_refl _))⟩
  · subst ex
    cases r1
    obtain ⟨its, r, ht, hz⟩ := I5.list hx
    have hlen := r.length
    show wpAny _ X.A (subscriptTail e (.Slice none none (some (.UnaryOp .USub (.Constant (.int 1) k p1) p2)) p3) (.ref a) (.ref s4.heap.objs.size)) _ _ { s4 with heap := s4.heap.push { cls := .type "slice", data := .fields #[vl, vu, vs] } }
    refine tail_any (ops := [.ref a, .ref s4.heap.objs.size]) ht.isList.typeIs (PySem.slot_list_getitem.lookup) ?_ (by with_unfolding_all rfl)
    refine wpAny_getItem_list_slice ht.isList (Heap.IsSliceOf.new _ vl vu vs) pl pu ps (by decide) ?_ (by rw [List.size_toArray]; omega)
    rw [W.krv_pick]
    exact ⟨.ref _, _, I5.laid (t' := s4.toks) (o := .lst xs.reverse) (fun b ob q => Heap.get?_push_of_some _ q) (Nat.le_refl _) ⟨by rw [List.length_reverse]; exact hz, _, 0, r.reverse, Heap.get?_push_size _ rfl⟩, rfl, q _ (I5.hok.fresh (Nat.le_refl _))⟩
  · subst ex
    obtain ⟨t, rfl⟩ := r1
    obtain ⟨l, rfl, el⟩ := IsPart.raw pl
    obtain ⟨u, rfl, eu⟩ := IsPart.raw pu
    obtain ⟨st, rfl, es⟩ := IsPart.raw ps
    have nl : l = none := by cases l <;> simp at el ⊢
    have nu : u = none := by cases u <;> simp at eu ⊢
    subst nl nu
    obtain ⟨t2, rfl⟩ : ∃ t2, st = some (-1, t2) := by
      cases st with
      | none => simp at es
      | some w =>
        obtain ⟨i, t2⟩ := w
        simp at es
        exact ⟨t2, by rw [← es]⟩
    show wpAny _ X.A (subscriptTail e (.Slice none none (some (.UnaryOp .USub (.Constant (.int 1) k p1) p2)) p3) (.str ⟨z.toArray⟩ t) (.ref s4.heap.objs.size)) _ _ { s4 with heap := s4.heap.push { cls := .type "slice", data := .fields #[partValue none, partValue none, partValue (some (-1, t2))] } }
    refine tail_any (ops := [.str ⟨z.toArray⟩ t, .ref s4.heap.objs.size]) (typeIs_str _ _ _) F.slot_str_getitem.lookup ?_ (by with_unfolding_all rfl)
    refine wpAny_getItem_str_slice (l := none) (u := none) (st := some (-1, t2)) ⟨_, Heap.get?_push_size _ rfl, rfl, rfl⟩ rfl ?_
    have lz : (⟨z.toArray⟩ : Str).length = z.length := by simp [Str.length]
    have e1 : ((Builtin.Str.strSliceIndices none none (-1) (⟨z.toArray⟩ : Str).length).filterMap ((⟨z.toArray⟩ : Str).cps[·]?)) = z.reverse := by
      rw [picked_rev, lz]
      exact rev_range z
    show Made.post (if ((-1 : Int) == 1 && (Builtin.Str.strSliceIndices none none (-1) (⟨z.toArray⟩ : Str).length).length == (⟨z.toArray⟩ : Str).length) = true then Made.val (.str ⟨z.toArray⟩ t)
      else Made.str ⟨((Builtin.Str.strSliceIndices none none (-1) (⟨z.toArray⟩ : Str).length).filterMap ((⟨z.toArray⟩ : Str).cps[·]?)).toArray⟩) _ _
    rw [if_neg (by simp), e1]
    refine ⟨?_, .str ⟨z.reverse.toArray⟩, _, I5.tok _, ⟨_, rfl⟩, q⟩
    show z.reverse.toArray.size ≤ sizeLine
    rw [List.size_toArray, List.length_reverse, lineEq]
    exact hz
theorem snd_rev {p : Option Nat} {a : E} {k : Nat} {p1 p2 p3 : Pos} (hK : κ.K = X.K) (ha : PE X a' (tD κ io W (evE T p a))) :
    PE X (.Subscript a' (.Slice none none (some (.UnaryOp .USub (.Constant (.int 1) k p1) p2)) p3) pos) (tD κ io W (evE T p (.rev a))) := by
  refine PE.imp (pe_rev ha) fun σ H Q ⟨δ, τ, s, h⟩ => ?_
  simp only [evE] at h
  refine seqD (ρ := []) h s fun r δ1 v H1 s1 a1 h1 => ?_
  split at h1
  · rename_i d hd
    split at h1
    · rename_i z hz
      obtain ⟨f, rf⟩ := s1.rel
      have x1 := s1.read (by simp [ent]) a1 hd rf
      have s4 := s1.tl
      have rf3 : RelF κ f H1 (σ.zip δ1 ++ τ) := rf.sub (List.Sublist.append_left (by simp) _)
      unfold revD at hz
      split at hz
      · cases hz
        obtain ⟨b, vs, rfl, q1, rr⟩ := lst_of rf.same hK x1
        exact .inl ⟨b, vs, rfl, q1.sq, fun q hq => fin_lst s4.len s4.io rf3 h1 hq rr.reverse⟩
      · obtain ⟨rfl, ok⟩ := rep_str (rep_of rf.same x1)
        split at hz
        · rename_i hl
          cases hz
          exact .inr (.inl ⟨_, rfl, hl, fin_str s4 h1 fun y hy => ok y (List.mem_reverse.mp hy)⟩)
        · cases hz
      · cases hz
        obtain ⟨b, vs, rfl, q1, rr⟩ := tup_of rf.same hK x1
        exact .inr (.inr ⟨b, vs, rfl, q1, fun q hq => fin_tup s4.len s4.io rf3 h1 hq rr.reverse⟩)
      · cases hz
    · exact h1.elim
  · exact h1.elim
end
end PyV
set_option Elab.async false
set_option linter.all false
set_option maxRecDepth 100000
set_option maxHeartbeats 2000000
namespace PyV
open PySem PySem.Spec PyProof.Rows L2

/-! ## what stands in lists -/
section
variable {κ : Kx} {f g h : Hp}
theorem allI_eq : ∀ {ds : List D} {ns : List Int}, allI ds = some ns → ds = ns.map D.int
  | [], ns, h => by simp at h; subst h; rfl
  | d :: ds, ns, h => by
    cases d <;> simp only [allI] at h <;> try (cases h; done)
    obtain ⟨ms, e, rfl⟩ := Option.map_eq_some_iff.mp h
    rw [allI_eq e]
    rfl
theorem allI_map : ∀ ns : List Int, allI (ns.map D.int) = some ns
  | [] => rfl
  | n :: ns => by simp [allI_map ns]
theorem allB_eq : ∀ {ds : List D} {ns : List Bool}, allB ds = some ns → ds = ns.map D.bl
  | [], ns, h => by simp at h; subst h; rfl
  | d :: ds, ns, h => by
    cases d <;> simp only [allB] at h <;> try (cases h; done)
    obtain ⟨ms, e, rfl⟩ := Option.map_eq_some_iff.mp h
    rw [allB_eq e]
    rfl
theorem allB_map : ∀ ns : List Bool, allB (ns.map D.bl) = some ns
  | [] => rfl
  | n :: ns => by simp [allB_map ns]
theorem allS_eq : ∀ {ds : List D} {ns : List (List Nat)}, allS ds = some ns → ds = ns.map D.str
  | [], ns, h => by simp at h; subst h; rfl
  | d :: ds, ns, h => by
    cases d <;> simp only [allS] at h <;> try (cases h; done)
    obtain ⟨ms, e, rfl⟩ := Option.map_eq_some_iff.mp h
    rw [allS_eq e]
    rfl
theorem allS_map : ∀ ns : List (List Nat), allS (ns.map D.str) = some ns
  | [] => rfl
  | n :: ns => by simp [allS_map ns]
theorem reps_I : ∀ {vs : List V} {ns : List Int}, Reps κ f vs (ns.map D.int) → vs = ns.map V.int
  | _, [], .nil => rfl
  | _, _ :: _, .cons r t => by rw [rep_int r, reps_I t]; rfl
theorem reps_B : ∀ {vs : List V} {ns : List Bool}, Reps κ f vs (ns.map D.bl) → vs = ns.map V.bl
  | _, [], .nil => rfl
  | _, _ :: _, .cons r t => by rw [rep_bl r, reps_B t]; rfl
theorem reps_S : ∀ {vs : List V} {ns : List (List Nat)}, Reps κ f vs (ns.map D.str) → vs = (ns.map fun s => (⟨s.toArray⟩ : Str)).map V.str ∧ ∀ s ∈ ns, ∀ c ∈ s, c < 1114112
  | _, [], .nil => ⟨rfl, fun _ h => nomatch h⟩
  | _, s :: ns, .cons r t => by
    obtain ⟨e1, k1⟩ := rep_str r
    obtain ⟨e2, k2⟩ := reps_S t
    refine ⟨by rw [e1, e2]; rfl, fun z hz => ?_⟩
    rcases List.mem_cons.mp hz with rfl | hz
    · exact k1
    · exact k2 z hz
theorem reps_ofI : ∀ ns : List Int, Reps κ f (ns.map V.int) (ns.map D.int)
  | [] => .nil
  | n :: ns => .cons (.int n) (reps_ofI ns)

/-! ## largest, least, sorted -/
theorem maxI_mem : ∀ (n : Int) (ns : List Int), maxI (n :: ns) ∈ n :: ns
  | n, [] => List.mem_singleton.mpr rfl
  | n, m :: ns => by
    unfold maxI
    split
    · exact List.mem_cons_of_mem _ (maxI_mem m ns)
    · exact List.mem_cons_self
theorem maxI_top : ∀ (n : Int) (ns : List Int), ∀ y ∈ n :: ns, y ≤ maxI (n :: ns)
  | n, [], y, h => by simp at h; subst h; exact Int.le_refl _
  | n, m :: ns, y, h => by
    unfold maxI
    rcases List.mem_cons.mp h with rfl | h
    · split
      · assumption
      · exact Int.le_refl _
    · have := maxI_top m ns y h
      split <;> omega
theorem minI_mem : ∀ (n : Int) (ns : List Int), minI (n :: ns) ∈ n :: ns
  | n, [] => List.mem_singleton.mpr rfl
  | n, m :: ns => by
    unfold minI
    split
    · exact List.mem_cons_of_mem _ (minI_mem m ns)
    · exact List.mem_cons_self
theorem minI_low : ∀ (n : Int) (ns : List Int), ∀ y ∈ n :: ns, minI (n :: ns) ≤ y
  | n, [], y, h => by simp at h; subst h; exact Int.le_refl _
  | n, m :: ns, y, h => by
    unfold minI
    rcases List.mem_cons.mp h with rfl | h
    · split
      · assumption
      · exact Int.le_refl _
    · have := minI_low m ns y h
      split <;> omega
theorem sortI_perm (ns : List Int) : (sortI ns).Perm ns := List.mergeSort_perm ..
theorem sortI_up (ns : List Int) : (sortI ns).Pairwise (· ≤ ·) := by
  have h := List.pairwise_mergeSort (le := fun i j : Int => decide (i ≤ j)) (fun a b c h1 h2 => by simp at h1 h2 ⊢; omega) (fun a b => by simp; omega) ns
  exact h.imp fun h => by simpa using h
theorem sortI_is {ms ns : List Int} (p : ms.Perm ns) (u : ms.Pairwise (· ≤ ·)) : ms = sortI ns :=
  (p.trans (sortI_perm ns).symm).eq_of_pairwise (fun a b _ _ h1 h2 => Int.le_antisymm h1 h2) u (sortI_up ns)

/-! ## the shown text's signs -/
def okS (x : Str) : Prop := ∀ c ∈ x.cps.toList, c < 1114112
theorem okS.add {x y : Str} (h : okS x) (k : okS y) : okS (x ++ y) := fun c hc => by
  have e : (x ++ y).cps.toList = x.cps.toList ++ y.cps.toList := TL.tl_append x y
  rw [e] at hc
  rcases List.mem_append.mp hc with hc | hc
  · exact h c hc
  · exact k c hc
theorem okS.of (s : String) : okS (Str.ofString s) := fun c hc => by
  rw [signs_ofString] at hc
  obtain ⟨d, _, rfl⟩ := List.mem_map.mp hc
  have := d.valid
  show d.val.toNat < _
  rcases this with h | ⟨h1, h2⟩ <;> omega
theorem okS.join {z : Str} (hz : okS z) : ∀ ts : List Str, (∀ t ∈ ts, okS t) → okS (Str.join z ts)
  | [], _ => fun c hc => by simp [Str.join, Str.empty] at hc
  | [t], h => h t (List.mem_singleton.mpr rfl)
  | t :: u :: r, h => ((h t List.mem_cons_self).add hz).add (okS.join hz (u :: r) fun x hx => h x (List.mem_cons_of_mem _ hx))
theorem okS.from {z : Str} : ∀ (ts : List Str) (k : Nat) (acc : Str), okS acc → (∀ t ∈ ts, okS t) → okS (textFrom k acc ts)
  | [], _, _, h, _ => h
  | t :: ts, k, acc, h, ht => okS.from (z := z) ts (k + 1) _ ((h.add (by split <;> exact okS.of _)).add (ht t List.mem_cons_self)) fun x hx => ht x (List.mem_cons_of_mem _ hx)
theorem hex_ok (n : Nat) : ∀ c ∈ (Nat.toDigits 16 n).map Char.toNat, c < 1114112 := fun c hc => by
  obtain ⟨d, _, rfl⟩ := List.mem_map.mp hc
  have := d.valid
  show d.val.toNat < _
  rcases this with h | ⟨h1, h2⟩ <;> omega
theorem signs_ok {q c : Nat} (hq : q < 1114112) (hc : c < 1114112) : ∀ d ∈ Builtin.Str.reprChar q c, d < 1114112 := by
  have hh : ∀ w, ∀ d ∈ List.replicate w 48 ++ (Nat.toDigits 16 c).map Char.toNat, d < 1114112 := fun w d hd => by
    rcases List.mem_append.mp hd with h | h
    · rw [List.eq_of_mem_replicate h]; decide
    · exact hex_ok c d h
  intro d hd
  unfold Builtin.Str.reprChar at hd
  split at hd
  · simp at hd; omega
  split at hd
  · simp at hd; omega
  split at hd
  · simp at hd; omega
  split at hd
  · simp at hd; omega
  split at hd
  · simp at hd; omega
  split at hd
  · rcases List.mem_append.mp hd with h | h
    · simp at h; omega
    · exact hh _ d h
  split at hd
  · rcases List.mem_append.mp hd with h | h
    · simp at h; omega
    · exact hh _ d h
  · rcases List.mem_append.mp hd with h | h
    · simp at h; omega
    · exact hh _ d h
theorem fold_ok {q : Nat} (hq : q < 1114112) : ∀ (l : List Nat) (acc : Array Nat), (∀ c ∈ l, c < 1114112) → (∀ c ∈ acc.toList, c < 1114112) → ∀ c ∈ (l.foldl (fun out c => out ++ (Builtin.Str.reprChar q c).toArray) acc).toList, c < 1114112
  | [], acc, _, ha => ha
  | c :: l, acc, hl, ha => fold_ok hq l _ (fun x hx => hl x (List.mem_cons_of_mem _ hx)) fun x hx => by
    rw [Array.toList_append] at hx
    rcases List.mem_append.mp hx with h | h
    · exact ha x h
    · exact signs_ok hq (hl c List.mem_cons_self) x h
theorem quote_lt (x : Str) : reprQuote x < 1114112 := by unfold reprQuote; split <;> decide
theorem okS.repr {x : Str} (h : okS x) : okS (reprText x) := fun c hc => by
  unfold reprText at hc
  have hq := quote_lt x
  rw [Array.toList_push, ← Array.foldl_toList] at hc
  rcases List.mem_append.mp hc with hc | hc
  · exact fold_ok hq _ _ h (fun y hy => by simp at hy; omega) c hc
  · simp at hc; omega
mutual
theorem Rep.shown : ∀ {v : V} {d : D}, Rep κ f v d → okS d.py.shown
  | _, _, .non => okS.of _
  | _, _, .bl b => by cases b <;> exact okS.of _
  | _, _, .int i => okS.of _
  | _, _, .str s ok => okS.repr (x := ⟨s.toArray⟩) (by intro c hc; exact ok c hc)
  | _, _, .lst _ r => (okS.from (z := Str.empty) _ _ _ (okS.of _) (Reps.shown r)).add (okS.of _)
  | _, _, .tup _ r => ((okS.of _).add (okS.join (okS.of _) _ (Reps.shown r))).add (by split <;> exact okS.of _)
  | _, _, .obj _ _ _ _ => okS.of _
theorem Reps.shown : ∀ {vs : List V} {ds : List D}, Reps κ f vs ds → ∀ t ∈ PyData.shownAll (D.pys ds), okS t
  | _, _, .nil, t, h => by simp [D.pys, PyData.shownAll] at h
  | _, _, .cons r q, t, h => by
    simp only [D.pys, PyData.shownAll] at h
    rcases List.mem_cons.mp h with rfl | h
    · exact Rep.shown r
    · exact Reps.shown q t h
end
theorem pys_len : ∀ ds : List D, (PyData.shownAll (D.pys ds)).length = ds.length
  | [] => rfl
  | d :: ds => congrArg (· + 1) (pys_len ds)
mutual
theorem Rep.shown_le : ∀ {v : V} {d : D}, Rep κ f v d → showOk d = true → d.py.shown.length ≤ szD d
  | _, _, .non, _ => by show (Str.ofString "None").length ≤ 5; decide
  | _, _, .bl b, _ => by cases b <;> (show (Str.ofString _).length ≤ 6; decide)
  | _, _, .int i, h => int_text_len_1921 (by simpa [showOk] using h)
  | _, _, .str s ok, _ => by
    have := StrLaws.reprText_len ⟨s.toArray⟩ (fun c hc => Nat.lt_of_lt_of_le (ok c hc) (by decide))
    have e : (⟨s.toArray⟩ : Str).length = s.length := by simp [Str.length]
    rw [e] at this
    show (reprText ⟨s.toArray⟩).length ≤ 10 * s.length + 3
    omega
  | _, _, .lst (ds := ds) _ r, h => by
    have h2 := listText_len_le (PyData.shownAll (D.pys ds))
    have h3 := Reps.shown_le r (by simpa [showOk] using h)
    rw [pys_len] at h2
    show (listText (PyData.shownAll (D.pys ds))).length ≤ szs ds + 3
    omega
  | _, _, .tup (ds := ds) _ r, h => by
    have h2 := tupleText_len_le (PyData.shownAll (D.pys ds))
    have h3 := Reps.shown_le r (by simpa [showOk] using h)
    rw [pys_len] at h2
    show (tupleText (PyData.shownAll (D.pys ds))).length ≤ szs ds + 4
    omega
  | _, _, .obj _ _ _ _, h => by simp [showOk] at h
theorem Reps.shown_le : ∀ {vs : List V} {ds : List D}, Reps κ f vs ds → showOks ds = true → ((PyData.shownAll (D.pys ds)).map (·.length)).sum + 2 * ds.length ≤ szs ds
  | _, _, .nil, _ => by simp [D.pys, PyData.shownAll, szs]
  | _, _, .cons r q, h => by
    simp only [showOks, Bool.and_eq_true] at h
    have h1 := Rep.shown_le r h.1
    have h2 := Reps.shown_le q h.2
    simp only [D.pys, PyData.shownAll, List.map_cons, List.sum_cons, List.length_cons, szs]
    omega
end
mutual
theorem showOk_py : ∀ d : D, showOk d = true → d.py.showable = true
  | .non, _ => rfl
  | .bl _, _ => rfl
  | .int i, h => h
  | .str _, _ => rfl
  | .lst ds, h => showOks_py ds (by simpa [showOk] using h)
  | .tup ds, h => showOks_py ds (by simpa [showOk] using h)
  | .dct _ _, h => by simp [showOk] at h
  | .obj _ _ _, h => by simp [showOk] at h
  | .exc _ _ _, h => by simp [showOk] at h
theorem showOks_py : ∀ ds : List D, showOks ds = true → PyData.showableAll (D.pys ds) = true
  | [], _ => rfl
  | d :: ds, h => by
    simp only [showOks, Bool.and_eq_true] at h
    simp only [D.pys, PyData.showableAll, Bool.and_eq_true]
    exact ⟨showOk_py d h.1, showOks_py ds h.2⟩
end
mutual
theorem noDict : ∀ d : D, d.py.hasDict = false
  | .non => rfl
  | .bl _ => rfl
  | .int i => rfl
  | .str _ => rfl
  | .lst ds => noDicts ds
  | .tup ds => noDicts ds
  | .dct _ _ => rfl
  | .obj _ _ _ => rfl
  | .exc _ _ _ => rfl
theorem noDicts : ∀ ds : List D, PyData.hasDictAll (D.pys ds) = false
  | [] => rfl
  | d :: ds => by
    show (d.py.hasDict || PyData.hasDictAll (D.pys ds)) = false
    rw [noDict d, noDicts ds]
    rfl
end
end
end PyV
set_option Elab.async false
set_option linter.all false
set_option maxRecDepth 100000
set_option maxHeartbeats 2000000
namespace PyV
open PySem PySem.Spec PyProof.Rows L2

section
variable {κ : Kx} {io : Option (Nat × V)} {W : WX} {σ : L2.St} {f H : Hp} {δ δ' : Ss} {τ τ' ρ : List En} {X : Cx} {a' b' c' d' : Expr} {pos : Pos} {Q : VK} {T : Tab}
/-! ## built-ins by value -/
/-- to be read: kept, or somebody's own -/
def Rd1 (κ : Kx) (f H : Hp) (v : V) (d : D) : Prop := Rep κ f v d ∨ ∃ a, v = .ref a ∧ f a = none ∧ Own κ f H a d
inductive Args (κ : Kx) (f H : Hp) : List V → List D → Prop where
  | nil : Args κ f H [] []
  | cons {v : V} {d : D} {vs : List V} {ds : List D} : Rd1 κ f H v d → Args κ f H vs ds → Args κ f H (v :: vs) (d :: ds)
/-- where the answer z lies, Q is wanted -/
def resOk (κ : Kx) (f H : Hp) (z : D) (Q : VK) : Prop := match z with
  | .lst zs => ∀ p vs, H p = none → Reps κ f vs zs → Q (.ref p) (upd H p (.lst vs))
  | .tup zs => (∀ p vs, H p = none → Reps κ f vs zs → Q (.ref p) (upd H p (.tup vs))) ∧ ∀ v, Rep κ f v (.tup zs) → Q v H
  | .dct _ _ => False
  | .obj _ _ _ => False
  | .exc _ _ _ => False
  | z => ∀ v, Rep κ f v z → Q v H
def plainR : D → Prop
  | .dct _ _ => False
  | .obj _ _ _ => False
  | .exc _ _ _ => False
  | _ => True
theorem resOk_of {z : D} (len : σ.length = δ.length) (hio : ∀ j v, io = some (j, v) → σ[j]? = some (some v)) (rf : RelF κ f H (σ.zip δ ++ τ)) (ok : plainR z)
    (hq : okE κ io σ τ Q (out z) δ) : resOk κ f H z Q := by
  cases z with
  | lst zs => exact fun p vs hp r => fin_lst len hio rf hq hp r
  | tup zs => exact ⟨fun p vs hp r => fin_tup len hio rf hq hp r, fun v r => fin_rep len hio rf hq r⟩
  | dct _ _ => exact ok
  | obj _ _ _ => exact ok
  | exc _ _ _ => exact ok
  | non => exact fun v r => fin_rep len hio rf hq r
  | bl b => exact fun v r => fin_rep len hio rf hq r
  | int i => exact fun v r => fin_rep len hio rf hq r
  | str s => exact fun v r => fin_rep len hio rf hq r
def rB (κ : Kx) (b : Bi) : List V → Hp → VK → Prop := fun xs H Q => ∃ f ds z, Same f H ∧ Args κ f H xs ds ∧ biD b ds = some z ∧ resOk κ f H z Q
def biV : Bi → Value
  | .len => .builtin "len"
  | .abs => .builtin "abs"
  | .int => .type "int"
  | .str => .type "str"
  | .repr => .builtin "repr"
  | .list => .type "list"
  | .tuple => .type "tuple"
  | .max => .builtin "max"
  | .min => .builtin "min"
  | .sum => .builtin "sum"
  | .all => .builtin "all"
  | .any => .builtin "any"
  | .sorted => .builtin "sorted"
  | _ => .none
theorem Args.one {xs : List V} {d : D} (a : Args κ f H xs [d]) : ∃ x, xs = [x] ∧ Rd1 κ f H x d := by
  cases a with
  | cons r t => cases t; exact ⟨_, rfl, r⟩
theorem Args.two {xs : List V} {d e : D} (a : Args κ f H xs [d, e]) : ∃ x y, xs = [x, y] ∧ Rd1 κ f H x d ∧ Rd1 κ f H y e := by
  cases a with
  | cons r t =>
    cases t with
    | cons r2 t => cases t; exact ⟨_, _, rfl, r, r2⟩
theorem listI {K : PySem.W.Frag} {x : V} {ds : List D} {ns : List Int} (sm : Same f H) (hK : κ.K = K) (r : Rd1 κ f H x (.lst ds)) (e : allI ds = some ns) : ∃ a, x = .ref a ∧ SqL K H a (ns.map V.int) := by
  obtain ⟨a, vs, rfl, q, rs⟩ := lst_of sm hK r
  rw [allI_eq e] at rs
  rw [reps_I rs] at q
  exact ⟨a, rfl, q.sq⟩
theorem call_reprD (hg : X.A.guards = some []) (hu : X.A.units + 64 < cLine) : CallR X (.builtin "repr") (fun xs H Q => ∃ v d, xs = [v] ∧ Rep κ H v d ∧ κ.K = X.K ∧ ck 8 d = true ∧ showOk d = true ∧ szD d ≤ 16777216 ∧ Q (.str ⟨(reprD d).toArray⟩) H) := by
  intro pins s σ H xs us Q I r h
  obtain ⟨v, d, rfl, rp, hK, hc, hs, hz, hq⟩ := h
  obtain ⟨u, rfl, rv⟩ := vals1 r
  have hle := Rep.shown_le rp hs
  have hsz : d.py.shown.length ≤ sizeLine := by rw [lineEq]; omega
  have e : (⟨(reprD d).toArray⟩ : Str) = d.py.shown := by
    unfold reprD
    simp
  rw [e] at hq
  have ans : ∀ (h' : Heap) (t : Tok) (k : Nat), (∀ b o, s.heap.get? b = some o → h'.get? b = some o) → EP X pins σ Q (.str d.py.shown t) { s with heap := h', toks := k } := fun h' t k keep =>
    ⟨.str d.py.shown, H, I.kept keep, ⟨t, rfl⟩, hq⟩
  have deep : ∀ a, v = .ref a → wpAny (model X.prog X.w) X.A (call (.builtin "repr") [u]) (EP X pins σ Q) X.xe s := fun a ea => by
    obtain ⟨dp, cl, dep⟩ := rp.dp hc
    rw [hK] at dp
    obtain ⟨as, rr⟩ := Dp.reads I _ _ _ dp rv
    subst ea
    cases rv
    exact repr_of_reads' rr (showOk_py d hs) (PyData.noDict_hsm (noDict d)) hg (by omega) (fun _ _ e => e) (fun h' t k keep => ans h' t k keep) hsz
  cases rp with
  | non =>
    cases rv
    exact PySem.P.repr_of_none (ans s.heap _ _ fun _ _ e => e)
  | bl b =>
    cases rv
    exact PySem.P.repr_of_bool (by cases b <;> exact ans s.heap _ _ fun _ _ e => e)
  | int i =>
    obtain ⟨t, rfl⟩ := rv
    exact PySem.P.repr_of_int (by simpa [showOk] using hs) (ans s.heap _ _ fun _ _ e => e)
  | str z ok =>
    obtain ⟨t, rfl⟩ := rv
    exact PySem.P.repr_of_str (ans s.heap _ _ fun _ _ e => e) hsz
  | lst q t => exact deep _ rfl
  | tup q t => exact deep _ rfl
  | obj c q l t => exact deep _ rfl
theorem cr_bi (hc : X.calm = true) (hg : X.A.guards = some []) (hu : X.A.units + 64 < cLine) (hK : κ.K = X.K) (b : Bi) : CallR X (biV b) (rB κ b) := by
  intro pins s σ H xs us Q I vs ⟨f, ds, z, sm, ar, hz, hq⟩
  have hint : ∀ {x : V} {i : Int}, Rd1 κ f H x (.int i) → x = .int i := fun r => rep_int (rep_of sm r)
  cases b with
  | len =>
    unfold biD at hz
    split at hz <;> try (cases hz; done)
    all_goals first | cases ‹Bi.len = _›; done | skip
    · obtain ⟨x, rfl, r⟩ := ar.one
      obtain ⟨a, ws, rfl, q, rs⟩ := lst_of sm hK r
      cases hz
      exact call_len_seq pins s σ H _ us Q I vs ⟨a, ws, rfl, .inl q.sq, by rw [rs.length]; exact hq _ (.int _)⟩
    · obtain ⟨x, rfl, r⟩ := ar.one
      obtain ⟨a, ws, rfl, q, rs⟩ := tup_of sm hK r
      cases hz
      exact call_len_seq pins s σ H _ us Q I vs ⟨a, ws, rfl, .inr q, by rw [rs.length]; exact hq _ (.int _)⟩
    · obtain ⟨x, rfl, r⟩ := ar.one
      obtain ⟨rfl, ok⟩ := rep_str (rep_of sm r)
      split at hz
      · rename_i z _ hl
        cases hz
        have e : ((⟨z.toArray⟩ : Str).length) = z.length := by simp [Str.length]
        exact call_len_str pins s σ H _ us Q I vs ⟨_, rfl, by rw [e, lineEq]; exact hl, by rw [e]; exact hq _ (.int _)⟩
      · cases hz
  | int =>
    unfold biD at hz
    split at hz <;> try (cases hz; done)
    all_goals first | cases ‹Bi.int = _›; done | skip
    · obtain ⟨x, rfl, r⟩ := ar.one
      cases hint r
      cases hz
      exact call_int1 pins s σ H _ us Q I vs (.inl ⟨_, rfl, hq _ (.int _)⟩)
    · obtain ⟨x, rfl, r⟩ := ar.one
      cases rep_bl (rep_of sm r)
      cases hz
      exact call_int1 pins s σ H _ us Q I vs (.inr ⟨_, rfl, hq _ (.int _)⟩)
  | abs =>
    unfold biD at hz
    split at hz <;> try (cases hz; done)
    all_goals first | cases ‹Bi.abs = _›; done | skip
    obtain ⟨x, rfl, r⟩ := ar.one
    cases hint r
    cases hz
    exact call_abs pins s σ H _ us Q I vs ⟨_, rfl, hq _ (.int _)⟩
  | max =>
    unfold biD at hz
    split at hz <;> try (cases hz; done)
    all_goals first | cases ‹Bi.max = _›; done | skip
    · obtain ⟨x, y, rfl, r1, r2⟩ := ar.two
      cases hint r1
      cases hint r2
      cases hz
      exact call_max2 hc pins s σ H _ us Q I vs ⟨_, _, rfl, hq _ (.int _)⟩
    · obtain ⟨x, rfl, r⟩ := ar.one
      split at hz
      · rename_i n ns e
        cases hz
        obtain ⟨a, rfl, q⟩ := listI sm hK r e
        refine cr_max hc pins s σ H _ us Q I vs ⟨a, _, rfl, q, Nat.succ_pos _, fun m hm top => ?_⟩
        rw [Int.le_antisymm (maxI_top _ _ _ hm) (top _ (maxI_mem _ _))]
        exact hq _ (.int _)
      · cases hz
  | min =>
    unfold biD at hz
    split at hz <;> try (cases hz; done)
    all_goals first | cases ‹Bi.min = _›; done | skip
    · obtain ⟨x, y, rfl, r1, r2⟩ := ar.two
      cases hint r1
      cases hint r2
      cases hz
      exact call_min2 hc pins s σ H _ us Q I vs ⟨_, _, rfl, hq _ (.int _)⟩
    · obtain ⟨x, rfl, r⟩ := ar.one
      split at hz
      · rename_i n ns e
        cases hz
        obtain ⟨a, rfl, q⟩ := listI sm hK r e
        refine cr_min hc pins s σ H _ us Q I vs ⟨a, _, rfl, q, Nat.succ_pos _, fun m hm low => ?_⟩
        rw [Int.le_antisymm (low _ (minI_mem _ _)) (minI_low _ _ _ hm)]
        exact hq _ (.int _)
      · cases hz
  | sum =>
    unfold biD at hz
    split at hz <;> try (cases hz; done)
    all_goals first | cases ‹Bi.sum = _›; done | skip
    obtain ⟨x, rfl, r⟩ := ar.one
    obtain ⟨ns, e, rfl⟩ := Option.map_eq_some_iff.mp hz
    obtain ⟨a, rfl, q⟩ := listI sm hK r e
    exact cr_sum hc pins s σ H _ us Q I vs ⟨a, _, rfl, q, hq _ (.int _)⟩
  | all =>
    unfold biD at hz
    split at hz <;> try (cases hz; done)
    all_goals first | cases ‹Bi.all = _›; done | skip
    obtain ⟨x, rfl, r⟩ := ar.one
    obtain ⟨bs, e, rfl⟩ := Option.map_eq_some_iff.mp hz
    obtain ⟨a, ws, rfl, q, rs⟩ := lst_of sm hK r
    rw [allB_eq e] at rs
    rw [reps_B rs] at q
    exact cr_all hc pins s σ H _ us Q I vs ⟨a, _, rfl, q.sq, hq _ (.bl _)⟩
  | any =>
    unfold biD at hz
    split at hz <;> try (cases hz; done)
    all_goals first | cases ‹Bi.any = _›; done | skip
    obtain ⟨x, rfl, r⟩ := ar.one
    obtain ⟨bs, e, rfl⟩ := Option.map_eq_some_iff.mp hz
    obtain ⟨a, ws, rfl, q, rs⟩ := lst_of sm hK r
    rw [allB_eq e] at rs
    rw [reps_B rs] at q
    exact cr_any hc pins s σ H _ us Q I vs ⟨a, _, rfl, q.sq, hq _ (.bl _)⟩
  | sorted =>
    unfold biD at hz
    split at hz <;> try (cases hz; done)
    all_goals first | cases ‹Bi.sorted = _›; done | skip
    obtain ⟨x, rfl, r⟩ := ar.one
    obtain ⟨ns, e, rfl⟩ := Option.map_eq_some_iff.mp hz
    obtain ⟨a, rfl, q⟩ := listI sm hK r e
    refine cr_sortedI pins s σ H _ us Q I vs ⟨a, _, rfl, q, fun ms p hp hu' h0 => ?_⟩
    rw [sortI_is hp hu']
    exact hq p _ h0 (reps_ofI _)
  | list =>
    unfold biD at hz
    split at hz <;> try (cases hz; done)
    all_goals first | cases ‹Bi.list = _›; done | skip
    · obtain ⟨x, rfl, r⟩ := ar.one
      obtain ⟨a, ws, rfl, q, rs⟩ := lst_of sm hK r
      cases hz
      exact call_list_of pins s σ H _ us Q I vs ⟨a, ws, rfl, .inl q.sq, fun p hp => hq p ws hp rs⟩
    · obtain ⟨x, rfl, r⟩ := ar.one
      obtain ⟨a, ws, rfl, q, rs⟩ := tup_of sm hK r
      cases hz
      exact call_list_of pins s σ H _ us Q I vs ⟨a, ws, rfl, .inr q, fun p hp => hq p ws hp rs⟩
  | tuple =>
    unfold biD at hz
    split at hz <;> try (cases hz; done)
    all_goals first | cases ‹Bi.tuple = _›; done | skip
    · obtain ⟨x, rfl, r⟩ := ar.one
      obtain ⟨a, ws, rfl, q, rs⟩ := lst_of sm hK r
      cases hz
      exact call_tuple_of pins s σ H _ us Q I vs ⟨a, ws, rfl, .inl ⟨q.sq, fun p hp => hq.1 p ws hp rs⟩⟩
    · obtain ⟨x, rfl, r⟩ := ar.one
      cases hz
      rcases r with r | ⟨a, rfl, _, o⟩
      · have r0 := r
        cases r with
        | tup q rs =>
          rw [hK] at q
          exact call_tuple_of pins s σ H _ us Q I vs ⟨_, _, rfl, .inr ⟨sqT_mono sm q, hq.2 _ r0⟩⟩
      · cases o
  | str =>
    unfold biD at hz
    split at hz <;> try (cases hz; done)
    all_goals first | cases ‹Bi.str = _›; done | skip
    obtain ⟨x, rfl, r⟩ := ar.one
    cases hint r
    split at hz
    · rename_i hl
      cases hz
      refine call_str_int pins s σ H _ us Q I vs ⟨_, rfl, hl, ?_⟩
      rename_i i _
      have e : Str.ofString (toString i) = ⟨(strI i).toArray⟩ := by
        unfold strI
        simp
      show Q (.str (Str.ofString (toString i))) H
      rw [e]
      refine hq _ (.str _ ?_)
      exact okS.of (toString i)
    · cases hz
  | repr =>
    unfold biD at hz
    split at hz <;> try (cases hz; done)
    all_goals first | cases ‹Bi.repr = _›; done | skip
    obtain ⟨x, rfl, r⟩ := ar.one
    split at hz
    · rename_i hl
      cases hz
      have r0 := rep_of sm r
      refine call_reprD (κ := κ) hg hu pins s σ H _ us Q I vs ⟨_, _, rfl, r0, hK, hl.1, hl.2.1, hl.2.2, hq _ (.str _ ?_)⟩
      intro c hc
      exact Rep.shown r0 c hc
    · cases hz
  | set => simp [biD] at hz
  | bool => simp [biD] at hz
  | divmod => simp [biD] at hz
  | sortedR => simp [biD] at hz
end
end PyV
set_option Elab.async false
set_option linter.all false
set_option maxRecDepth 100000
set_option maxHeartbeats 2000000
namespace PyV
open PySem PySem.Spec PyProof.Rows L2

section
variable {κ : Kx} {io : Option (Nat × V)} {W : WX} {σ : L2.St} {f H : Hp} {δ δ' : Ss} {τ τ' ρ : List En} {X : Cx} {a' b' c' d' e' : Expr} {es' : List Expr} {pos : Pos} {Q : VK} {T : Tab}
/-! ## calls of built-ins, methods -/
theorem args_of (rf : RelF κ f H (σ.zip δ ++ τ)) (s : SR κ io σ H δ τ) : ∀ {rs : List Rv} {vs : List V} {ds : List D}, Alis σ rs vs → (∀ e ∈ ents rs vs, e ∈ τ) → rds δ rs = some ds → Args κ f H vs ds
  | [], _, ds, a, _, h => by
    cases a
    simp only [rds, Option.some.injEq] at h
    subst h
    exact .nil
  | r :: rs, _, ds, a, hm, h => by
    cases a with
    | @cons _ v _ vs a1 a2 =>
      simp only [rds] at h
      split at h
      · rename_i d ds2 h1 h2
        cases h
        refine .cons (s.read (hm _ ?_) a1 h1 rf) (args_of rf s a2 (fun e he => hm e ?_) h2)
        · show ent r v ∈ ents rs vs ++ [ent r v]
          simp
        · show e ∈ ents rs vs ++ [ent r v]
          exact List.mem_append_left _ he
      · cases h
theorem biD_flat {b : Bi} {ds : List D} {z : D} (h : biD b ds = some z) : plainR z := by
  unfold biD at h
  split at h <;> try (cases h; done)
  all_goals first | (cases h; exact True.intro) | skip
  all_goals first | (split at h <;> first | (cases h; exact True.intro) | (cases h; done)) | skip
  all_goals first | (obtain ⟨_, _, rfl⟩ := Option.map_eq_some_iff.mp h; exact True.intro) | skip
def biN : Bi → Str
  | .len => "len"
  | .abs => "abs"
  | .int => "int"
  | .str => "str"
  | .repr => "repr"
  | .list => "list"
  | .tuple => "tuple"
  | .max => "max"
  | .min => "min"
  | .sum => "sum"
  | .all => "all"
  | .any => "any"
  | .sorted => "sorted"
  | _ => ""
theorem snd_bi {p : Option Nat} {b : Bi} {es : List E} {x : Str} {q : Pos} (hx : biN b = x) (he0 : x ≠ "") (hcr : CallR X (biV b) (rB κ b)) (hg : Gl X x) (hm : X.mg x = none) (ha : PA X (e' :: es') (tDA κ io W (evEs T p es)))
    (hs : starEach (e' :: es') X.env = (false, eval e' X.env) :: starEach es' X.env) (hpl : (backTo pos (starEach es' X.env)).any (·.1) = false) :
    PE X (.Call (.Name x q) (e' :: es') [] pos) (tD κ io W (evE T p (.bi b es))) := by
  have call : PE X (.Call (.Name x q) (e' :: es') [] pos) (tCB (rB κ b) (tDA κ io W (evEs T p es))) := by
    cases b <;> first
      | exact absurd hx.symm he0
      | (subst hx; exact pe_callB hcr hg hm (by rfl) ha (by decide) (by decide) hs hpl)
      | (subst hx; exact pe_callTy hcr hg hm (by rfl) ha (by decide) (by decide) hs hpl)
  refine PE.imp call fun σ H Q ⟨δ, τ, s, h⟩ => ?_
  simp only [evE] at h
  refine seqA (ρ := []) h s fun rs δ1 vs H1 s1 a1 h1 => ?_
  split at h1
  · rename_i ds hd
    split at h1
    · rename_i z hz
      obtain ⟨f, rf⟩ := s1.rel
      have ar := args_of rf s1 a1 (fun e he => List.mem_append_left _ he) hd
      have s2 := s1.cut
      refine ⟨f, ds, z, rf.same, ar, hz, resOk_of s2.len s2.io (rf.sub ((List.sublist_append_right _ _).append_left _)) (biD_flat hz) h1⟩
    · exact h1.elim
  · exact h1.elim
/-- a text's methods -/
def rM (κ : Kx) (m : Mt) : V → List V → Hp → VK → Prop := fun x xs H Q => ∃ f t ds z, x = .str ⟨t.toArray⟩ ∧ (∀ c ∈ t, c < 1114112) ∧ Same f H ∧ Args κ f H xs ds ∧ mtD m t ds = some z ∧ resOk κ f H z Q
theorem cnt_nat (c : Nat) : ∀ l : List Nat, cnt c l = ((l.count c : Nat) : Int)
  | [] => rfl
  | n :: r => by
    rw [cnt_cons, cnt_nat c r, List.count_cons]
    by_cases h : n = c
    · subst h; simp; omega
    · simp [h]
theorem okL_join {S : List Nat} (hS : ∀ c ∈ S, c < 1114112) : ∀ ps : List (List Nat), (∀ p ∈ ps, ∀ c ∈ p, c < 1114112) → ∀ c ∈ TL.joinL S ps, c < 1114112
  | [], _ => fun c h => by simp [TL.joinL] at h
  | [p], h => h p (List.mem_singleton.mpr rfl)
  | p :: q :: r, h => fun c hc => by
    simp only [TL.joinL] at hc
    rcases List.mem_append.mp hc with hc | hc
    · exact h p List.mem_cons_self c hc
    · rcases List.mem_append.mp hc with hc | hc
      · exact hS c hc
      · exact okL_join hS (q :: r) (fun z hz => h z (List.mem_cons_of_mem _ hz)) c hc
theorem mt_count1 : MtR X "str.count" (rM κ .count) := by
  intro pins s σ H x xs v us Q I rx rs h
  obtain ⟨f, t, ds, z, rfl, ok, sm, ar, hz, hq⟩ := h
  simp only [mtD] at hz
  unfold cntD at hz
  split at hz <;> try (cases hz; done)
  rename_i c
  obtain ⟨y, rfl, r⟩ := ar.one
  obtain ⟨rfl, _⟩ := rep_str (rep_of sm r)
  cases hz
  refine mt_count pins s σ H _ _ v us Q I rx rs ⟨_, _, rfl, rfl, ?_⟩
  have e : Txt.count ⟨t.toArray⟩ ⟨[c].toArray⟩ = ((t.count c : Nat) : Int) := (count_cnt ⟨t.toArray⟩ c).trans (cnt_nat c t)
  rw [e]
  exact hq _ (.int _)
theorem lens_sum (xs : List (List Nat)) : ((xs.map fun s => (⟨s.toArray⟩ : Str)).map (·.length)).sum = (xs.map List.length).sum := by
  congr 1
  rw [List.map_map]
  apply List.map_congr_left
  intro a _
  simp [Str.length]
theorem mt_join1 (hK : κ.K = X.K) : MtR X "str.join" (rM κ .join) := by
  intro pins s σ H x xs v us Q I rx rs h
  obtain ⟨f, t, ds, z, rfl, ok, sm, ar, hz, hq⟩ := h
  simp only [mtD] at hz
  unfold joinD at hz
  split at hz <;> try (cases hz; done)
  obtain ⟨y, rfl, r⟩ := ar.one
  split at hz
  · rename_i ps e
    split at hz
    · rename_i hl
      cases hz
      obtain ⟨a, ws, rfl, q, rr⟩ := lst_of sm hK r
      rw [allS_eq e] at rr
      obtain ⟨e2, k2⟩ := reps_S rr
      rw [e2] at q
      refine mt_join pins s σ H _ _ v us Q I rx rs ⟨_, a, _, rfl, rfl, .inl q.sq, ?_, ?_⟩
      · rw [lens_sum, List.length_map]
        have : (⟨t.toArray⟩ : Str).length = t.length := by simp [Str.length]
        rw [this]
        exact hl
      · have e3 : Txt.join ⟨t.toArray⟩ (ps.map fun s => (⟨s.toArray⟩ : Str)) = ⟨(TL.joinL t ps).toArray⟩ := by
          refine TL.ext_tl ?_
          rw [TL.join_eq, TL.tl_join]
          show TL.joinL t _ = TL.joinL t ps
          rw [List.map_map]
          congr 1
          exact (List.map_congr_left fun a _ => rfl).trans (List.map_id ps)
        rw [e3]
        exact hq _ (.str _ (okL_join ok ps k2))
    · cases hz
  · cases hz
theorem mtD_flat {b : Mt} {t : List Nat} {ds : List D} {z : D} (h : mtD b t ds = some z) : plainR z := by
  cases b <;> simp only [mtD] at h <;> try (cases h; done)
  · unfold cntD at h
    split at h <;> try (cases h; done)
    cases h
    exact True.intro
  · unfold joinD at h
    split at h
    · split at h
      · split at h
        · cases h
          exact True.intro
        · cases h
      · cases h
    · cases h
theorem snd_m1 {p : Option Nat} {m : Mt} {id : String} {name : Str} {apos : Pos} {a e : E} (slot : Slot "str" name id) (ty : typeOf (.builtin id) = pure (.type "method_descriptor")) (rule : MtR X id (rM κ m)) (ha : PE X a' (tD κ io W (evE T p a))) (he : PE X e' (tD κ io W (evE T p e)))
    (hs : starEach [e'] X.env = [(false, eval e' X.env)]) (hbase : attributeBase a' name X.env (eval a' X.env) = eval a' X.env) (hline : (apos.endLine == pos.line) = true) :
    PE X (.Call (.Attribute a' name apos) [e'] [] pos) (tD κ io W (evE T p (.mth m a [e]))) := by
  refine PE.imp (pe_m1 slot ty rule ha he hs hbase hline) fun σ H Q ⟨δ, τ, s, h⟩ => ?_
  simp only [evE] at h
  refine seqD (ρ := []) h s fun r δ1 v H1 s1 a1 h1 => ?_
  split at h1
  · rename_i t
    obtain ⟨f1, sm1, rp⟩ := s1.top
    obtain ⟨rfl, ok⟩ := rep_str rp
    refine ⟨⟨_, rfl⟩, ?_⟩
    have h2 : post κ io W σ τ (okE κ io σ τ Q) ((evE T p e δ1).bind fun x s2 => match rds s2 [x] with
      | some ds => (match mtD m t ds with
        | some z => .ok (out z) s2
        | none => .bad)
      | none => .bad) := by
      simp only [evEs] at h1
      cases hev : evE T p e δ1 with
      | ok r2 δ2 => rw [hev] at h1; exact h1
      | ex x δ2 => rw [hev] at h1; exact h1
      | bad => rw [hev] at h1; exact h1
    refine seqD (ρ := [ent (.val (.str t)) (.str ⟨t.toArray⟩)]) h2 s1 fun r2 δ2 v2 H2 s2 a2 h3 => ?_
    split at h3
    · rename_i ds hd
      split at h3
      · rename_i z hz
        obtain ⟨f, rf⟩ := s2.rel
        have ar := args_of (rs := [r2]) (vs := [v2]) rf s2 (.cons a2 .nil) (fun e he => by
          simp [ents] at he
          subst he
          exact List.mem_cons_self) hd
        have s3 := s2.tl.tl
        exact ⟨f, t, ds, z, rfl, ok, rf.same, ar, hz, resOk_of s3.len s3.io (rf.sub (List.Sublist.append_left (by simp) _)) (mtD_flat hz) h3⟩
      · exact h3.elim
    · exact h3.elim
  · exact h1.elim
theorem snd_bits {p : Option Nat} {apos : Pos} {a : E} (ha : PE X a' (tD κ io W (evE T p a))) (hbase : attributeBase a' "bit_length" X.env (eval a' X.env) = eval a' X.env) (hline : (apos.endLine == pos.line) = true) :
    PE X (.Call (.Attribute a' "bit_length" apos) [] [] pos) (tD κ io W (evE T p (.bits a))) := by
  refine PE.imp (pe_bits ha hbase hline) fun σ H Q ⟨δ, τ, s, h⟩ => ?_
  simp only [evE] at h
  refine seqD (ρ := []) h s fun r δ1 v H1 s1 a1 h1 => ?_
  split at h1
  · rename_i i
    obtain rfl := s1.topI
    exact ⟨i, rfl, fin_int s1.tl h1⟩
  · exact h1.elim
/-! ## fields -/
theorem fget_zip {f : Hp} {g : Str} {z : D} : ∀ {ns : List Str} {vs : List V} {ds : List D}, Reps κ f vs ds → fgetD g ns ds = some z → ∃ v, (ns.zip vs).lookup g = some v ∧ Rep κ f v z
  | [], _, _, _, h => by simp at h
  | n :: ns, _, [], .nil, h => by simp at h
  | n :: ns, _, d :: ds, .cons (v := v) (vs := vs) r t, h => by
    simp only [fgetD] at h
    by_cases e : n = g
    · subst e
      rw [if_pos rfl] at h
      cases h
      exact ⟨v, by simp, r⟩
    · rw [if_neg e] at h
      obtain ⟨w, h1, h2⟩ := fget_zip t h
      refine ⟨w, ?_, h2⟩
      rw [List.zip_cons_cons, List.lookup_cons]
      have : (g == n) = false := by simpa using fun z => e z.symm
      rw [this]
      exact h1
/-- what is known of each class -/
def ClsOk (κ : Kx) (K : PySem.W.Frag) : Prop := ∀ c, c < κ.n → Cls K (κ.cls c)
def FldOk (κ : Kx) (K : PySem.W.Frag) (g : Str) : Prop := ∀ c, c < κ.n → NoAttr K (κ.cls c) g
theorem obj_of {f : Hp} {v : V} {c : Nat} {ns : List Str} {ds : List D} (sm : Same f H) (q : Rep κ f v (.obj c ns ds) ∨ ∃ a, v = .ref a ∧ f a = none ∧ Own κ f H a (.obj c ns ds)) :
    ∃ a dx vs, v = .ref a ∧ c < κ.n ∧ H a = some (.ins (κ.cls c) dx (ns.zip vs)) ∧ ns.length = vs.length ∧ Reps κ f vs ds := by
  rcases q with q | ⟨a, rfl, _, o⟩
  · cases q with
    | obj c q l r => exact ⟨_, _, _, rfl, c, sm _ _ q, l, r⟩
  · cases o with
    | obj c q l r => exact ⟨_, _, _, rfl, c, q, l, r⟩
theorem snd_att {p : Option Nat} {a : E} {g : Str} (hc : ClsOk κ X.K) (hf : FldOk κ X.K g) (hb : attributeBase a' g X.env (eval a' X.env) = eval a' X.env) (ha : PE X a' (tD κ io W (evE T p a))) : PE X (.Attribute a' g pos) (tD κ io W (evE T p (.att a g))) := by
  refine PE.imp (pe_fld ha hb) fun σ H Q ⟨δ, τ, s, h⟩ => ?_
  simp only [evE] at h
  refine seqD (ρ := []) h s fun r δ1 v H1 s1 a1 h1 => ?_
  split at h1
  · rename_i ns ds hd
    split at h1
    · rename_i z hz
      obtain ⟨f, rf⟩ := s1.rel
      obtain ⟨b, dx, vs, rfl, hlt, hb, hl, rs⟩ := obj_of rf.same (s1.read (by simp [ent]) a1 hd rf)
      obtain ⟨w, hw, q⟩ := fget_zip rs hz
      have s2 := s1.tl
      exact ⟨b, _, dx, _, w, rfl, hb, hc _ hlt, hf _ hlt, hw, fin_rep s2.len s2.io (rf.sub (List.Sublist.append_left (by simp) _)) h1 q⟩
    · exact h1.elim
  · exact h1.elim
/-! ## isinstance -/
def tyU (κ : Kx) : Ty → Value
  | .tint => .type "int"
  | .tbool => .type "bool"
  | .tstr => .type "str"
  | .ttuple => .type "tuple"
  | .tlist => .type "list"
  | .cls c => .ref (κ.cls c)
def tyW (κ : Kx) : Ty → V
  | .tint => .ty "int"
  | .tbool => .ty "bool"
  | .tstr => .ty "str"
  | .ttuple => .ty "tuple"
  | .tlist => .ty "list"
  | .cls c => .ref (κ.cls c)
/-- what is known of a class for isinstance -/
structure InsOk (κ : Kx) (K : PySem.W.Frag) (c : Nat) : Prop where
  cl : Cls K (κ.cls c)
  ha : PySem.W.findIn K (.ref (κ.cls c)) "__class__" = some (some (.builtin "object.__class__"))
  hn : PySem.W.specialIn K (.builtin "object.__class__") "__get__" = some (some (.builtin "getset_descriptor.__get__"))
  htk : PySem.W.takesIn K (.builtin "object.__class__") = some true
  hm : PySem.W.mroIn K (κ.cls c) (.type "object") = some true
def tyB : Ty → List Bool
  | .tint => [false, true, true, false, false, false]
  | .tbool => [false, true, false, false, false, false]
  | .tstr => [false, false, false, true, false, false]
  | .ttuple => [false, false, false, false, true, false]
  | .tlist => [false, false, false, false, false, true]
  | .cls _ => [false, false, false, false, false, false]
def tyC (c : Nat) : Ty → Bool
  | .cls k => c == k
  | _ => false
structure IsiOk (κ : Kx) (K : PySem.W.Frag) (t : Ty) : Prop where
  ins : ∀ c, c < κ.n → InsOk κ K c
  kit : ["NoneType", "bool", "int", "str", "tuple", "list"].map (fun n => PySem.W.kitOne K (.type n) (tyU κ t)) = (tyB t).map some
  own : ∀ c, c < κ.n → PySem.W.kitOne K (.ref (κ.cls c)) (tyU κ t) = some (tyC c t)
theorem isi_use {t : Ty} {d : D} {b : Bool} {f : Hp} {v : V} (hK : κ.K = X.K) (ok : IsiOk κ X.K t) (sm : Same f H) (r : Rd1 κ f H v d) (h : isiD d t = some b) : ∃ ty, TyX X.K H v ty ∧ PySem.W.kitOne X.K ty (tyU κ t) = some b := by
  have k := ok.kit
  simp only [List.map_cons, List.map_nil] at k
  have r0 := rep_of sm r
  cases d with
  | non =>
    cases r0
    refine ⟨_, .base .non, ?_⟩
    cases t <;> (simp only [isiD, Option.some.injEq] at h; subst h; simp [tyB] at k; exact k.1)
  | bl x =>
    cases r0
    refine ⟨_, .base (.bl x), ?_⟩
    cases t <;> (simp only [isiD, Option.some.injEq] at h; subst h; simp [tyB] at k; exact k.2.1)
  | int x =>
    cases r0
    refine ⟨_, .base (.int x), ?_⟩
    cases t <;> (simp only [isiD, Option.some.injEq] at h; subst h; simp [tyB] at k; exact k.2.2.1)
  | str x =>
    cases r0
    refine ⟨_, .base (.str _), ?_⟩
    cases t <;> (simp only [isiD, Option.some.injEq] at h; subst h; simp [tyB] at k; exact k.2.2.2.1)
  | tup ds =>
    have e : PySem.W.kitOne X.K (.type "tuple") (tyU κ t) = some b := by
      cases t <;> (simp only [isiD, Option.some.injEq] at h; subst h; simp [tyB] at k; exact k.2.2.2.2.1)
    obtain ⟨a, vs, rfl, q, _⟩ := tup_of sm hK r
    rcases q with (q | ⟨o, q⟩) | ⟨o, its, n, q, c, _⟩
    · exact ⟨_, .base (.tup q), e⟩
    · exact ⟨_, .fTuple q, e⟩
    · exact ⟨_, .kTuple q c, e⟩
  | lst ds =>
    have e : PySem.W.kitOne X.K (.type "list") (tyU κ t) = some b := by
      cases t <;> (simp only [isiD, Option.some.injEq] at h; subst h; simp [tyB] at k; exact k.2.2.2.2.2)
    obtain ⟨a, vs, rfl, q, _⟩ := lst_of sm hK r
    rcases q with (q | ⟨o, q⟩) | ⟨its, n, q, c⟩
    · exact ⟨_, .base (.lst q), e⟩
    · exact ⟨_, .base (.frz q), e⟩
    · exact ⟨_, .kList q rfl, e⟩
  | obj c ns ds =>
    obtain ⟨a, dx, vs, rfl, hlt, hb, hl, rs⟩ := obj_of sm r
    have i := ok.ins c hlt
    refine ⟨_, .base (.ins hb i.cl i.ha i.hn i.htk i.hm), ?_⟩
    rw [ok.own c hlt]
    cases t <;> (simp only [isiD, Option.some.injEq] at h; subst h; rfl)
  | dct _ _ => cases t <;> simp [isiD] at h
  | exc _ _ _ => cases t <;> simp [isiD] at h
theorem snd_isi {p : Option Nat} {a : E} {t : Ty} {q : Pos} {x : Str} (hx : x = "isinstance") (hK : κ.K = X.K) (ok : IsiOk κ X.K t) (hg : Gl X x) (hm : X.mg x = none) (ha : PE X a' (tD κ io W (evE T p a))) (ht : PE X b' (tC (tyW κ t)))
    (hs : starEach [a', b'] X.env = (false, eval a' X.env) :: starEach [b'] X.env) (hs2 : starEach [b'] X.env = (false, eval b' X.env) :: starEach [] X.env) (hpl : (backTo pos (starEach [b'] X.env)).any (·.1) = false) :
    PE X (.Call (.Name x q) [a', b'] [] pos) (tD κ io W (evE T p (.isi a t))) := by
  subst hx
  refine PE.imp (pe_callB call_isi hg hm (by rfl) (pa_cons ha (pa_cons ht pa_nil hs2) hs) (by decide) (by decide) hs hpl) fun σ H Q ⟨δ, τ, s, h⟩ => ?_
  simp only [evE] at h
  refine seqD (ρ := []) h s fun r δ1 v H1 s1 a1 h1 => ?_
  split at h1
  · rename_i d hd
    split at h1
    · rename_i k hk
      obtain ⟨f, rf⟩ := s1.rel
      obtain ⟨ty, h2, h3⟩ := isi_use hK ok rf.same (s1.read (by simp [ent]) a1 hd rf) hk
      refine ⟨v, tyW κ t, ty, tyU κ t, k, rfl, ?_, h2, h3, fin_bl s1.tl h1⟩
      cases t <;> constructor
    · exact h1.elim
  · exact h1.elim
end
end PyV
set_option Elab.async false
set_option linter.all false
set_option maxRecDepth 100000
set_option maxHeartbeats 2000000
namespace PyV
open PySem PySem.Spec PyProof.Rows L2

/-! ## what a def promises (no guard round it) -/
structure Fg (P : Program) (w : World) (K : PySem.W.Frag) (mg : Str → Option Value) (base : Heap) (k : Nat) (f : Addr) (fd : FuncData) (ps : List Str) (sp : Sp) : Prop where
  len : ∀ vs H Q E, sp vs H Q E → vs.length = ps.length
  go : ∀ (A : Around) (outer : List Env) (s : Shared) (H : Hp) (ar : PySem.Args) (us : List Value) (vs : List V) (Q : VK) (E : XK), Room k A → A.guards = some [] → Env0 P w K mg base A outer s H →
    BindsTo s fd ar (ps.zip us) → Vals vs us → sp vs H Q E → codeAny (model P w) A (.call (.ref f) ar) (CR (L2.CX P w) outer P w H s Q E) s

section
variable {X : Cx} {W : WX} {k : Nat} {f C : Addr} {fd : FuncData} {ps : List Str} {sp : Sp} {x : Str} {p pos apos : Pos} {e o : Expr} {es : List Expr} {ta : TE} {t : TA}
variable {pins : List (Addr × Obj)} {σ : L2.St} {H : Hp} {s : Shared} {Q : VK} {us : List Value} {vs : List V}
/-- how a callee's end is taken -/
theorem ends_call (tk : Takes X W) (I : Inv X pins σ H s) {r : Result} {s' : Shared} (h : CR (L2.CX X.prog X.w) X.stack X.prog X.w H s Q (fun c d H' => W c d σ H') r s') :
    match r with
    | .ok (.ret u) => EP X pins σ Q u s'
    | .ok _ => False
    | .error er => X.xe er s' := by
  cases r with
  | error er => exact tk er s' (XE.of_call I (fun _ _ _ q => q) h)
  | ok fl =>
    cases fl with
    | ret u => exact I.after h
    | next => exact h
    | brk => exact h
    | cont => exact h
theorem go_call (F : Fg X.prog X.w X.K X.mg X.base k f fd ps sp) (hr : Room k X.A) (hg : X.A.guards = some []) (hb : Binds X.K fd ps []) (tk : Takes X W) (I : Inv X pins σ H s) (r : Vals vs us)
    (h : sp vs H Q fun c d H' => W c d σ H') : wpAny (model X.prog X.w) X.A (call (.ref f) us) (EP X pins σ Q) X.xe s := by
  have hl : us.length = ps.length := by
    rw [← r.length]
    exact F.len _ _ _ _ h
  have b := hb s us I.kIn (by rw [List.append_nil]; exact hl)
  rw [List.append_nil] at b
  refine wpAny_call (codeAny_mono (F.go X.A X.stack s H ⟨us, []⟩ us vs Q _ hr hg I.env0 b r h) fun rr s' q => ?_)
  have q2 := ends_call tk I q
  rcases rr with er | fl
  · exact q2
  · cases fl <;> first | exact q2 | exact False.elim q2
/-- f(e, ..): the promise at the arguments -/
def tG (sp : Sp) (W : WX) (t : TA) : TE := fun σ H Q => t σ H fun vs H1 => sp vs H1 Q fun c d H' => W c d σ H'
theorem pe_g (F : Fg X.prog X.w X.K X.mg X.base k f fd ps sp) (hr : Room k X.A) (hu : X.A.guards = some []) (hg : Gl X x) (hm : X.mg x = some (.ref f)) (hk : PySem.W.keepIn X.K (.ref f) = true) (hb : Binds X.K fd ps []) (tk : Takes X W)
    (ha : PA X es t) (hdb : (x == ("__debug__" : Str)) = false) (he : ∀ e r, es = e :: r → starEach es X.env = (false, eval e X.env) :: starEach r X.env) (hpl : ∀ e r, es = e :: r → (backTo pos (starEach r X.env)).any (·.1) = false)
    (hn : es = [] → ∀ (σ : L2.St) (H : Hp) (Q : List V → Hp → Prop), t σ H Q → Q [] H) :
    PE X (.Call (.Name x p) es [] pos) (tG sp W t) := by
  cases es with
  | nil =>
    refine ⟨fun pins s σ H Q I h => wpAny_Call_Name_kw (ld_glob I hg hm (PySem.W.callWith_K0 I.kIn hk ?_) hdb)⟩
    exact go_call F hr hu hb tk I .nil (hn rfl _ _ _ h)
  | cons e r =>
    refine ⟨fun pins s σ H Q I h => wpAny_Call_Name_kw (ld_glob I hg hm ?_ hdb)⟩
    refine PySem.W.callWith_K (h₀ := X.base) I.ok.mod.kin hk ?_ (he e r rfl) (hpl e r rfl)
    exact thn (ha.run pos pins s σ H _ I h) fun us s1 ⟨vs, H1, I1, rv, q⟩ => ⟨I1.kIn, go_call F hr hu hb tk I1 rv q⟩
/-- C(e, ..): a new one, its __init__ -/
def tN (C : Addr) (sp : Sp) (W : WX) (t : TA) : TE := fun σ H Q => t σ H fun vs H1 => ∀ y dx, H1 y = none → H1 dx = none → dx ≠ y →
  sp (.ref y :: vs) (upd (upd H1 dx (.own y)) y (.ins C dx [])) (fun v H2 => v = .non ∧ Q (.ref y) H2) fun c d H' => W c d σ H'
theorem go_make (M : Mk X.K C f) (F : Fg X.prog X.w X.K X.mg X.base k f fd ps sp) (hr : Room (k + 1) X.A) (hg : X.A.guards = some []) (hb : Binds X.K fd ps []) (tk : Takes X W) (I : Inv X pins σ H s) (r : Vals vs us)
    (h : ∀ y dx, H y = none → H dx = none → dx ≠ y → sp (.ref y :: vs) (upd (upd H dx (.own y)) y (.ins C dx [])) (fun v H2 => v = .non ∧ Q (.ref y) H2) fun c d H' => W c d σ H') :
    wpAny (model X.prog X.w) X.A (call (.ref C) us) (EP X pins σ Q) X.xe s := by
  generalize hz : s.heap.objs.size = z at *
  have q := h (z + 1) z (by rw [← hz]; exact I.hok.fresh (Nat.le_succ _)) (by rw [← hz]; exact I.hok.fresh (Nat.le_refl _)) (Nat.ne_of_lt (Nat.lt_succ_self _))
  have J := Inv.made (C := C) I
  rw [hz] at J
  have rv : Vals (V.ref (z + 1) :: vs) (Value.ref (z + 1) :: us) := .cons rfl r
  have hl : (Value.ref (z + 1) :: us).length = ps.length := by
    rw [← rv.length]
    exact F.len _ _ _ _ q
  have b := hb _ (Value.ref (z + 1) :: us) J.kIn (by rw [List.append_nil]; exact hl)
  rw [List.append_nil] at b
  refine wpAny_call (make_map (f := f) I.kIn M.makes M.init (beq_iff_eq.mp M.fn) ?_)
  rw [hz]
  refine codeAny_mono (F.go (X.A.under (.builtin "type.__call__" ⟨.ref C :: us, []⟩)) X.stack _ _ _ _ _ _ _ (hr.make C us []) hg (J.env0.make C us []) b rv q) fun rr s' q2 => ?_
  have q3 := ends_call tk J q2
  rcases rr with er | fl
  · exact q3
  · cases fl with
    | ret u =>
      obtain ⟨v, H', J2, rv2, ev, q4⟩ := q3
      subst ev
      exact ⟨rv2, ⟨V.ref (z + 1), H', J2, rfl, q4⟩⟩
    | next => exact False.elim q3
    | brk => exact False.elim q3
    | cont => exact False.elim q3
theorem pe_n (M : Mk X.K C f) (F : Fg X.prog X.w X.K X.mg X.base k f fd ps sp) (hr : Room (k + 1) X.A) (hu : X.A.guards = some []) (hg : Gl X x) (hm : X.mg x = some (.ref C)) (hb : Binds X.K fd ps []) (tk : Takes X W)
    (ha : PA X es t) (hdb : (x == ("__debug__" : Str)) = false) (he : ∀ e r, es = e :: r → starEach es X.env = (false, eval e X.env) :: starEach r X.env) (hpl : ∀ e r, es = e :: r → (backTo pos (starEach r X.env)).any (·.1) = false)
    (hn : es = [] → ∀ (σ : L2.St) (H : Hp) (Q : List V → Hp → Prop), t σ H Q → Q [] H) :
    PE X (.Call (.Name x p) es [] pos) (tN C sp W t) := by
  cases es with
  | nil =>
    refine ⟨fun pins s σ H Q I h => wpAny_Call_Name_kw (ld_glob I hg hm (PySem.W.callWith_K0 I.kIn M.kp ?_) hdb)⟩
    exact go_make M F hr hu hb tk I .nil (hn rfl _ _ _ h)
  | cons e r =>
    refine ⟨fun pins s σ H Q I h => wpAny_Call_Name_kw (ld_glob I hg hm ?_ hdb)⟩
    refine PySem.W.callWith_K (h₀ := X.base) I.ok.mod.kin M.kp ?_ (he e r rfl) (hpl e r rfl)
    exact thn (ha.run pos pins s σ H _ I h) fun us s1 ⟨vs, H1, I1, rv, q⟩ => ⟨I1.kIn, go_make M F hr hu hb tk I1 rv q⟩
/-- e.g, a property of one of the classes that Cs names: its getter's promise -/
def tR (Cs : Addr → Prop) (sp : Sp) (ta : TE) : TE := fun σ H Q => ta σ H fun x H1 => ∃ a C dx fs, x = .ref a ∧ Cs C ∧ H1 a = some (.ins C dx fs) ∧ sp [.ref a] H1 Q fun _ _ _ => False
theorem go_prop {g pr : Addr} {name : Str} {a dx : Addr} {fs : List (Str × V)} {b : Bool} {E' : Value → Shared → Prop} (I : Inv X pins σ H s) (ea : H a = some (.ins C dx fs)) (c : Cls X.K C) (hp : PropOf X.K C name pr g)
    (F : Fg X.prog X.w X.K X.mg X.base k g fd ps sp) (hr : Room (k + 1) X.A) (hg : X.A.guards = some []) (hb : Binds X.K fd ps []) (h : sp [.ref a] H Q fun _ _ _ => False) :
    wpAny (model X.prog X.w) X.A (getAttr (.ref a) name b) (EP X pins σ Q) E' s := by
  obtain ⟨mA, O, _, _, _, _⟩ := ins_get I.hok ea
  obtain ⟨od, J, _⟩ := O.look
  obtain ⟨rest, hrec⟩ := hp.rec_
  have I1 := I.tok (s.toks + 1)
  have hl : ([Value.ref a] ++ ([] : List Value)).length = ps.length := (F.len _ _ _ _ h).symm ▸ rfl
  have hc : (PySem.W.clsIn X.K C).isSome = true := by
    obtain ⟨cd, hc, _⟩ := PySem.W.any_some c.hd
    simp [hc]
  have bd := hb { s with toks := s.toks + 1 } [.ref a] I1.kIn hl
  rw [List.append_nil] at bd
  have pg := PySem.W.plainGet_of (c.get name)
  refine PySem.W.get_bind I.kIn J pg.1 (PySem.W.findObj_data hc hp.at_ hp.get hp.tak) pg.2 (wpAny_call (PySem.W.prop_get (s := { s with toks := s.toks + 1 }) I.kIn hrec ?_))
  refine codeAny_mono (F.go X.A.in1 X.stack _ H ⟨[.ref a], []⟩ [.ref a] [.ref a] Q (fun _ _ _ => False) hr.in1 hg I1.env0.in1 bd (.cons rfl .nil) h) fun rr s' q => ?_
  rcases rr with er | fl
  · obtain ⟨_, _, _, _, _, _, _, _, _, _, _, _, no⟩ := q
    exact no.elim
  · cases fl with
    | ret u =>
      obtain ⟨v, H', I3, rv, q3⟩ := I1.after q
      show wpAny _ _ (handedOut u) _ _ _
      rw [PySem.W.handedOut_of (handed_of rv)]
      exact wpAny_pure ⟨v, H', I3, rv, q3⟩
    | next => exact False.elim q
    | brk => exact False.elim q
    | cont => exact False.elim q
theorem pe_r {Cs : Addr → Prop} {g pr : Addr} {name : Str} (he : PE X e ta) (hc : ∀ C, Cs C → Cls X.K C ∧ PropOf X.K C name pr g) (F : Fg X.prog X.w X.K X.mg X.base k g fd ps sp) (hr : Room (k + 1) X.A) (hu : X.A.guards = some []) (hb : Binds X.K fd ps [])
    (hab : attributeBase e name X.env (eval e X.env) = eval e X.env) : PE X (.Attribute e name pos) (tR Cs sp ta) := by
  refine ⟨fun pins s σ H Q I h => attr_of hab (thn (he.run pins s σ H _ I h) fun u s1 ⟨x, H1, I1, rx, a, C, dx, fs, ex, hC, ea, q⟩ => ?_)⟩
  subst ex
  cases rx
  exact go_prop I1 ea (hc C hC).1 (hc C hC).2 F hr hu hb q
/-- o.m(e, ..), m a method of one of the classes that Cs names -/
def tU (Cs : Addr → Prop) (m : Str) (sp : Sp) (W : WX) (ta : TE) (t : TA) : TE := fun σ H Q => ta σ H fun x H1 => ∃ a C dx fs, x = .ref a ∧ Cs C ∧ H1 a = some (.ins C dx fs) ∧ fs.lookup m = none ∧
  t σ H1 fun vs H2 => sp (x :: vs) H2 Q fun c d H' => W c d σ H'
theorem pe_u {Cs : Addr → Prop} {m : Str} {pl : Sem Bool} (he : PE X o ta) (hc : ∀ C, Cs C → Cls X.K C ∧ Meth X.K C m f) (F : Fg X.prog X.w X.K X.mg X.base k f fd ps sp) (hr : Room k X.A) (hu : X.A.guards = some []) (hb : Binds X.K fd ps []) (tk : Takes X W)
    (hk : PySem.W.keepIn X.K (.ref f) = true) (ha : PA X es t) (hst : ∀ e r, es = e :: r → starEach es X.env = (false, eval e X.env) :: starEach r X.env) (hpl : ∀ e r, es = e :: r → (backTo pos (starEach r X.env)).any (·.1) = false)
    (hn : es = [] → ∀ (σ : L2.St) (H : Hp) (Q : List V → Hp → Prop), t σ H Q → Q [] H)
    (ht : eval (.Call (.Attribute o m apos) es [] pos) X.env = (do
      let ov ← eval o X.env
      standAt apos.atName
      let (f, first) ← holding [ov] (getMethod ov m pl)
      callWith pos f first (backTo pos (starEach es X.env)) (backToKw pos (keywordEach [] X.env)))) :
    PE X (.Call (.Attribute o m apos) es [] pos) (tU Cs m sp W ta t) := by
  refine ⟨fun pins s σ H Q I h => PySem.W.methodCall_KW (pl := pl) (thn (he.run pins s σ H _ I h) fun u s1 ⟨x, H1, I1, rx, a, C, dx, fs, ex, hC, ea, l, q⟩ => ?_) ht⟩
  subst ex
  cases rx
  refine getmeth_ok I1 ea (hc C hC).1 (hc C hC).2 l ?_
  cases es with
  | nil => exact PySem.W.callWith_K0 (first := [.ref a]) I1.kIn hk (go_call (us := [.ref a]) (vs := [.ref a]) F hr hu hb tk I1 (.cons rfl .nil) (hn rfl _ _ _ q))
  | cons e r =>
    refine PySem.W.callWith_K (first := [.ref a]) (h₀ := X.base) I.ok.mod.kin hk ?_ (hst e r rfl) (hpl e r rfl)
    exact thn (ha.run pos pins s1 σ H1 _ I1 q) fun us s2 ⟨vs, H2, I2, rv, q2⟩ => ⟨I2.kIn, go_call (us := .ref a :: us) (vs := .ref a :: vs) F hr hu hb tk I2 (.cons rfl rv) q2⟩
end
end PyV
set_option Elab.async false
set_option linter.all false
set_option maxRecDepth 100000
set_option maxHeartbeats 2000000
namespace PyV
open PySem PySem.Spec PyProof.Rows L2

/-! ## a def of the text, by its body -/
theorem go_fn {P : Program} {w : World} {K : PySem.W.Frag} {mg : Str → Option Value} {base : Heap} {k : Nat} {f : Addr} {name qual : Str} {params : Arguments} {body : List Stmt} {scope : Scope} {dV kV doc pm cdv ct oc : Value} {an od : Option Addr}
    {osl : Array (Option Value)} {N ps : List Str} {sp : Sp} (lk : K.lookup f = some ⟨oc, od, .func (PySem.W.fnOf name qual params body scope dV kV doc pm an cdv ct), osl⟩) (hcd : PySem.W.codeIn K cdv qual = true) (S : FnScope N ps scope)
    (len : ∀ vs H Q E, sp vs H Q E → vs.length = ps.length)
    (hbody : ∀ (A : Around) (outer : List Env) (s : Shared) (H : Hp) (vs : List V) (Q : VK) (E : XK), Room k (A.deeper (envOfC qual scope s.heap.objs.size f cdv)) → A.guards = some [] → sp vs H Q E →
      ∃ t, PSs (cxOf (L2.CX P w) P w K mg base N qual scope f cdv A outer s H E) body t ∧ t { nx := fun _ H' => Q .non H', rt := Q } (L2.start N vs) H) :
    Fg P w K mg base (k + 1) f (PySem.W.fnOf name qual params body scope dV kV doc pm an cdv ct) ps sp := by
  refine ⟨len, fun A outer s H ar us vs Q E room gd e0 bt rv h => ?_⟩
  have hl := len vs H Q E h
  have inK : K.In s.heap := e0.mod.kin.keeps fun b o q => (e0.bs b o q).1
  have roomy : s.heap.NoLimit := e0.mod.nolimit.keeps fun b o q => (e0.bs b o q).1
  refine codeAny_call_function room.depth (inK f _ lk) rfl S.co S.gen rfl (PySem.W.codeRec_of inK hcd) (bt _ _ _ _ ?_)
  have kinds : ∀ y ∈ ps.zip us, scope.names.lookup y.1 = some .local ∨ (scope.names.lookup y.1 = some .cell ∧ ((cellsFrom (s.heap.objs.size + 1) scope.names []).lookup y.1).isSome = true) := by
    intro y hy
    rcases S.par y.1 (List.of_mem_zip hy).1 with q | q
    · exact .inl q
    · exact .inr ⟨q, PySem.W.cellsFrom_some _ _ _ (.inl q)⟩
  refine wpAny_newFunctionEnv_cells S.kind kinds fun env he s1 x => ?_
  subst he
  refine ⟨roomy.keeps x.toInCall.keep, codeAny_func ?_⟩
  obtain ⟨t, ht, hq⟩ := hbody A outer s H vs Q E (room.deeper _) gd h
  have I := inv_start (CX := L2.CX P w) (N := N) (qual := qual) (f := f) (cd := cdv) (E := E) S room.hd e0 hl rv x
  have back : ∀ {σ1 : L2.St} {H1 : Hp} {s2 : Shared} {v : V} {u : Value}, Inv (cxOf (L2.CX P w) P w K mg base N qual scope f cdv A outer s H E) [] σ1 H1 s2 → RelV v u → Q v H1 → CE outer P w H s Q u s2 := fun J r q =>
    ⟨_, _, J.os, J.bare, J.base, J.hok, r, q⟩
  refine wpAny_mono (ht.run [] s1 (L2.start N vs) H _ I hq) (fun fl s2 q => ?_) fun _ _ q => q
  match fl, q with
  | .next, ⟨σ1, H1, J, q⟩ => exact back (v := V.non) (u := Value.none) J rfl q
  | .ret u, ⟨v, σ1, H1, J, r, q⟩ => exact back J r q
  | .brk, ⟨_, _, _, q⟩ => exact q.elim
  | .cont, ⟨_, _, _, q⟩ => exact q.elim

/-! ## the promise, by the interpreter -/
def argE : Option Nat → List V → List D → List En
  | none, v :: vs, d :: ds => (some v, .val d) :: argE none vs ds
  | some 0, v :: vs, d :: ds => (some v, .own d) :: argE none vs ds
  | some (k + 1), v :: vs, d :: ds => (some v, .val d) :: argE (some k) vs ds
  | _, _, _ => []
def outE (p : Option Nat) (vs : List V) (o : Option D) : List En := match p, o with
  | some j, some d => [(vs[j]?, .own d)]
  | _, _ => []
def finD (κ : Kx) (p : Option Nat) (vs : List V) (τ : List En) (Q : VK) (E : XK) : FR → Prop
  | .ok d fr o => o.isSome = p.isSome ∧ ∀ v H, Rel κ H ((some v, slotOf (mkv d fr)) :: (outE p vs o ++ τ)) → Q v H
  | .ex x o => o.isSome = p.isSome ∧ ∀ cls d H, Rel κ H (outE p vs o ++ τ) → ExR κ cls x → E cls d H
  | .bad => False
def spD (κ : Kx) (T : Tab) (f : Nat) : Sp := fun vs H Q E => ∃ (ds : List D) (τ : List En), Rel κ H (argE (T.io f) vs ds ++ τ) ∧ vs.length = ds.length ∧ finD κ (T.io f) vs τ Q E (T.G f ds)

section
variable {κ : Kx} {io : Option (Nat × V)} {W : WX} {σ : L2.St} {f H : Hp} {δ δ' : Ss} {τ τ' ρ : List En} {Q : VK} {T : Tab}
theorem argE_zip : ∀ {p : Option Nat} {vs : List V} {ds : List D}, vs.length = ds.length → (vs.map some).zip (start0 p ds) = argE p vs ds
  | none, [], [], _ => rfl
  | some 0, [], [], _ => rfl
  | some (_ + 1), [], [], _ => rfl
  | _, [], _ :: _, h => by simp at h
  | _, _ :: _, [], h => by simp at h
  | none, v :: vs, d :: ds, h => by
    simp only [start0, List.map_cons, List.zip_cons_cons, argE]
    rw [argE_zip (by simpa using h)]
  | some 0, v :: vs, d :: ds, h => by
    simp only [start0, List.map_cons, List.zip_cons_cons, argE]
    rw [argE_zip (by simpa using h)]
  | some (_ + 1), v :: vs, d :: ds, h => by
    simp only [start0, List.map_cons, List.zip_cons_cons, argE]
    rw [argE_zip (by simpa using h)]
theorem start0_len : ∀ {p : Option Nat} {ds : List D}, (start0 p ds).length = ds.length
  | none, [] => rfl
  | some 0, [] => rfl
  | some (_ + 1), [] => rfl
  | none, d :: ds => by simp only [start0, List.length_cons, start0_len]
  | some 0, d :: ds => by simp only [start0, List.length_cons, start0_len]
  | some (_ + 1), d :: ds => by simp only [start0, List.length_cons, start0_len]
theorem Rel.emps {L : List En} (r : Rel κ H L) : ∀ k : Nat, Rel κ H (List.replicate k (none, .emp) ++ L)
  | 0 => r
  | k + 1 => by
    rw [List.replicate_succ, List.cons_append]
    exact Rel.emp (Rel.emps r k)
/-- at a def's entry -/
theorem SR.entry {p : Option Nat} {N : List Str} {vs : List V} {ds : List D} {np ns : Nat} (hl : vs.length = ds.length) (hnp : ds.length = np) (hns : N.length = ns) (hle : np ≤ ns) (hp : ∀ j, p = some j → j < np) (r : Rel κ H (argE p vs ds ++ τ)) :
    SR κ (p.bind fun j => (vs[j]?).map fun v => (j, v)) (L2.start N vs) H (start0 p ds ++ List.replicate (ns - np) .emp) τ := by
  have e1 : N.length - vs.length = ns - np := by omega
  refine ⟨?_, ?_, fun j v h => ?_⟩
  · unfold L2.start
    rw [List.length_append, List.length_append, List.length_map, List.length_replicate, List.length_replicate, start0_len]
    omega
  · unfold L2.start
    rw [e1, List.zip_append (by rw [List.length_map, start0_len, hl]), argE_zip hl]
    have e2 : (List.replicate (ns - np) (none : Option V)).zip (List.replicate (ns - np) Sl.emp) = List.replicate (ns - np) (none, Sl.emp) := by
      generalize ns - np = k
      induction k with
      | zero => rfl
      | succ k ih => rw [List.replicate_succ, List.replicate_succ, List.zip_cons_cons, ih]; rfl
    rw [e2]
    refine (Rel.emps r (ns - np)).perm ?_
    rw [List.append_assoc]
    exact (List.perm_append_comm_assoc ..)
  · cases p with
    | none => simp at h
    | some i =>
      simp only [Option.bind_some] at h
      obtain ⟨w, hw, e⟩ := Option.map_eq_some_iff.mp h
      cases e
      unfold L2.start
      have hi : j < vs.length := by have := hp j rfl; omega
      rw [List.getElem?_append_left (by simpa using hi), List.getElem?_map, hw]
      rfl
/-- at a def's end -/
theorem SR.leave {p : Option Nat} {vs : List V} {o : Option D} (hp : ∀ j, p = some j → j < vs.length) (s : SR κ (p.bind fun j => (vs[j]?).map fun v => (j, v)) σ H δ τ) (h : lent p δ = some o) : o.isSome = p.isSome ∧ Rel κ H (outE p vs o ++ τ) := by
  cases p with
  | none =>
    simp only [lent, Option.some.injEq] at h
    subst h
    exact ⟨rfl, s.rel.sub (List.sublist_append_right ..)⟩
  | some j =>
    simp only [lent] at h
    split at h
    · rename_i d hd
      cases h
      refine ⟨rfl, ?_⟩
      have hj := hp j rfl
      have e : σ[j]? = some (some vs[j]) := s.io j _ (by simp [hj])
      have hlt : j < δ.length := by
        rw [← s.len]
        exact (List.getElem?_eq_some_iff.mp e).1
      obtain ⟨L, p1, _, _⟩ := zip_split s.len hlt ([] : List En)
      have e1 : ((σ[j]?).getD none, δ.getD j .emp) = (vs[j]?, .own d) := by
        rw [e, List.getElem?_eq_getElem hj]
        exact congrArg (Prod.mk (some vs[j])) hd
      rw [e1, List.append_nil] at p1
      show Rel κ H ([(vs[j]?, .own d)] ++ τ)
      refine (s.rel.perm (p1.append_right τ)).sub ?_
      show List.Sublist ((vs[j]?, Sl.own d) :: τ) ((vs[j]?, Sl.own d) :: (L ++ τ))
      exact (List.sublist_append_right L τ).cons₂ _
    · cases h

/-! ## statements -/
def postS (κ : Kx) (io : Option (Nat × V)) (W : WX) (τ : List En) (D : Ends) : R Fl → Prop
  | .ok .nx δ => ∀ σ H, SR κ io σ H δ τ → D.nx σ H
  | .ok .bk δ => ∀ σ H, SR κ io σ H δ τ → D.bk σ H
  | .ok .ct δ => ∀ σ H, SR κ io σ H δ τ → D.ct σ H
  | .ok (.rt d fr) δ => ∀ v σ H, SR κ io σ H δ ((some v, slotOf (mkv d fr)) :: τ) → D.rt v H
  | .ex x δ => ∀ cls d σ H, SR κ io σ H δ τ → ExR κ cls x → W cls d σ H
  | .bad => False
def tDS (κ : Kx) (io : Option (Nat × V)) (W : WX) (den : Ss → R Fl) : TS := fun D σ H => ∃ δ τ, SR κ io σ H δ τ ∧ postS κ io W τ D (den δ)
theorem fn_D {P : Program} {w : World} {K : PySem.W.Frag} {mg : Str → Option Value} {base : Heap} {k : Nat} {fa : Addr} {name qual : Str} {params : Arguments} {body : List Stmt} {scope : Scope} {dV kV doc pm cdv ct oc : Value} {an od : Option Addr}
    {osl : Array (Option Value)} {N ps : List Str} {f : Nat} {df : Df} (lk : K.lookup fa = some ⟨oc, od, .func (PySem.W.fnOf name qual params body scope dV kV doc pm an cdv ct), osl⟩) (hcd : PySem.W.codeIn K cdv qual = true) (S : FnScope N ps scope)
    (hnp : ps.length = df.np) (hns : N.length = df.ns) (hp : ∀ j, T.io f = some j → j < df.np) (hG : ∀ ds, T.G f ds ≠ .bad → ∃ n, runD T (T.io f) n df ds = T.G f ds)
    (hbody : ∀ (A : Around) (outer : List Env) (s : Shared) (H : Hp) (E : XK) (io : Option (Nat × V)) (n : Nat), Room k (A.deeper (envOfC qual scope s.heap.objs.size fa cdv)) → A.guards = some [] → (∀ j, T.io f = some j ↔ ∃ v, io = some (j, v)) →
      PSs (cxOf (L2.CX P w) P w K mg base N qual scope fa cdv A outer s H E) body (tDS κ io (fun cls d _ H => E cls d H) (evB T (T.io f) n df.body))) :
    Fg P w K mg base (k + 1) fa (PySem.W.fnOf name qual params body scope dV kV doc pm an cdv ct) ps (spD κ T f) := by
  have hle : df.np ≤ df.ns := by
    have e := congrArg List.length S.pre
    rw [List.length_take] at e
    omega
  have nb : ∀ {vs : List V} {τ : List En} {Q : VK} {E : XK} {r : FR}, finD κ (T.io f) vs τ Q E r → r ≠ .bad := fun h e => by rw [e] at h; exact h
  have run : ∀ ds, T.G f ds ≠ .bad → ∃ n, runD T (T.io f) n df ds = T.G f ds ∧ ds.length = df.np := fun ds h => by
    obtain ⟨n, hn⟩ := hG ds h
    refine ⟨n, hn, ?_⟩
    unfold runD at hn
    split at hn
    · assumption
    · exact absurd hn.symm h
  refine go_fn lk hcd S (fun vs H Q E ⟨ds, τ, _, hl, h⟩ => ?_) fun A outer s H vs Q E room gd ⟨ds, τ, r, hl, h⟩ => ?_
  · obtain ⟨n, _, e⟩ := run ds (nb h)
    rw [hl, e, hnp]
  · obtain ⟨n, hn, e⟩ := run ds (nb h)
    have hpv : ∀ j, T.io f = some j → j < vs.length := fun j hj => by have := hp j hj; omega
    refine ⟨_, hbody A outer s H E ((T.io f).bind fun j => (vs[j]?).map fun v => (j, v)) n room gd (fun j => ⟨fun hj => ?_, fun ⟨v, hv⟩ => ?_⟩), _, τ, SR.entry hl e hns hle hp r, ?_⟩
    · rw [hj]
      exact ⟨vs[j]'(hpv j hj), by simp [hpv j hj]⟩
    · obtain ⟨i, hi, hv⟩ := Option.bind_eq_some_iff.mp hv
      obtain ⟨u, _, e2⟩ := Option.map_eq_some_iff.mp hv
      cases e2
      exact hi
    · rw [← hn] at h
      unfold runD at h
      rw [if_pos e] at h
      generalize hr : evB T (T.io f) n df.body (start0 (T.io f) ds ++ List.replicate (df.ns - df.np) .emp) = z at h ⊢
      cases z with
      | bad => exact h.elim
      | ex x δ =>
        simp only at h
        split at h
        · rename_i o ho
          exact fun cls d σ H' s hx => h.2 cls d H' (s.leave hpv ho).2 hx
        · exact h.elim
      | ok fl δ =>
        cases fl with
        | nx =>
          simp only at h
          split at h
          · rename_i o ho
            refine fun σ H' s => h.2 .non H' ?_
            exact (s.leave hpv ho).2.scal fun g => .non
          · exact h.elim
        | rt d fr =>
          simp only at h
          split at h
          · rename_i o ho
            refine fun v σ H' s => h.2 v H' ?_
            refine (SR.leave (τ := (some v, slotOf (mkv d fr)) :: τ) hpv s ho).2.perm ?_
            exact List.perm_middle
          · exact h.elim
        | bk => exact h.elim
        | ct => exact h.elim
end
end PyV
set_option Elab.async false
set_option linter.all false
set_option maxRecDepth 100000
set_option maxHeartbeats 2000000
namespace PyV
open PySem PySem.Spec PyProof.Rows L2

section
variable {κ : Kx} {io : Option (Nat × V)} {W : WX} {σ : L2.St} {f H : Hp} {δ δ' : Ss} {τ τ' ρ : List En} {Q : VK} {T : Tab} {X : Cx} {a' b' e' : Expr} {es' : List Expr} {pos : Pos}
/-! ## arguments on their way -/
def keepE : Option Nat → List Rv → List V → List D → List En
  | none, _ :: rs, v :: vs, d :: ds => keepE none rs vs ds ++ [(some v, .val d)]
  | some 0, r :: rs, v :: vs, _ :: ds => keepE none rs vs ds ++ [ent r v]
  | some (k + 1), _ :: rs, v :: vs, d :: ds => keepE (some k) rs vs ds ++ [(some v, .val d)]
  | _, _, _, _ => []
theorem SR.fzx : ∀ {q : Option Nat} {rs : List Rv} {vs : List V} {ds : List D} {δ : Ss} {τ : List En}, SR κ io σ H δ (ents rs vs ++ τ) → Alis σ rs vs → PyV.fzx q δ rs = some (ds, δ') → SR κ io σ H δ' (keepE q rs vs ds ++ τ) ∧ vs.length = ds.length ∧ rs.length = ds.length
  | q, [], _, ds, δ, τ, s, a, h => by
    cases a
    have h2 : some (([] : List D), δ) = some (ds, δ') := by
      rcases q with _ | _ | q <;> simpa only [PyV.fzx] using h
    cases h2
    rcases q with _ | _ | q <;> exact ⟨s, rfl, rfl⟩
  | none, r :: rs, _, ds, δ, τ, s, a, h => by
    cases a with
    | @cons _ v _ vs a1 a2 =>
      simp only [PyV.fzx] at h
      split at h
      · cases h
      · rename_i d δ1 hd
        split at h
        · cases h
        · rename_i ds2 δ2 hds
          cases h
          have s1 : SR κ io σ H δ (ent r v :: (ents rs vs ++ τ)) := s.perm (by
            show ((ents rs vs ++ [ent r v]) ++ τ).Perm _
            simpa using List.perm_middle)
          have s3 : SR κ io σ H δ1 (ents rs vs ++ ((some v, .val d) :: τ)) := (s1.fz1 a1 hd).perm List.perm_middle.symm
          obtain ⟨s4, l1, l2⟩ := SR.fzx s3 a2 hds
          refine ⟨s4.perm ?_, congrArg (· + 1) l1, congrArg (· + 1) l2⟩
          show (keepE none rs vs ds2 ++ (some v, Sl.val d) :: τ).Perm ((keepE none rs vs ds2 ++ [(some v, Sl.val d)]) ++ τ)
          simp
  | some 0, r :: rs, _, ds, δ, τ, s, a, h => by
    cases a with
    | @cons _ v _ vs a1 a2 =>
      simp only [PyV.fzx] at h
      split at h
      · cases h
      · rename_i ds2 δ2 hds
        cases h
        have s1 : SR κ io σ H δ (ents rs vs ++ (ent r v :: τ)) := s.perm (by
          show ((ents rs vs ++ [ent r v]) ++ τ).Perm _
          simp)
        obtain ⟨s4, l1, l2⟩ := SR.fzx s1 a2 hds
        refine ⟨s4.perm ?_, congrArg (· + 1) l1, congrArg (· + 1) l2⟩
        show (keepE none rs vs ds2 ++ ent r v :: τ).Perm ((keepE none rs vs ds2 ++ [ent r v]) ++ τ)
        simp
  | some (k + 1), r :: rs, _, ds, δ, τ, s, a, h => by
    cases a with
    | @cons _ v _ vs a1 a2 =>
      simp only [PyV.fzx] at h
      split at h
      · cases h
      · rename_i d δ1 hd
        split at h
        · cases h
        · rename_i ds2 δ2 hds
          cases h
          have s1 : SR κ io σ H δ (ent r v :: (ents rs vs ++ τ)) := s.perm (by
            show ((ents rs vs ++ [ent r v]) ++ τ).Perm _
            simpa using List.perm_middle)
          have s3 : SR κ io σ H δ1 (ents rs vs ++ ((some v, .val d) :: τ)) := (s1.fz1 a1 hd).perm List.perm_middle.symm
          obtain ⟨s4, l1, l2⟩ := SR.fzx s3 a2 hds
          refine ⟨s4.perm ?_, congrArg (· + 1) l1, congrArg (· + 1) l2⟩
          show (keepE (some k) rs vs ds2 ++ (some v, Sl.val d) :: τ).Perm ((keepE (some k) rs vs ds2 ++ [(some v, Sl.val d)]) ++ τ)
          simp
theorem keep_none : ∀ {rs : List Rv} {vs : List V} {ds : List D}, vs.length = ds.length → rs.length = ds.length → (keepE none rs vs ds).Perm (argE none vs ds)
  | [], [], [], _, _ => .nil
  | r :: rs, v :: vs, d :: ds, h1, h2 => by
    show (keepE none rs vs ds ++ [(some v, Sl.val d)]).Perm ((some v, Sl.val d) :: argE none vs ds)
    exact List.perm_append_comm.trans ((keep_none (by simpa using h1) (by simpa using h2)).cons _)
  | [], v :: vs, [], h1, _ => by simp at h1
  | [], _, _ :: _, _, h2 => by simp at h2
  | _ :: _, _, [], _, h2 => by simp at h2
  | _ :: _, [], _ :: _, h1, _ => by simp at h1
theorem keep_own {d : D} : ∀ {j : Nat} {rs : List Rv} {vs : List V} {ds : List D}, vs.length = ds.length → rs.length = ds.length → rs[j]? = some (.own d) → (keepE (some j) rs vs ds).Perm (argE (some j) vs (ds.set j d))
  | 0, r :: rs, v :: vs, e :: ds, h1, h2, h => by
    simp at h
    subst h
    show (keepE none rs vs ds ++ [(some v, Sl.own d)]).Perm ((some v, Sl.own d) :: argE none vs ds)
    exact List.perm_append_comm.trans ((keep_none (by simpa using h1) (by simpa using h2)).cons _)
  | j + 1, r :: rs, v :: vs, e :: ds, h1, h2, h => by
    show (keepE (some j) rs vs ds ++ [(some v, Sl.val e)]).Perm ((some v, Sl.val e) :: argE (some j) vs (ds.set j d))
    exact List.perm_append_comm.trans ((keep_own (by simpa using h1) (by simpa using h2) (by simpa using h)).cons _)
  | _, [], _, _, _, _, h => by simp at h
  | _, _ :: _, _, [], _, h2, _ => by simp at h2
  | _, _ :: _, [], _ :: _, h1, _, _ => by simp at h1
theorem keep_ali {d : D} {i : Nat} {v : V} : ∀ {j : Nat} {rs : List Rv} {vs : List V} {ds : List D}, vs.length = ds.length → rs.length = ds.length → rs[j]? = some (.ali i) → vs[j]? = some v →
    ((some v, Sl.own d) :: keepE (some j) rs vs ds).Perm ((some v, Sl.emp) :: argE (some j) vs (ds.set j d))
  | 0, r :: rs, u :: vs, e :: ds, h1, h2, h, hv => by
    simp at h hv
    subst h hv
    show ((some u, Sl.own d) :: (keepE none rs vs ds ++ [(some u, Sl.emp)])).Perm ((some u, Sl.emp) :: (some u, Sl.own d) :: argE none vs ds)
    exact ((List.perm_append_comm.trans ((keep_none (by simpa using h1) (by simpa using h2)).cons _)).cons _).trans (List.Perm.swap ..)
  | j + 1, r :: rs, u :: vs, e :: ds, h1, h2, h, hv => by
    show ((some v, Sl.own d) :: (keepE (some j) rs vs ds ++ [(some u, Sl.val e)])).Perm ((some v, Sl.emp) :: (some u, Sl.val e) :: argE (some j) vs (ds.set j d))
    have ih := keep_ali (j := j) (rs := rs) (vs := vs) (ds := ds) (d := d) (v := v) (i := i) (by simpa using h1) (by simpa using h2) (by simpa using h) (by simpa using hv)
    refine (show ((some v, Sl.own d) :: (keepE (some j) rs vs ds ++ [(some u, Sl.val e)])).Perm ((some u, Sl.val e) :: (some v, Sl.own d) :: keepE (some j) rs vs ds) from ?_).trans ((ih.cons _).trans (List.Perm.swap ..))
    exact (List.perm_append_comm.cons _).trans (List.Perm.swap ..)
  | _, [], _, _, _, _, h, _ => by simp at h
  | _, _ :: _, _, [], _, h2, _, _ => by simp at h2
  | _, _ :: _, [], _ :: _, h1, _, _, _ => by simp at h1
theorem Alis.at : ∀ {rs : List Rv} {vs : List V} {j : Nat} {r : Rv}, Alis σ rs vs → rs[j]? = some r → ∃ v, vs[j]? = some v ∧ AliOk σ r v
  | _, _, _, _, .nil, h => by simp at h
  | _, _, 0, _, .cons a _, h => by simp at h; subst h; exact ⟨_, rfl, a⟩
  | _, _, j + 1, _, .cons _ t, h => by
    obtain ⟨v, h1, h2⟩ := Alis.at (j := j) t (by simpa using h)
    exact ⟨v, by simpa using h1, h2⟩
theorem mkv_ok {d : D} {fr : Bool} {v : V} : AliOk σ (mkv d fr) v := fun i e => by
  unfold mkv at e
  split at e <;> cases e
/-- the caller's side of a call -/
theorem call_use {g : Nat} {rs : List Rv} {vs : List V} (s : SR κ io σ H δ (ents rs vs ++ τ)) (a : Alis σ rs vs) (h : post κ io W σ τ (okE κ io σ τ Q) (callD T g rs δ)) : spD κ T g vs H Q fun c d H' => W c d σ H' := by
  unfold callD at h
  split at h
  · exact h.elim
  · rename_i ds δ1 hd
    obtain ⟨s1, l1, l2⟩ := s.fzx a hd
    split at h
    · rename_i hio
      rw [hio] at s1
      refine ⟨ds, σ.zip δ1 ++ τ, ?_, l1, ?_⟩
      · rw [hio]
        exact s1.rel.perm ((List.perm_append_comm_assoc ..).trans ((keep_none l1 l2).append_right _))
      · rw [hio]
        split at h
        · rename_i d fr hg
          rw [hg]
          exact ⟨rfl, fun v H' r => h v H' ⟨s1.len, r.perm List.perm_middle.symm, s1.io⟩ mkv_ok⟩
        · rename_i x hg
          rw [hg]
          exact ⟨rfl, fun cls d H' r hx => h cls d H' ⟨s1.len, r, s1.io⟩ hx⟩
        · exact h.elim
    · rename_i j hio
      rw [hio] at s1
      unfold lendD at h
      split at h
      · rename_i i hj
        obtain ⟨v, hv, av⟩ := a.at hj
        have hi := av i rfl
        split at h
        · rename_i d hsl
          have hlt : i < δ1.length := by
            rw [← s1.len]
            exact (List.getElem?_eq_some_iff.mp hi).1
          obtain ⟨L, p1, p2, _⟩ := zip_split s1.len hlt ([] : List En)
          have e1 : ((σ[i]?).getD none, δ1.getD i .emp) = (some v, .own d) := by
            rw [hi]
            exact congrArg (Prod.mk (some v)) hsl
          rw [e1, List.append_nil] at p1
          refine ⟨ds.set j d, L ++ τ, ?_, by rw [List.length_set]; exact l1, ?_⟩
          · rw [hio]
            have p3 : (σ.zip δ1 ++ (keepE (some j) rs vs ds ++ τ)).Perm ((some v, Sl.emp) :: (argE (some j) vs (ds.set j d) ++ (L ++ τ))) := by
              refine (p1.append_right _).trans ?_
              show ((some v, Sl.own d) :: (L ++ (keepE (some j) rs vs ds ++ τ))).Perm _
              refine (List.Perm.cons _ (List.perm_append_comm_assoc L _ τ)).trans ?_
              exact (keep_ali l1 l2 hj hv).append_right (L ++ τ)
            exact (s1.rel.perm p3).tail
          · have back : ∀ {H' : Hp} {d' : D} {es : List En}, Rel κ H' (es ++ (outE (some j) vs (some d') ++ (L ++ τ))) → SR κ io σ H' (δ1.set i (.own d')) (es ++ τ) := fun {H' d' es} r => by
              refine ⟨by rw [List.length_set]; exact s1.len, r.perm ?_, s1.io⟩
              have q := p2 (.own d')
              rw [hi, List.append_nil] at q
              show (es ++ ([(vs[j]?, Sl.own d')] ++ (L ++ τ))).Perm _
              rw [hv]
              refine (List.Perm.symm ((q.append_right (es ++ τ)).trans ?_))
              show ((some v, Sl.own d') :: (L ++ (es ++ τ))).Perm (es ++ ((some v, Sl.own d') :: (L ++ τ)))
              refine (List.Perm.cons _ (List.perm_append_comm_assoc L es τ)).trans ?_
              exact List.perm_middle.symm
            rw [hio]
            split at h
            · rename_i r fr d' hg
              rw [hg]
              exact ⟨rfl, fun u H' rl => h u H' (back (es := [(some u, slotOf (mkv r fr))]) rl) mkv_ok⟩
            · rename_i x d' hg
              rw [hg]
              exact ⟨rfl, fun cls d2 H' rl hx => h cls d2 H' (back (es := []) rl) hx⟩
            · exact h.elim
        · exact h.elim
      · rename_i d hj
        refine ⟨ds.set j d, σ.zip δ1 ++ τ, ?_, by rw [List.length_set]; exact l1, ?_⟩
        · rw [hio]
          exact s1.rel.perm ((List.perm_append_comm_assoc ..).trans ((keep_own l1 l2 hj).append_right _))
        · rw [hio]
          have sub : ∀ (es : List En) (o : Option D), List.Sublist (es ++ (σ.zip δ1 ++ τ)) (es ++ (outE (some j) vs o ++ (σ.zip δ1 ++ τ))) := fun es o => (List.sublist_append_right ..).append_left es
          split at h
          · rename_i r fr d' hg
            rw [hg]
            exact ⟨rfl, fun u H' rl => h u H' ⟨s1.len, (rl.sub (sub [_] (some d'))).perm List.perm_middle.symm, s1.io⟩ mkv_ok⟩
          · rename_i x d' hg
            rw [hg]
            exact ⟨rfl, fun cls d2 H' rl hx => h cls d2 H' ⟨s1.len, rl.sub (sub [] (some d')), s1.io⟩ hx⟩
          · exact h.elim
      · exact h.elim
/-! ## the four kinds of call -/
theorem nil_args {p : Option Nat} {es : List E} {es' : List Expr} (h : es' = [] → es = []) : es' = [] → ∀ (σ : L2.St) (H : Hp) (Q : List V → Hp → Prop), tDA κ io W (evEs T p es) σ H Q → Q [] H := fun h0 σ H Q ⟨δ, τ, s, q⟩ => by
  rw [h h0] at q
  exact q [] H s .nil
theorem snd_call {p : Option Nat} {g k : Nat} {fa : Addr} {fd : FuncData} {ps : List Str} {x : Str} {q : Pos} {es : List E} (F : Fg X.prog X.w X.K X.mg X.base k fa fd ps (spD κ T g)) (hr : Room k X.A) (hu : X.A.guards = some []) (hg : Gl X x) (hm : X.mg x = some (.ref fa))
    (hk : PySem.W.keepIn X.K (.ref fa) = true) (hb : Binds X.K fd ps []) (tk : Takes X W) (ha : PA X es' (tDA κ io W (evEs T p es))) (hn : es' = [] → es = []) (hdb : (x == ("__debug__" : Str)) = false)
    (he : ∀ e r, es' = e :: r → starEach es' X.env = (false, eval e X.env) :: starEach r X.env) (hpl : ∀ e r, es' = e :: r → (backTo pos (starEach r X.env)).any (·.1) = false) :
    PE X (.Call (.Name x q) es' [] pos) (tD κ io W (evE T p (.call g es))) := by
  refine PE.imp (pe_g F hr hu hg hm hk hb tk ha hdb he hpl (nil_args hn)) fun σ H Q ⟨δ, τ, s, h⟩ => ?_
  simp only [evE] at h
  exact seqA (ρ := []) h s fun rs δ1 vs H1 s1 a1 h1 => call_use s1 a1 h1
theorem snd_prp {p : Option Nat} {g k : Nat} {fa pr : Addr} {fd : FuncData} {ps : List Str} {name : Str} {a : E} (ha : PE X a' (tD κ io W (evE T p a))) (hc : ∀ c, c < κ.n → T.mem g c = true → Cls X.K (κ.cls c) ∧ PropOf X.K (κ.cls c) name pr fa)
    (F : Fg X.prog X.w X.K X.mg X.base k fa fd ps (spD κ T g)) (hr : Room (k + 1) X.A) (hu : X.A.guards = some []) (hb : Binds X.K fd ps []) (hab : attributeBase a' name X.env (eval a' X.env) = eval a' X.env) :
    PE X (.Attribute a' name pos) (tD κ io W (evE T p (.prp g a))) := by
  refine PE.imp (pe_r (Cs := fun C => ∃ c, c < κ.n ∧ T.mem g c = true ∧ C = κ.cls c) ha (fun C ⟨c, h1, h2, h3⟩ => h3 ▸ hc c h1 h2) F hr hu hb hab) fun σ H Q ⟨δ, τ, s, h⟩ => ?_
  simp only [evE] at h
  refine seqD (ρ := []) h s fun r δ1 v H1 s1 a1 h1 => ?_
  split at h1
  · rename_i c ns ds hd
    split at h1
    · rename_i hmem
      obtain ⟨f, rf⟩ := s1.rel
      obtain ⟨b, dx, vs, rfl, hlt, hb2, hl, rs⟩ := obj_of rf.same (s1.read (by simp [ent]) a1 hd rf)
      have h2 : post κ io (fun _ _ _ _ => False) σ τ (okE κ io σ τ Q) (callD T g [r] δ1) := by
        revert h1
        cases callD T g [r] δ1 with
        | ok z δ2 => exact id
        | ex x δ2 => exact fun h => h.elim
        | bad => exact id
      have u := call_use (W := fun _ _ _ _ => False) (rs := [r]) (vs := [V.ref b]) (τ := τ) (by exact s1) (.cons a1 .nil) h2
      exact ⟨b, κ.cls c, dx, _, rfl, ⟨c, hlt, hmem, rfl⟩, hb2, u⟩
    · exact h1.elim
  · exact h1.elim
theorem zip_none {g : Str} : ∀ {ns : List Str} {vs : List V}, ns.contains g = false → (ns.zip vs).lookup g = none
  | [], _, _ => rfl
  | _ :: _, [], _ => rfl
  | n :: ns, v :: vs, h => by
    rw [List.contains_cons, Bool.or_eq_false_iff] at h
    rw [List.zip_cons_cons, List.lookup_cons, h.1]
    exact zip_none h.2
theorem snd_umt {p : Option Nat} {g k : Nat} {fa : Addr} {fd : FuncData} {ps : List Str} {m : Str} {a : E} {es : List E} {apos : Pos} {pl : Sem Bool} (ha : PE X a' (tD κ io W (evE T p a))) (hc : ∀ c, c < κ.n → T.mem g c = true → Cls X.K (κ.cls c) ∧ Meth X.K (κ.cls c) m fa)
    (hnm : T.nm g = m)
    (F : Fg X.prog X.w X.K X.mg X.base k fa fd ps (spD κ T g)) (hr : Room k X.A) (hu : X.A.guards = some []) (hb : Binds X.K fd ps []) (tk : Takes X W) (hk : PySem.W.keepIn X.K (.ref fa) = true) (has : PA X es' (tDA κ io W (evEs T p es))) (hn : es' = [] → es = [])
    (hst : ∀ e r, es' = e :: r → starEach es' X.env = (false, eval e X.env) :: starEach r X.env) (hpl : ∀ e r, es' = e :: r → (backTo pos (starEach r X.env)).any (·.1) = false)
    (ht : eval (.Call (.Attribute a' m apos) es' [] pos) X.env = (do
      let ov ← eval a' X.env
      standAt apos.atName
      let (f, first) ← holding [ov] (getMethod ov m pl)
      callWith pos f first (backTo pos (starEach es' X.env)) (backToKw pos (keywordEach [] X.env)))) :
    PE X (.Call (.Attribute a' m apos) es' [] pos) (tD κ io W (evE T p (.umt g a es))) := by
  refine PE.imp (pe_u (Cs := fun C => ∃ c, c < κ.n ∧ T.mem g c = true ∧ C = κ.cls c) ha (fun C ⟨c, h1, h2, h3⟩ => h3 ▸ hc c h1 h2) F hr hu hb tk hk has hst hpl (nil_args hn) ht) fun σ H Q ⟨δ, τ, s, h⟩ => ?_
  simp only [evE] at h
  refine seqD (ρ := []) h s fun r δ1 v H1 s1 a1 h1 => ?_
  split at h1
  · rename_i c ns ds hd
    split at h1
    · rename_i hmem
      obtain ⟨f, rf⟩ := s1.rel
      have rd := s1.read (by simp [ent]) a1 hd rf
      obtain ⟨b, dx, vs, rfl, hlt, hb2, hl, rs⟩ := obj_of rf.same rd
      refine ⟨b, κ.cls c, dx, _, rfl, ⟨c, hlt, hmem.1, rfl⟩, hb2, zip_none (hnm ▸ hmem.2), ?_⟩
      refine seqA (ρ := [ent r (.ref b)]) h1 s1 fun rs2 δ2 vs2 H2 s2 a2 h2 => ?_
      refine call_use (rs := r :: rs2) (vs := .ref b :: vs2) (τ := τ) (s2.perm ?_) (.cons a1 a2) h2
      show (ents rs2 vs2 ++ ([ent r (.ref b)] ++ τ)).Perm ((ents rs2 vs2 ++ [ent r (.ref b)]) ++ τ)
      simp
    · exact h1.elim
  · exact h1.elim
theorem snd_new {p : Option Nat} {c k : Nat} {fa : Addr} {fd : FuncData} {ps : List Str} {x : Str} {q : Pos} {es : List E} (hlt : c < κ.n) (hio : T.io (T.ini c) = some 0) (M : Mk X.K (κ.cls c) fa) (F : Fg X.prog X.w X.K X.mg X.base k fa fd ps (spD κ T (T.ini c))) (hr : Room (k + 1) X.A) (hu : X.A.guards = some []) (hg : Gl X x) (hm : X.mg x = some (.ref (κ.cls c)))
    (hb : Binds X.K fd ps []) (tk : Takes X W) (ha : PA X es' (tDA κ io W (evEs T p es))) (hn : es' = [] → es = []) (hdb : (x == ("__debug__" : Str)) = false)
    (he : ∀ e r, es' = e :: r → starEach es' X.env = (false, eval e X.env) :: starEach r X.env) (hpl : ∀ e r, es' = e :: r → (backTo pos (starEach r X.env)).any (·.1) = false) :
    PE X (.Call (.Name x q) es' [] pos) (tD κ io W (evE T p (.new c es))) := by
  refine PE.imp (pe_n M F hr hu hg hm hb tk ha hdb he hpl (nil_args hn)) fun σ H Q ⟨δ, τ, s, h⟩ => ?_
  simp only [evE] at h
  refine seqA (ρ := []) h s fun rs δ1 vs H1 s1 a1 h1 y dx hy hdx hne => ?_
  unfold newD at h1
  split at h1
  · exact h1.elim
  · rename_i ds δ2 hd
    have s2 := s1.fzs a1 hd
    have hl : vs.length = ds.length := by rw [a1.length, fzs_length hd]
    obtain ⟨f, rf⟩ := s2.rel
    have hy2 : upd H1 dx (.own y) y = none := by rw [upd_ne (fun z => hne z.symm)]; exact hy
    have rf1 : RelF κ f (upd H1 dx (.own y)) (σ.zip δ2 ++ (vals vs ds ++ τ)) := rf.grow fun b o hb => by rw [upd_ne (ne_of_none hb hdx)]; exact hb
    have rf2 := rf1.laid (u := .ins (κ.cls c) dx []) (d := .obj c [] []) hy2 (.obj (vs := []) hlt upd_same rfl .nil)
    have pv : (vals vs ds).Perm (argE none vs ds) := by
      clear rf2 rf1 rf s2 hd h1 s1 a1
      induction vs generalizing ds with
      | nil => cases ds <;> exact .nil
      | cons v vs ih =>
        cases ds with
        | nil => simp at hl
        | cons d ds =>
          show (vals vs ds ++ [(some v, Sl.val d)]).Perm ((some v, Sl.val d) :: argE none vs ds)
          exact List.perm_append_comm.trans ((ih ds (by simpa using hl)).cons _)
    refine ⟨.obj c [] [] :: ds, σ.zip δ2 ++ τ, ?_, congrArg (· + 1) hl, ?_⟩
    · rw [hio]
      show Rel κ _ ((some (.ref y), Sl.own (.obj c [] [])) :: (argE none vs ds ++ (σ.zip δ2 ++ τ)))
      refine Rel.perm (List.Perm.cons _ ?_) ⟨f, rf2⟩
      exact (List.perm_append_comm_assoc ..).trans (pv.append_right _)
    · rw [hio]
      split at h1
      · rename_i fr d' hgv
        rw [hgv]
        refine ⟨rfl, fun v H' r => ?_⟩
        have ev : v = .non := by
          obtain ⟨f2, r2⟩ := r
          have hs : slotOf (mkv .non fr) = .val .non ∨ slotOf (mkv .non fr) = .own .non := by cases fr <;> simp [mkv, slotOf]
          rcases hs with hs | hs
          · rw [hs] at r2
            obtain ⟨v', e1, q⟩ := r2.at List.mem_cons_self
            cases e1
            cases q
            rfl
          · rw [hs] at r2
            obtain ⟨b, e1, _, o⟩ := r2.atO List.mem_cons_self
            cases o
        refine ⟨ev, h1 (.ref y) H' ⟨s2.len, ?_, s2.io⟩ (fun i e => nomatch e)⟩
        have r3 : Rel κ H' ((some (.ref y), Sl.own d') :: (σ.zip δ2 ++ τ)) := r.tail
        exact r3.perm List.perm_middle.symm
      · rename_i x o hgv
        rw [hgv]
        exact ⟨rfl, fun cls d H' r hx => h1 cls d H' ⟨s2.len, r.sub (List.sublist_append_right ..), s2.io⟩ hx⟩
      · exact h1.elim
/-- what is known of a class with an own __eq__ -/
def EqK (κ : Kx) (T : Tab) (X : Cx) : Prop := ∀ c f, T.eqf c = some f → c < κ.n → ∃ (fa : Addr) (fd : FuncData) (ps : List Str) (k : Nat), Fg X.prog X.w X.K X.mg X.base k fa fd ps (spD κ T f) ∧ Binds X.K fd ps [] ∧
  PySem.W.findIn X.K (.ref (κ.cls c)) "__eq__" = some (some (.ref fa)) ∧ PySem.W.isFn X.K (.ref fa) = true ∧ Room k X.A
theorem op_eqD (hu : X.A.guards = some []) (hE : EqK κ T X) : OpR X (compareOp .Eq) (rObj κ T) := by
  intro pins s σ H x y v u Q I rx ry ⟨d, e, k, L, rel, hq, hQ⟩
  unfold objQ at hq
  split at hq
  · rename_i c ns vs c2 ms ws
    split at hq
    · rename_i hc
      subst hc
      split at hq
      · rename_i fe hf
        split at hq
        · rename_i k2 hio hg
          cases hq
          obtain ⟨f0, rf⟩ := id rel
          obtain ⟨x', ex, kx⟩ := rf.at (ov := some x) (d := .obj c ns vs) (by simp)
          obtain ⟨y', ey, ky⟩ := rf.at (ov := some y) (d := .obj c ms ws) (by simp)
          cases ex
          cases ey
          obtain ⟨a, dx, vs2, rfl, hlt, ha, _, _⟩ := obj_of rf.same (.inl kx)
          obtain ⟨b, dy, ws2, rfl, _, hb, _, _⟩ := obj_of rf.same (.inl ky)
          obtain ⟨fa, fd, ps, kk, F, B, h1, h2, hr⟩ := hE c fe hf hlt
          cases rx
          cases ry
          obtain ⟨mA, JA, _⟩ := ins_get I.hok ha
          obtain ⟨mB, JB, _⟩ := ins_get I.hok hb
          obtain ⟨od, JA, _⟩ := JA.look
          obtain ⟨od', JB, _⟩ := JB.look
          obtain ⟨m, hF⟩ := I.fr
          show wpAny (model X.prog X.w) X.A (richCompare .Eq (.ref a) (.ref b)) (EP X pins σ Q) X.xe s
          refine PySem.W.cmp_K (op := .Eq) (tb := .ref (κ.cls c)) hr.units0 hF I.ok.mod.kin JA JB.type (by simp [PySem.W.notFirst]) h1 h2 ?_
          have sp : spD κ T fe [.ref a, .ref b] H (fun v H' => v = .bl k ∧ Rel κ H' L) fun _ _ _ => False := by
            refine ⟨[.obj c ns vs, .obj c ms ws], L, ?_, rfl, ?_⟩
            · rw [hio]
              exact rel
            · rw [hg, hio]
              refine ⟨rfl, fun v H' r => ?_⟩
              have r2 : Rel κ H' ((some v, .val (.bl k)) :: L) := r
              obtain ⟨f', rf'⟩ := id r2
              obtain ⟨w, e, q⟩ := rf'.at (ov := some v) (d := .bl k) (by simp)
              cases e
              exact ⟨rep_bl q, r2.tail⟩
          have hl : ([Value.ref a, Value.ref b] ++ ([] : List Value)).length = ps.length := (F.len _ _ _ _ sp).symm ▸ rfl
          have bd := B s [.ref a, .ref b] I.kIn hl
          rw [List.append_nil] at bd
          refine wpAny_call (codeAny_mono (F.go X.A X.stack s H ⟨[.ref a, .ref b], []⟩ [.ref a, .ref b] [.ref a, .ref b] _ _ hr hu I.env0 bd (.cons rfl (.cons rfl .nil)) sp) fun rr s' q => ?_)
          rcases rr with er | fl
          · obtain ⟨_, _, _, _, _, _, _, _, _, _, _, _, no⟩ := q
            exact no.elim
          · cases fl with
            | ret w =>
              obtain ⟨z, H', I', rz, ez, r⟩ := I.after q
              subst ez
              cases rz
              exact ⟨.bl k, H', I', rfl, hQ H' r⟩
            | next => exact False.elim q
            | brk => exact False.elim q
            | cont => exact False.elim q
        · cases hq
      · cases hq
    · cases hq
  · cases hq
/-- a call of a method, as it stands in the text -/
theorem meth_eq {m : Str} {apos pos : Pos} {o : Expr} {es : List Expr} {env : Env} (ho : attributeBase o m env (eval o env) = eval o env) (hst : (backTo pos (starEach es env)).all (fun x => !x.1) = true) (hn : es.length < 30) (hl : (apos.endLine == pos.line) = true) :
    eval (.Call (.Attribute o m apos) es [] pos) env = (do
      let ov ← eval o env
      standAt apos.atName
      let (f, first) ← holding [ov] (getMethod ov m (do return (← importBound o env).getD true))
      callWith pos f first (backTo pos (starEach es env)) (backToKw pos (keywordEach [] env))) := by
  have few : methodCallForm (es.length + 0) (backTo pos (starEach es env)) (backToKw pos (keywordEach [] env)) = true := by
    unfold methodCallForm
    rw [hst]
    simp [backToKw, keywordEach]
    omega
  show (do
    let ov ← attributeBase o m env (eval o env)
    standAt apos.atName
    methodCall o m apos pos env ov (es.length + 0) (backTo pos (starEach es env)) (backToKw pos (keywordEach [] env))) = _
  rw [ho]
  unfold methodCall
  rw [few]
  have e2 : methodCallPos true o env apos pos = pure pos := by
    unfold methodCallPos
    simp only [Bool.not_true, Bool.false_or]
    rw [if_pos (by simpa using hl)]
  rw [e2]
  rfl
end
end PyV
set_option Elab.async false
set_option linter.all false
set_option maxRecDepth 100000
set_option maxHeartbeats 2000000
namespace PyV
open PySem PySem.Spec PyProof.Rows L2

section
variable {κ : Kx} {io : Option (Nat × V)} {W : WX} {σ : L2.St} {f H : Hp} {δ δ' : Ss} {τ τ' ρ : List En} {Q : VK} {T : Tab} {X : Cx} {a' b' e' c' tg : Expr} {es' : List Expr} {pos : Pos} {pins : List (Addr × Obj)} {s : Shared}
/-! ## what is walked -/
theorem iter_val {x : V} {v : Value} {R : It → Hp → Prop} (I : Inv X pins σ H s) (r : RelV x v)
    (h : (∃ a, x = .ref a ∧ (∃ xs, SqL X.K H a xs) ∧ R (Itl X.K a) H) ∨ (∃ a, x = .ref a ∧ (∃ xs, SqT X.K H a xs) ∧ R (Itt X.K a) H) ∨ ∃ z, x = .str z ∧ R (Its z) H) :
    wpAny (model X.prog X.w) X.A (pyIter v) (PIE X pins σ tg R) X.xe s := by
  have fp : ∀ b ∈ [s.heap.objs.size], FpOk X pins H b := fun b hb => by
    have e : b = s.heap.objs.size := by simpa using hb
    exact e ▸ I.fpOk (Nat.le_refl _) (I.hok.fresh (Nat.le_refl _))
  rcases h with ⟨a, rfl, ⟨xs, q⟩, h⟩ | ⟨a, rfl, ⟨xs, q⟩, h⟩ | ⟨z, rfl, h⟩
  · cases r
    obtain ⟨its, _, p, _⟩ := I.list q
    refine wpAny_pyIter_list p.isList ⟨s.heap.objs.size, _, _, _, H, rfl, ?_, turn_list a _, ⟨_, Heap.get?_push_size _ rfl, rfl, rfl⟩, fp, h⟩
    exact I.kept (t' := s.toks) fun b o e => Heap.get?_push_of_some _ e
  · cases r
    obtain ⟨its, _, p, _⟩ := I.tuple q
    have p2 : s.heap.IsTuple a its.toArray := p
    refine wpAny_pyIter_tuple p2 ⟨s.heap.objs.size, _, _, _, H, rfl, ?_, turn_tuple a _, ⟨_, Heap.get?_push_size _ rfl, rfl, rfl⟩, fp, h⟩
    exact I.kept (t' := s.toks) fun b o e => Heap.get?_push_of_some _ e
  · obtain ⟨t, rfl⟩ := r
    by_cases ha : z.cps.all (· < 128) = true
    · exact wpAny_pyIter_ascii ha (pi_one (tk := s.toks) I _ (turn_str _ z t "str_ascii_iterator" (.inl rfl)) ⟨_, Heap.get?_push_size _ rfl, rfl, rfl⟩ h)
    · have hb : z.cps.all (· < 128) = false := by simpa using ha
      exact wpAny_pyIter_wide hb (pi_one (tk := s.toks) I _ (turn_str _ z t "str_iterator" (.inr rfl)) ⟨_, Heap.get?_push_size _ rfl, rfl, rfl⟩ h)
/-- the iterator J gives xs, as long as es are kept -/
structure ItD (κ : Kx) (J : It) (es : List En) (xs : List D) : Prop where
  go : ∀ H L i, Rel κ H (es ++ L) → i < xs.length → J.go i H
  stop : ∀ H L i, Rel κ H (es ++ L) → xs.length ≤ i → J.stop i H
  yld : ∀ H L i x H' d, Rel κ H (es ++ L) → xs[i]? = some d → J.yld i H x H' → Rel κ H' ((some x, .val d) :: (es ++ L))
def okI (κ : Kx) (io : Option (Nat × V)) (σ : L2.St) (τ : List En) (k : Ik) (R : It → Hp → Prop) : List Rv → Ss → Prop := fun rs δ => ∃ ds δ2 xs, fzs δ rs = some (ds, δ2) ∧ itemsD k ds = some xs ∧
  ∀ es J H, SR κ io σ H δ2 (es ++ τ) → ItD κ J es xs → R J H
def tDI (κ : Kx) (io : Option (Nat × V)) (W : WX) (k : Ik) (den : Ss → R (List Rv)) : TI := fun σ H R => ∃ δ τ, SR κ io σ H δ τ ∧ post κ io W σ τ (okI κ io σ τ k R) (den δ)
/-! ### each kind -/
theorem rel_val {L : List En} {x : V} {d : D} (r : Rel κ H L) (h : (some x, .val d) ∈ L) : ∃ f, RelF κ f H L ∧ Rep κ f x d := by
  obtain ⟨f, rf⟩ := r
  obtain ⟨v, e, q⟩ := rf.at h
  cases e
  exact ⟨f, rf, q⟩
theorem sql_of {L : List En} {K : PySem.W.Frag} {a : Addr} {ds : List D} (hK : κ.K = K) (r : Rel κ H L) (h : (some (.ref a), .val (.lst ds)) ∈ L) : ∃ f vs, RelF κ f H L ∧ SqL K H a vs ∧ Reps κ f vs ds := by
  obtain ⟨f, rf, q⟩ := rel_val r h
  subst hK
  cases q with
  | lst q rs => exact ⟨f, _, rf, (q.mono rf.same).sq, rs⟩
theorem sqt_of {L : List En} {K : PySem.W.Frag} {a : Addr} {ds : List D} (hK : κ.K = K) (r : Rel κ H L) (h : (some (.ref a), .val (.tup ds)) ∈ L) : ∃ f vs, RelF κ f H L ∧ SqT K H a vs ∧ Reps κ f vs ds := by
  obtain ⟨f, rf, q⟩ := rel_val r h
  subst hK
  cases q with
  | tup q rs => exact ⟨f, _, rf, sqT_mono rf.same q, rs⟩
theorem itd_list {K : PySem.W.Frag} (hK : κ.K = K) {a : Addr} {ds : List D} : ItD κ (Itl K a) [(some (.ref a), .val (.lst ds))] ds := by
  refine ⟨fun H L i r h => ?_, fun H L i r h => ?_, fun H L i x H' d r hd ⟨e, h⟩ => ?_⟩
  · obtain ⟨f, vs, rf, q, rs⟩ := sql_of hK r List.mem_cons_self
    exact ⟨vs, vs[i]'(by rw [rs.length]; exact h), q, by simp⟩
  · obtain ⟨f, vs, rf, q, rs⟩ := sql_of hK r List.mem_cons_self
    exact ⟨vs, q, by rw [rs.length]; exact h⟩
  · subst e
    obtain ⟨f, vs, rf, q, rs⟩ := sql_of hK r List.mem_cons_self
    obtain ⟨v, hv, rv⟩ := rs.get hd
    have e := h vs q
    rw [hv] at e
    cases e
    exact ⟨f, rf.val rv⟩
theorem itd_tup {K : PySem.W.Frag} (hK : κ.K = K) {a : Addr} {ds : List D} : ItD κ (Itt K a) [(some (.ref a), .val (.tup ds))] ds := by
  refine ⟨fun H L i r h => ?_, fun H L i r h => ?_, fun H L i x H' d r hd ⟨e, h⟩ => ?_⟩
  · obtain ⟨f, vs, rf, q, rs⟩ := sqt_of hK r List.mem_cons_self
    exact ⟨vs, vs[i]'(by rw [rs.length]; exact h), q, by simp⟩
  · obtain ⟨f, vs, rf, q, rs⟩ := sqt_of hK r List.mem_cons_self
    exact ⟨vs, q, by rw [rs.length]; exact h⟩
  · subst e
    obtain ⟨f, vs, rf, q, rs⟩ := sqt_of hK r List.mem_cons_self
    obtain ⟨v, hv, rv⟩ := rs.get hd
    have e := h vs q
    rw [hv] at e
    cases e
    exact ⟨f, rf.val rv⟩
theorem itd_str {t : List Nat} (ok : ∀ c ∈ t, c < 1114112) {es : List En} : ItD κ (Its ⟨t.toArray⟩) es (t.map fun c => .str [c]) := by
  refine ⟨fun H L i r h => ?_, fun H L i r h => ?_, fun H L i x H' d r hd ⟨e, c, hc, ex⟩ => ?_⟩
  · simpa [Its] using h
  · simpa [Its] using h
  · subst e ex
    rw [List.getElem?_map] at hd
    have hc : t[i]? = some c := by simpa using hc
    rw [hc] at hd
    cases hd
    refine r.scal fun g => .str [c] fun y hy => ?_
    have : y = c := by simpa using hy
    subst this
    exact ok _ (List.mem_of_getElem? hc)
theorem itd_rng {lo : Int} {n : Nat} {es : List En} : ItD κ (Itr lo n) es (irange lo n 1) := by
  refine ⟨fun H L i r h => ?_, fun H L i r h => ?_, fun H L i x H' d r hd ⟨e, ex⟩ => ?_⟩
  · simpa [Itr] using h
  · simpa [Itr] using h
  · subst e ex
    simp only [irange, List.getElem?_map] at hd
    obtain ⟨k, hk, rfl⟩ := Option.map_eq_some_iff.mp hd
    have : k = i := by
      obtain ⟨hlt, e⟩ := List.getElem?_eq_some_iff.mp hk
      simpa using e.symm
    subst this
    rw [Int.mul_one]
    exact r.scal fun g => .int _
theorem itd_rngC {lo c : Int} {n : Nat} {es : List En} : ItD κ (Itc lo c n) es (irange lo n c) := by
  refine ⟨fun H L i r h => ?_, fun H L i r h => ?_, fun H L i x H' d r hd ⟨e, ex⟩ => ?_⟩
  · simpa [Itc] using h
  · simpa [Itc] using h
  · subst e ex
    simp only [irange, List.getElem?_map] at hd
    obtain ⟨k, hk, rfl⟩ := Option.map_eq_some_iff.mp hd
    have : k = i := by
      obtain ⟨hlt, e⟩ := List.getElem?_eq_some_iff.mp hk
      simpa using e.symm
    subst this
    exact r.scal fun g => .int _
theorem enumD_get : ∀ {k i : Nat} {ds : List D} {d : D}, (enumD k ds)[i]? = some d → ∃ e, ds[i]? = some e ∧ d = .tup [.int ((k + i : Nat) : Int), e]
  | k, i, [], d, h => by simp at h
  | k, 0, e :: ds, d, h => by simp at h; exact ⟨e, rfl, h.symm⟩
  | k, i + 1, e :: ds, d, h => by
    obtain ⟨e2, h1, h2⟩ := enumD_get (k := k + 1) (i := i) (ds := ds) (d := d) (by simpa using h)
    exact ⟨e2, by simpa using h1, by rw [h2]; congr 3; omega⟩
theorem enumD_len : ∀ {k : Nat} {ds : List D}, (enumD k ds).length = ds.length
  | _, [] => rfl
  | k, d :: ds => congrArg (· + 1) (enumD_len (k := k + 1) (ds := ds))
theorem zipD_get : ∀ {i : Nat} {as bs : List D} {d : D}, (zipD as bs)[i]? = some d → ∃ a b, as[i]? = some a ∧ bs[i]? = some b ∧ d = .tup [a, b]
  | i, [], _, d, h => by simp at h
  | i, _ :: _, [], d, h => by simp at h
  | 0, a :: as, b :: bs, d, h => by simp at h; exact ⟨a, b, rfl, rfl, h.symm⟩
  | i + 1, a :: as, b :: bs, d, h => by
    obtain ⟨x, y, h1, h2, h3⟩ := zipD_get (i := i) (as := as) (bs := bs) (d := d) (by simpa using h)
    exact ⟨x, y, by simpa using h1, by simpa using h2, h3⟩
theorem zipD_len : ∀ {as bs : List D}, (zipD as bs).length = min as.length bs.length
  | [], _ => by simp
  | _ :: _, [] => by simp
  | a :: as, b :: bs => by simp [zipD_len (as := as) (bs := bs)]
theorem laid_pair {x y : V} {d e : D} {p : Addr} {L : List En} (rf : RelF κ f H L) (hx : Rep κ f x d) (hy : Rep κ f y e) (hp : H p = none) : Rel κ (upd H p (.tup [x, y])) ((some (.ref p), .val (.tup [d, e])) :: L) := by
  have hf : f p = none := rf.same.free hp
  have sm : Same f (upd f p (.tup [x, y])) := same_upd hf
  exact ⟨_, rf.laidV hp (.tup (.inl (.inl upd_same)) (.cons (hx.mono sm) (.cons (hy.mono sm) .nil)))⟩
theorem itd_enum {K : PySem.W.Frag} (hK : κ.K = K) {a : Addr} {ds : List D} : ItD κ (Ite K a) [(some (.ref a), .val (.lst ds))] (enumD 0 ds) := by
  refine ⟨fun H L i r h => ?_, fun H L i r h => ?_, fun H L i x H' d r hd ⟨p, y, ex, hp, e, h⟩ => ?_⟩
  · obtain ⟨f, vs, rf, q, rs⟩ := sql_of hK r List.mem_cons_self
    rw [enumD_len] at h
    exact ⟨vs, vs[i]'(by rw [rs.length]; exact h), q, by simp⟩
  · obtain ⟨f, vs, rf, q, rs⟩ := sql_of hK r List.mem_cons_self
    rw [enumD_len] at h
    exact ⟨vs, q, by rw [rs.length]; exact h⟩
  · subst e ex
    obtain ⟨f, vs, rf, q, rs⟩ := sql_of hK r List.mem_cons_self
    obtain ⟨e, he, rfl⟩ := enumD_get hd
    obtain ⟨v, hv, rv⟩ := rs.get he
    have e2 := h vs q
    rw [hv] at e2
    cases e2
    have := laid_pair (x := .int (i : Nat)) (d := .int ((0 + i : Nat) : Int)) rf (by rw [Nat.zero_add]; exact .int _) rv hp
    exact this
theorem itd_zip {K : PySem.W.Frag} (hK : κ.K = K) {a b : Addr} {ds es : List D} : ItD κ (Itz K a b) [(some (.ref b), .val (.lst es)), (some (.ref a), .val (.lst ds))] (zipD ds es) := by
  have two : ∀ {H : Hp} {L : List En}, Rel κ H ([(some (.ref b), .val (.lst es)), (some (.ref a), .val (.lst ds))] ++ L) → ∃ f vs ws, RelF κ f H ([(some (.ref b), .val (.lst es)), (some (.ref a), .val (.lst ds))] ++ L) ∧ SqL K H a vs ∧ Reps κ f vs ds ∧ SqL K H b ws ∧ Reps κ f ws es := fun {H L} r => by
    obtain ⟨f, rf⟩ := r
    subst hK
    obtain ⟨v1, e1, q1⟩ := rf.at (ov := some (.ref a)) (d := .lst ds) (by simp)
    obtain ⟨v2, e2, q2⟩ := rf.at (ov := some (.ref b)) (d := .lst es) (by simp)
    cases e1
    cases e2
    cases q1 with
    | lst q1 r1 =>
      cases q2 with
      | lst q2 r2 => exact ⟨f, _, _, rf, (q1.mono rf.same).sq, r1, (q2.mono rf.same).sq, r2⟩
  refine ⟨fun H L i r h => ?_, fun H L i r h => ?_, fun H L i x H' d r hd ⟨p, y, z, ex, hp, e, h1, h2⟩ => ?_⟩
  · obtain ⟨f, vs, ws, rf, q1, r1, q2, r2⟩ := two r
    rw [zipD_len] at h
    have l1 := r1.length
    have l2 := r2.length
    exact ⟨vs, ws, vs[i]'(by omega), ws[i]'(by omega), q1, q2, by simp, by simp⟩
  · obtain ⟨f, vs, ws, rf, q1, r1, q2, r2⟩ := two r
    rw [zipD_len] at h
    have l1 := r1.length
    have l2 := r2.length
    exact ⟨vs, ws, q1, q2, by omega⟩
  · subst e ex
    obtain ⟨f, vs, ws, rf, q1, r1, q2, r2⟩ := two r
    obtain ⟨d1, d2, hd1, hd2, rfl⟩ := zipD_get hd
    obtain ⟨v, hv, rv⟩ := r1.get hd1
    obtain ⟨w, hw, rw2⟩ := r2.get hd2
    have e1 := h1 vs q1
    have e2 := h2 ws q2
    rw [hv] at e1
    rw [hw] at e2
    cases e1
    cases e2
    exact laid_pair rf rv rw2 hp
theorem big62_of {i : Int} (h : big62 i = true) : -(2 ^ 62) ≤ i ∧ i < 2 ^ 62 := by
  unfold big62 at h
  simpa using h
/-! ### the rules -/
theorem snd_it {p : Option Nat} {e : E} (hK : κ.K = X.K) (ha : PE X e' (tD κ io W (evE T p e))) : PI X tg e' (tDI κ io W .plain (evEs T p [e])) := by
  refine ⟨fun pins s σ H R I ⟨δ, τ, sr, h⟩ => ?_⟩
  have h2 : post κ io W σ τ (okI κ io σ τ .plain R) ((evE T p e δ).bind fun x s1 => .ok [x] s1) := by
    simp only [evEs] at h
    exact h
  refine thn (ha.run pins s σ H (fun x H1 => (∃ a, x = .ref a ∧ (∃ xs, SqL X.K H1 a xs) ∧ R (Itl X.K a) H1) ∨ (∃ a, x = .ref a ∧ (∃ xs, SqT X.K H1 a xs) ∧ R (Itt X.K a) H1) ∨ ∃ z, x = .str z ∧ R (Its z) H1) I ?_)
    fun v s1 ⟨x, H1, I1, r1, q1⟩ => iter_val I1 r1 q1
  refine seqD (ρ := []) h2 sr fun r δ1 v H1 s1 a1 h1 => ?_
  obtain ⟨ds, δ2, xs, hf, hi, k⟩ := h1
  simp only [fzs] at hf
  split at hf
  · cases hf
  · rename_i d δ3 hd
    cases hf
    have s2 : SR κ io σ H1 δ2 ((some v, .val d) :: τ) := s1.fz1 a1 hd
    have m : (some v, Sl.val d) ∈ σ.zip δ2 ++ (some v, .val d) :: τ := by simp
    obtain ⟨f, rf, rp⟩ := rel_val s2.rel m
    unfold itemsD at hi
    split at hi <;> try (cases hi; done)
    all_goals first | cases ‹Ik.plain = _›; done | skip
    · rename_i e0
      cases e0
      cases hi
      cases rp with
      | lst q rs => exact .inl ⟨_, rfl, ⟨_, hK ▸ (q.mono rf.same).sq⟩, k [_] _ _ s2 (itd_list hK)⟩
    · rename_i e0
      cases e0
      cases hi
      cases rp with
      | tup q rs => exact .inr (.inl ⟨_, rfl, ⟨_, hK ▸ sqT_mono rf.same q⟩, k [_] _ _ s2 (itd_tup hK)⟩)
    · rename_i e0
      cases e0
      cases hi
      obtain ⟨rfl, ok⟩ := rep_str rp
      exact .inr (.inr ⟨_, rfl, k [_] _ _ s2 (itd_str ok)⟩)
theorem evEs_len {p : Option Nat} : ∀ {es : List E} {δ δ1 : Ss} {rs : List Rv}, evEs T p es δ = .ok rs δ1 → rs.length = es.length
  | [], δ, δ1, rs, h => by
    simp only [evEs] at h
    cases h
    rfl
  | e :: es, δ, δ1, rs, h => by
    simp only [evEs] at h
    cases he : evE T p e δ with
    | bad => rw [he] at h; simp [R.bind] at h
    | ex x s => rw [he] at h; simp [R.bind] at h
    | ok r s =>
      rw [he] at h
      simp only [R.bind] at h
      cases hs : evEs T p es s with
      | bad => rw [hs] at h; simp at h
      | ex x s => rw [hs] at h; simp at h
      | ok rs2 s2 =>
        rw [hs] at h
        cases h
        rw [List.length_cons, List.length_cons, evEs_len hs]
/-- the arguments, kept -/
structure Got (κ : Kx) (io : Option (Nat × V)) (σ : L2.St) (H : Hp) (τ : List En) (k : Ik) (R : It → Hp → Prop) (n : Nat) (vs : List V) : Prop where
  ex : ∃ ds δ2 xs f, ds.length = n ∧ itemsD k ds = some xs ∧ RelF κ f H (σ.zip δ2 ++ (vals vs ds ++ τ)) ∧ Reps κ f vs ds ∧ SR κ io σ H δ2 (vals vs ds ++ τ) ∧ ∀ es J H, SR κ io σ H δ2 (es ++ τ) → ItD κ J es xs → R J H
theorem args_got {p : Option Nat} {es : List E} {k : Ik} {R : It → Hp → Prop} (h : post κ io W σ τ (okI κ io σ τ k R) (evEs T p es δ)) : post κ io W σ τ (okA κ io σ τ fun vs H => Got κ io σ H τ k R es.length vs) (evEs T p es δ) := by
  revert h
  cases he : evEs T p es δ with
  | bad => exact fun h => h
  | ex x δ1 => exact fun h => h
  | ok rs δ1 =>
    intro ⟨ds, δ2, xs, hf, hi, k⟩ vs H1 s1 a1
    have s2 := s1.fzs a1 hf
    obtain ⟨f, rf⟩ := s2.rel
    have hl : vs.length = ds.length := by rw [a1.length, fzs_length hf]
    exact ⟨ds, δ2, xs, f, by rw [fzs_length hf, evEs_len he], hi, rf, reps_of (L := σ.zip δ2) hl rf, s2, k⟩
theorem snd_rng1 {p : Option Nat} {e : E} {x : Str} {q : Pos} (hx : x = "range") (hg : Gl X x) (hm : X.mg x = none) (ha : PA X [a'] (tDA κ io W (evEs T p [e]))) (hs : starEach [a'] X.env = [(false, eval a' X.env)]) :
    PI X tg (.Call (.Name x q) [a'] [] pos) (tDI κ io W .rng (evEs T p [e])) := by
  subst hx
  refine ⟨fun pins s σ H R I ⟨δ, τ, sr, h⟩ => (pi_range1 hg hm (PA.imp ha fun σ H Q q => q) hs).run pins s σ H R I (?_ : tDA κ io W (evEs T p [e]) σ H _)⟩
  refine ⟨δ, τ, sr, ?_⟩
  have h2 := args_got h
  revert h2
  cases evEs T p [e] δ with
  | bad => exact fun h => h
  | ex x δ1 => exact fun h => h
  | ok rs δ1 =>
    intro h vs H1 s1 a1
    obtain ⟨ds, δ2, xs, f, hn, hi, rf, rr, s2, k⟩ := (h vs H1 s1 a1).ex
    unfold itemsD at hi
    split at hi <;> try (cases hi; done)
    all_goals first | cases ‹Ik.rng = _›; done | skip
    · split at hi
      · rename_i hb
        cases hi
        cases rr with
        | cons r t =>
          cases t
          cases r
          obtain ⟨b1, b2⟩ := big62_of hb
          exact ⟨_, rfl, b1, b2, k _ _ _ s2 itd_rng⟩
      · cases hi
    · simp at hn
    · simp at hn
theorem snd_rng2 {p : Option Nat} {e e2 : E} {x : Str} {q : Pos} (hx : x = "range") (hg : Gl X x) (hm : X.mg x = none) (ha : PA X [a', b'] (tDA κ io W (evEs T p [e, e2]))) (hs : starEach [a', b'] X.env = [(false, eval a' X.env), (false, eval b' X.env)]) (hs2 : starEach [b'] X.env = [(false, eval b' X.env)]) :
    PI X tg (.Call (.Name x q) [a', b'] [] pos) (tDI κ io W .rng (evEs T p [e, e2])) := by
  subst hx
  refine ⟨fun pins s σ H R I ⟨δ, τ, sr, h⟩ => (pi_range2 hg hm (PA.imp ha fun σ H Q q => q) hs hs2).run pins s σ H R I (?_ : tDA κ io W (evEs T p [e, e2]) σ H _)⟩
  refine ⟨δ, τ, sr, ?_⟩
  have h2 := args_got h
  revert h2
  cases evEs T p [e, e2] δ with
  | bad => exact fun h => h
  | ex x δ1 => exact fun h => h
  | ok rs δ1 =>
    intro h vs H1 s1 a1
    obtain ⟨ds, δ2, xs, f, hn, hi, rf, rr, s2, k⟩ := (h vs H1 s1 a1).ex
    unfold itemsD at hi
    split at hi <;> try (cases hi; done)
    all_goals first | cases ‹Ik.rng = _›; done | skip
    · simp at hn
    · split at hi
      · rename_i hb
        cases hi
        cases rr with
        | cons r t =>
          cases r
          cases t with
          | cons r t =>
            cases r
            cases t
            obtain ⟨b1, b2⟩ := big62_of hb.1
            obtain ⟨b3, b4⟩ := big62_of hb.2
            exact ⟨_, _, rfl, ⟨b1, b2, b3, b4⟩, k _ _ _ s2 itd_rng⟩
      · cases hi
    · simp at hn
theorem snd_rng3 {p : Option Nat} {e e2 e3 : E} {x : Str} {q : Pos} (hx : x = "range") (hg : Gl X x) (hm : X.mg x = none) (ha : PA X [a', b', c'] (tDA κ io W (evEs T p [e, e2, e3]))) (hs : starEach [a', b', c'] X.env = (false, eval a' X.env) :: starEach [b', c'] X.env) (hpl : (backTo pos (starEach [b', c'] X.env)).any (·.1) = false) :
    PI X tg (.Call (.Name x q) [a', b', c'] [] pos) (tDI κ io W .rng (evEs T p [e, e2, e3])) := by
  subst hx
  refine ⟨fun pins s σ H R I ⟨δ, τ, sr, h⟩ => (pi_range3 hg hm (PA.imp ha fun σ H Q q => q) hs hpl).run pins s σ H R I (?_ : tDA κ io W (evEs T p [e, e2, e3]) σ H _)⟩
  refine ⟨δ, τ, sr, ?_⟩
  have h2 := args_got h
  revert h2
  cases evEs T p [e, e2, e3] δ with
  | bad => exact fun h => h
  | ex x δ1 => exact fun h => h
  | ok rs δ1 =>
    intro h vs H1 s1 a1
    obtain ⟨ds, δ2, xs, f, hn, hi, rf, rr, s2, k⟩ := (h vs H1 s1 a1).ex
    unfold itemsD at hi
    split at hi <;> try (cases hi; done)
    all_goals first | cases ‹Ik.rng = _›; done | skip
    · simp at hn
    · simp at hn
    · split at hi
      · rename_i hb
        cases hi
        cases rr with
        | cons r t =>
          cases r
          cases t with
          | cons r t =>
            cases r
            cases t with
            | cons r t =>
              cases r
              cases t
              obtain ⟨b1, b2⟩ := big62_of hb.1
              obtain ⟨b3, b4⟩ := big62_of hb.2
              exact ⟨_, _, _, _, rfl, RgC.neg b1 b2 b3 b4, k _ _ _ s2 itd_rngC⟩
      · cases hi
/-! ### enumerate of a text -/
def Itse (x : Str) : It := ⟨fun i _ => i < x.cps.size, fun i H v H' => ∃ T c, v = .ref T ∧ H T = none ∧ H' = upd H T (.tup [.int (i : Nat), .str ⟨#[c]⟩]) ∧ x.cps[i]? = some c, fun i _ => x.cps.size ≤ i⟩
theorem turn_enum_str {P : Program} {w : World} {K : PySem.W.Frag} {elts : List Expr} {kk : Nat} {tpos : Pos} (e it : Addr) (x : Str) (t : Tok) :
    Turn P w K (.Tuple elts kk tpos) (Itse x) [e, it] e (fun i h => (∃ old, IsEnum h e it ((i : Nat) : Int) old) ∧ h.IsStrIter it (strIterType x) x t i ∧ e ≠ it ∧ i ≤ x.cps.size) where
  mem := by simp
  obj := fun i h st b hb => by
    obtain ⟨⟨old, he⟩, ⟨o, ho, hc, hd⟩, _, _⟩ := st
    have e' : b = e ∨ b = it := by simpa using hb
    rcases e' with z | z
    · rw [z]; exact ⟨_, he, fun v q => nomatch q⟩
    · rw [z]; exact ⟨o, ho, fun v q => by rw [hd] at q; cases q⟩
  keep := fun i h h' st k => let ⟨⟨old, he⟩, ⟨o, ho, r⟩, hne, hle⟩ := st; ⟨⟨old, k e (by simp) _ he⟩, ⟨o, k it (by simp) o ho, r⟩, hne, hle⟩
  item := by
    intro X hP hw hK hc i pins s σ H E I hf st hg
    subst hP hw hK
    obtain ⟨⟨old, he⟩, hit, hne, hle⟩ := st
    have hel : e < s.heap.objs.size := Heap.lt_size he
    have hil : it < s.heap.objs.size := by obtain ⟨_, q, _⟩ := hit; exact Heap.lt_size q
    have D := Draws.text (prog := X.prog) (w := X.w) (A := X.A.in1) (I.ok.hd hc) it x t
    refine wpAny_pyNext_enum_itemC D he hit hg hne (by simpa using hne) fun u h' tk hu ho hit' hT hsz hk => ?_
    obtain ⟨c, u', hcx, rfl⟩ := hu
    refine ⟨_, rfl, wpAny_letOwnedTupleGo_enum (s := { s with heap := h', toks := tk + 1 }) ho fun h'' he' sb => ?_⟩
    have hT2 : h''.get? s.heap.objs.size = some { cls := .type "tuple", data := .seq #[.int i tk, .str ⟨#[c]⟩ u'] } := (sb.2 _ (Nat.ne_of_gt hel)).trans hT
    have new : ObjOk X.prog X.w (upd H s.heap.objs.size (.tup [.int (i : Nat), .str ⟨#[c]⟩])) h'' s.heap.objs.size (.tup [.int (i : Nat), .str ⟨#[c]⟩]) :=
      ⟨by show 2 ≤ sizeLine; decide, [.int i tk, .str ⟨#[c]⟩ u'], .cons ⟨_, rfl⟩ (.cons ⟨_, rfl⟩ .nil), ⟨_, hT2, rfl, _, rfl⟩⟩
    have I1 : Inv X pins σ (upd H s.heap.objs.size (.tup [.int (i : Nat), .str ⟨#[c]⟩])) { s with heap := h'', toks := tk + 1 } :=
      I.turnedNew (ch := [e, it]) (fun b ob hb q => (sb.2 b (fun z => hb (by simp [z]))).trans (hk b ob (fun z => hb (by simp [z])) (fun z => hb (by simp [z])) q)) hf (Nat.le_refl _) new
    refine ⟨.ref s.heap.objs.size, _, I1, rfl, ⟨_, c, rfl, I.hok.fresh (Nat.le_refl _), rfl, hcx⟩, ⟨⟨.str ⟨#[c]⟩ u', ?_⟩, ?_, hne, hg⟩, fun b hb => ?_⟩
    · have e1 : ((i + 1 : Nat) : Int) = (i : Int) + 1 := by omega
      rw [e1]; exact he'
    · obtain ⟨o, ho2, r⟩ := id hit'
      exact ⟨o, (sb.2 it (Ne.symm hne)).trans ho2, r⟩
    · have hb' : b < s.heap.objs.size := by
        have e' : b = e ∨ b = it := by simpa using hb
        rcases e' with z | z
        · rw [z]; exact hel
        · rw [z]; exact hil
      rw [upd_ne (Nat.ne_of_lt hb')]
      exact (hf b hb).1
  done := by
    intro X hP hw hK hc i pins s σ H E I hf st hg
    subst hP hw hK
    obtain ⟨⟨old, he⟩, hit, hne, hle⟩ := st
    obtain ⟨f0, f1, f2, f3, f4, f5⟩ := hf it (by simp)
    have D := Draws.text (prog := X.prog) (w := X.w) (A := X.A.in1) (I.ok.hd hc) it x t
    have hi : i = x.cps.size := Nat.le_antisymm hle hg
    subst hi
    exact wpAny_pyNext_enum_endD D he hit fun h' eb => ⟨rfl, I.turned (t' := s.toks) (fun b o hb q => eb b o hb q) f0 f1 f3 f4 f5⟩
  self := fun A i s Q E st h => let ⟨⟨_, he⟩, _⟩ := st; wpAny_pyIter_enum he h
def iEnumX (K : PySem.W.Frag) (ta : TA) : TI := fun σ H R => ta σ H fun vs H1 => (∃ a xs, vs = [.ref a] ∧ SqL K H1 a xs ∧ R (Ite K a) H1) ∨ ∃ x, vs = [.str x] ∧ R (Itse x) H1
theorem pi_enumX {X : Cx} {e : Expr} {ta : TA} {p pos tpos : Pos} {elts : List Expr} {kk : Nat} (hg : Gl X "enumerate") (hm : X.mg "enumerate" = none) (ha : PA X [e] ta) (hs : starEach [e] X.env = [(false, eval e X.env)] := by rfl) :
    PI X (.Tuple elts kk tpos) (.Call (.Name "enumerate" p) [e] [] pos) (iEnumX X.K ta) := by
  refine ⟨fun pins s σ H R I h => ?_⟩
  refine Call_ (ld_blt I hg hm boot_enumerate (PyProof.Rows.callWith_type1 (thn (ha.run pos pins s σ H _ I h) fun us s1 ⟨vs, H1, I1, r1, q1⟩ => ?_) hs rfl))
  rcases q1 with ⟨a, xs, ex, hq, q⟩ | ⟨x, ex, q⟩
  · subst ex
    cases r1 with
    | cons r rr =>
      cases rr
      cases r
      obtain ⟨its, rv, p', hz⟩ := I1.list hq
      refine call_enumerate_list p'.isList fun h' he hit hsz hk => wpAny_pyIter_enum he ?_
      have I2 : Inv X pins σ H1 { s1 with heap := h' } := I1.kept (t' := s1.toks) hk
      refine ⟨s1.heap.objs.size + 1, [s1.heap.objs.size + 1, s1.heap.objs.size], _, _, H1, rfl, I2, turn_enum a (s1.heap.objs.size + 1) s1.heap.objs.size, ⟨⟨.none, he⟩, hit, Nat.succ_ne_self _⟩, fun b hb => ?_, q⟩
      have e' : b = s1.heap.objs.size + 1 ∨ b = s1.heap.objs.size := by simpa using hb
      have hle : s1.heap.objs.size ≤ b := by
        rcases e' with z | z
        · rw [z]; exact Nat.le_add_right _ _
        · rw [z]; exact Nat.le_refl _
      exact I1.fpOk hle (I1.hok.fresh hle)
  · subst ex
    cases r1 with
    | cons r rr =>
      cases rr
      obtain ⟨t, rfl⟩ := r
      refine call_enumerate_str fun h' he hit hsz hk => wpAny_pyIter_enum he ?_
      have I2 : Inv X pins σ H1 { s1 with heap := h' } := I1.kept (t' := s1.toks) hk
      refine ⟨s1.heap.objs.size + 1, [s1.heap.objs.size + 1, s1.heap.objs.size], _, _, H1, rfl, I2, turn_enum_str (s1.heap.objs.size + 1) s1.heap.objs.size x t, ⟨⟨.none, he⟩, hit, Nat.succ_ne_self _, Nat.zero_le _⟩, fun b hb => ?_, q⟩
      have e' : b = s1.heap.objs.size + 1 ∨ b = s1.heap.objs.size := by simpa using hb
      have hle : s1.heap.objs.size ≤ b := by
        rcases e' with z | z
        · rw [z]; exact Nat.le_add_right _ _
        · rw [z]; exact Nat.le_refl _
      exact I1.fpOk hle (I1.hok.fresh hle)
theorem itd_enum_str {t : List Nat} (ok : ∀ c ∈ t, c < 1114112) {es : List En} : ItD κ (Itse ⟨t.toArray⟩) es (enumD 0 (t.map fun c => .str [c])) := by
  refine ⟨fun H L i r h => ?_, fun H L i r h => ?_, fun H L i x H' d r hd ⟨p, c, ex, hp, e, hc⟩ => ?_⟩
  · rw [enumD_len] at h
    simpa [Itse] using h
  · rw [enumD_len] at h
    simpa [Itse] using h
  · subst e ex
    obtain ⟨e, he, rfl⟩ := enumD_get hd
    rw [List.getElem?_map] at he
    have hc2 : t[i]? = some c := by simpa using hc
    rw [hc2] at he
    cases he
    obtain ⟨f, rf⟩ := r
    have sm : Same H (upd H p (.tup [.int (i : Nat), .str ⟨#[c]⟩])) := fun b o q => by rw [upd_ne (ne_of_none q hp)]; exact q
    rw [Nat.zero_add]
    exact ⟨_, rf.laidV hp (.tup (.inl (.inl upd_same)) (.cons (.int _) (.cons (.str [c] fun y hy => by
      have : y = c := by simpa using hy
      subst this
      exact ok _ (List.mem_of_getElem? hc2)) .nil)))⟩
theorem snd_enum {p : Option Nat} {e : E} {x : Str} {q tpos : Pos} {elts : List Expr} {kk : Nat} (hK : κ.K = X.K) (hx : x = "enumerate") (hg : Gl X x) (hm : X.mg x = none) (ha : PA X [a'] (tDA κ io W (evEs T p [e]))) (hs : starEach [a'] X.env = [(false, eval a' X.env)]) :
    PI X (.Tuple elts kk tpos) (.Call (.Name x q) [a'] [] pos) (tDI κ io W .enm (evEs T p [e])) := by
  subst hx
  refine ⟨fun pins s σ H R I ⟨δ, τ, sr, h⟩ => (pi_enumX hg hm (PA.imp ha fun σ H Q q => q) hs).run pins s σ H R I (?_ : tDA κ io W (evEs T p [e]) σ H _)⟩
  refine ⟨δ, τ, sr, ?_⟩
  have h2 := args_got h
  revert h2
  cases evEs T p [e] δ with
  | bad => exact fun h => h
  | ex x δ1 => exact fun h => h
  | ok rs δ1 =>
    intro h vs H1 s1 a1
    obtain ⟨ds, δ2, xs, f, hn, hi, rf, rr, s2, k⟩ := (h vs H1 s1 a1).ex
    unfold itemsD at hi
    split at hi <;> try (cases hi; done)
    all_goals first | cases ‹Ik.enm = _›; done | skip
    · cases hi
      cases rr with
      | cons r t =>
        cases t
        cases r with
        | lst q rs => exact .inl ⟨_, _, rfl, hK ▸ (q.mono rf.same).sq, k [_] _ _ s2 (itd_enum hK)⟩
    · cases hi
      cases rr with
      | cons r t =>
        cases t
        obtain ⟨rfl, ok⟩ := rep_str r
        exact .inr ⟨_, rfl, k [_] _ _ s2 (itd_enum_str ok)⟩
theorem snd_zip {p : Option Nat} {e e2 : E} {x : Str} {q tpos : Pos} {elts : List Expr} {kk : Nat} (hK : κ.K = X.K) (hx : x = "zip") (hg : Gl X x) (hm : X.mg x = none) (ha : PA X [a', b'] (tDA κ io W (evEs T p [e, e2]))) (hs : starEach [a', b'] X.env = (false, eval a' X.env) :: starEach [b'] X.env) (hpl : (backTo pos (starEach [b'] X.env)).any (·.1) = false) :
    PI X (.Tuple elts kk tpos) (.Call (.Name x q) [a', b'] [] pos) (tDI κ io W .zip (evEs T p [e, e2])) := by
  subst hx
  refine ⟨fun pins s σ H R I ⟨δ, τ, sr, h⟩ => (pi_zip hg hm (PA.imp ha fun σ H Q q => q) hs hpl).run pins s σ H R I (?_ : tDA κ io W (evEs T p [e, e2]) σ H _)⟩
  refine ⟨δ, τ, sr, ?_⟩
  have h2 := args_got h
  revert h2
  cases evEs T p [e, e2] δ with
  | bad => exact fun h => h
  | ex x δ1 => exact fun h => h
  | ok rs δ1 =>
    intro h vs H1 s1 a1
    obtain ⟨ds, δ2, xs, f, hn, hi, rf, rr, s2, k⟩ := (h vs H1 s1 a1).ex
    unfold itemsD at hi
    split at hi <;> try (cases hi; done)
    all_goals first | cases ‹Ik.zip = _›; done | skip
    cases hi
    cases rr with
    | cons r t =>
      cases t with
      | cons r2 t =>
        cases t
        cases r with
        | lst q rs =>
          cases r2 with
          | lst q2 rs2 => exact ⟨_, _, _, _, rfl, hK ▸ (q.mono rf.same).sq, hK ▸ (q2.mono rf.same).sq, k [_, _] _ _ s2 (itd_zip hK)⟩
end
end PyV
set_option Elab.async false
set_option linter.all false
set_option maxRecDepth 100000
set_option maxHeartbeats 2000000
namespace PyV
open PySem PySem.Spec PyProof.Rows L2

section
variable {κ : Kx} {io : Option (Nat × V)} {W : WX} {σ : L2.St} {f H : Hp} {δ δ' : Ss} {τ τ' ρ : List En} {Q : VK} {T : Tab} {X : Cx} {a' b' e' c' tg : Expr} {es' : List Expr} {pos : Pos} {pins : List (Addr × Obj)} {s : Shared} {p : Option Nat}
/-! ## storing -/
/-- the lent slot is p's -/
def IoP (io : Option (Nat × V)) (p : Option Nat) : Prop := ∀ j v, io = some (j, v) → p = some j
theorem SR.store {i : Nat} {v : V} {x : Sl} (hp : IoP io p) (s : SR κ io σ H δ ((some v, x) :: τ)) (h : stS p i x δ = some δ') : SR κ io (σ.set i (some v)) H δ' τ := by
  unfold stS at h
  split at h
  · cases h
  · rename_i hn
    cases h
    have h1 : p ≠ some i := fun z => hn (.inl z)
    have hlt : i < δ.length := by
      rcases Nat.lt_or_ge i δ.length with q | q
      · exact q
      · exact absurd (.inr q) hn
    refine ⟨by rw [List.length_set, List.length_set]; exact s.len, ?_, fun j w e => ?_⟩
    · obtain ⟨L, p1, _, p3⟩ := zip_split s.len hlt τ
      have r : Rel κ H ((some v, x) :: L) := (s.rel.perm (List.perm_middle.trans ((p1.cons _).trans (List.Perm.swap ..)))).tail
      exact r.perm (p3 (some v) x).symm
    · have hne : i ≠ j := fun z => h1 (by rw [hp j w e, z])
      rw [List.getElem?_set_ne hne]
      exact s.io j w e
theorem stS_len {i : Nat} {x : Sl} (h : stS p i x δ = some δ') : δ'.length = δ.length := by
  unfold stS at h
  split at h
  · cases h
  · cases h
    exact List.length_set ..
/-! ### targets -/
mutual
def tvs : PyV.T → List Nat
  | .v i => [i]
  | .tup ts => tvss ts
def tvss : List PyV.T → List Nat
  | [] => []
  | t :: ts => tvs t ++ tvss ts
end
/-- the same but at those slots -/
def OutS (vs : List Nat) (σ σ' : L2.St) : Prop := σ'.length = σ.length ∧ ∀ i, i ∉ vs → σ'[i]? = σ[i]?
theorem OutS.trans {vs ws : List Nat} {σ σ1 σ2 : L2.St} (h : OutS vs σ σ1) (k : OutS ws σ1 σ2) : OutS (vs ++ ws) σ σ2 :=
  ⟨k.1.trans h.1, fun i hi => by
    rw [List.mem_append, not_or] at hi
    rw [k.2 i hi.2, h.2 i hi.1]⟩
def gD (κ : Kx) (io : Option (Nat × V)) (p : Option Nat) (t : PyV.T) : TG := fun v σ H Q => ∃ d δ δ' τ, SR κ io σ H δ ((some v, .val d) :: τ) ∧ asgT p t d δ = some δ' ∧ ∀ σ' H', SR κ io σ' H' δ' τ → OutS (tvs t) σ σ' → Q σ' H'
def gsD (κ : Kx) (io : Option (Nat × V)) (p : Option Nat) (ts : List PyV.T) : TGs := fun vs σ H Q => ∃ ds δ δ' τ, vs.length = ds.length ∧ SR κ io σ H δ (argE none vs ds ++ τ) ∧ asgTs p ts ds δ = some δ' ∧ ∀ σ' H', SR κ io σ' H' δ' τ → OutS (tvss ts) σ σ' → Q σ' H'
theorem PG.imp {t t' : TG} (h : PG X tg t) (k : ∀ v σ H Q, t' v σ H Q → t v σ H Q) : PG X tg t' := ⟨fun pins s σ H v u Q I r q => h.run pins s σ H v u Q I r (k v σ H Q q)⟩
theorem PGs.imp {t t' : TGs} {ts : List Expr} (h : PGs X ts t) (k : ∀ v σ H Q, t' v σ H Q → t v σ H Q) : PGs X ts t' := ⟨fun pins s σ H v u Q I r q => h.run pins s σ H v u Q I r (k v σ H Q q)⟩
theorem snd_tv {i : Nat} {x : Str} (hp : IoP io p) (hN : X.N.Nodup) (hi : X.N[i]? = some x) (hx : Loc X.env.scope x) (hf : X.fn x = true ∨ X.env.scope.names.lookup x = some .local) : PG X (.Name x pos) (gD κ io p (.v i)) :=
  PG.imp (pg_name hN hi hx hf) fun v σ H Q ⟨d, δ, δ', τ, s, h, k⟩ => k _ _ (s.store hp (by simpa only [asgT] using h)) ⟨List.length_set .., fun j hj => List.getElem?_set_ne (fun z => hj (by simp [tvs, z]))⟩
theorem snd_tnil : PGs X [] (gsD κ io p []) := PGs.imp pgs_nil fun vs σ H Q ⟨ds, δ, δ', τ, hl, s, h, k⟩ => by
  cases ds with
  | nil =>
    simp only [asgTs] at h
    cases h
    have hv : vs = [] := List.eq_nil_of_length_eq_zero hl
    subst hv
    exact ⟨rfl, k _ _ s ⟨rfl, fun _ _ => rfl⟩⟩
  | cons d ds => simp [asgTs] at h
theorem snd_tcons {t : PyV.T} {ts : List PyV.T} (h1 : PG X a' (gD κ io p t)) (h2 : PGs X es' (gsD κ io p ts)) (hs : (assignEach (a' :: es') X.env).map (·.2) = assign a' X.env :: (assignEach es' X.env).map (·.2)) : PGs X (a' :: es') (gsD κ io p (t :: ts)) :=
  PGs.imp (pgs_cons h1 h2 hs) fun vs σ H Q ⟨ds, δ, δ', τ, hl, s, h, k⟩ => by
    cases ds with
    | nil => simp [asgTs] at h
    | cons d ds =>
      cases vs with
      | nil => simp at hl
      | cons v vs =>
        simp only [asgTs] at h
        split at h
        · cases h
        · rename_i δ1 h1
          exact ⟨v, vs, rfl, d, δ, δ1, argE none vs ds ++ τ, s, h1, fun σ1 H1 s1 o1 => ⟨ds, δ1, δ', τ, by simpa using hl, s1, h, fun σ2 H2 s2 o2 => k σ2 H2 s2 (by simpa [tvss] using o1.trans o2)⟩⟩
theorem rel_more {L : List En} : ∀ {vs : List V} {ds : List D}, RelF κ f H L → Reps κ f vs ds → RelF κ f H (argE none vs ds ++ L)
  | _, _, r, .nil => r
  | _, _, r, .cons q t => (rel_more r t).val q
theorem asgTs_len : ∀ {ts : List PyV.T} {ds : List D} {δ δ' : Ss}, asgTs p ts ds δ = some δ' → ts.length = ds.length
  | [], [], _, _, _ => rfl
  | [], _ :: _, _, _, h => by simp [asgTs] at h
  | _ :: _, [], _, _, h => by simp [asgTs] at h
  | t :: ts, d :: ds, δ, δ', h => by
    simp only [asgTs] at h
    split at h
    · cases h
    · rw [List.length_cons, List.length_cons, asgTs_len h]
theorem snd_ttup {ts : List PyV.T} {k : Nat} (hK : κ.K = X.K) (hc : X.calm = true) (h : PGs X es' (gsD κ io p ts)) (hn : (assignEach es' X.env).length = ts.length) (hst : (assignEach es' X.env).findIdx? (·.1) = none) : PG X (.Tuple es' k pos) (gD κ io p (.tup ts)) :=
  PG.imp (pg_tup hc h hn hst) fun v σ H Q ⟨d, δ, δ', τ, s, h, k⟩ => by
    cases d with
    | tup ds =>
      simp only [asgT] at h
      obtain ⟨f, rf, q⟩ := rel_val s.rel (x := v) (d := .tup ds) (by simp)
      cases q with
      | @tup a vs _ q rs =>
        refine ⟨_, _, rfl, hK ▸ sqT_mono rf.same q, by rw [rs.length, ← asgTs_len h], ds, δ, δ', τ, rs.length, ⟨s.len, ?_, s.io⟩, h, k⟩
        have r2 : RelF κ f H (argE none vs ds ++ (σ.zip δ ++ τ)) := rel_more ((rf.perm List.perm_middle).tail) rs
        exact Rel.perm (List.perm_append_comm_assoc ..) ⟨f, r2⟩
    | _ => simp [asgT] at h
/-! ### statements -/
theorem PS.imp {st : Stmt} {t t' : TS} (h : PS X st t) (k : ∀ D σ H, t' D σ H → t D σ H) : PS X st t' := ⟨fun pins s σ H D I q => h.run pins s σ H D I (k D σ H q)⟩
theorem PSs.imp {st : List Stmt} {t t' : TS} (h : PSs X st t) (k : ∀ D σ H, t' D σ H → t D σ H) : PSs X st t' := ⟨fun pins s σ H D I q => h.run pins s σ H D I (k D σ H q)⟩
/-- ahead of a statement's end: an expression -/
theorem seqS {α : Type} {den : Ss → R Rv} {f : Rv → Ss → R Fl} {D : Ends} {K : V → Hp → Prop} (hp : postS κ io W τ D ((den δ).bind f)) (hs : SR κ io σ H δ (ρ ++ τ))
    (k : ∀ r δ1 v H1, SR κ io σ H1 δ1 (ent r v :: (ρ ++ τ)) → AliOk σ r v → postS κ io W τ D (f r δ1) → K v H1) : tD κ io W den σ H K := by
  refine ⟨δ, ρ ++ τ, hs, ?_⟩
  cases e : den δ with
  | ok r δ1 =>
    rw [e] at hp
    exact fun v H1 s1 a => k r δ1 v H1 s1 a hp
  | ex x δ1 =>
    rw [e] at hp
    exact fun cls d H1 s1 xr => hp cls d σ H1 s1.cut xr
  | bad =>
    rw [e] at hp
    exact hp
theorem seqST {den : Ss → R Bool} {f : Bool → Ss → R Fl} {D : Ends} {K : Bool → Hp → Prop} (hp : postS κ io W τ D ((den δ).bind f)) (hs : SR κ io σ H δ (ρ ++ τ))
    (k : ∀ b δ1 H1, SR κ io σ H1 δ1 (ρ ++ τ) → postS κ io W τ D (f b δ1) → K b H1) : tDT κ io W den σ H K := by
  refine ⟨δ, ρ ++ τ, hs, ?_⟩
  cases e : den δ with
  | ok r δ1 =>
    rw [e] at hp
    exact fun H1 s1 => k r δ1 H1 s1 hp
  | ex x δ1 =>
    rw [e] at hp
    exact fun cls d H1 s1 xr => hp cls d σ H1 s1.cut xr
  | bad =>
    rw [e] at hp
    exact hp
theorem seqSA {den : Ss → R (List Rv)} {f : List Rv → Ss → R Fl} {D : Ends} {K : List V → Hp → Prop} (hp : postS κ io W τ D ((den δ).bind f)) (hs : SR κ io σ H δ (ρ ++ τ))
    (k : ∀ rs δ1 vs H1, SR κ io σ H1 δ1 (ents rs vs ++ (ρ ++ τ)) → Alis σ rs vs → postS κ io W τ D (f rs δ1) → K vs H1) : tDA κ io W den σ H K := by
  refine ⟨δ, ρ ++ τ, hs, ?_⟩
  cases e : den δ with
  | ok r δ1 =>
    rw [e] at hp
    exact fun vs H1 s1 a => k r δ1 vs H1 s1 a hp
  | ex x δ1 =>
    rw [e] at hp
    exact fun cls d H1 s1 xr => hp cls d σ H1 s1.cut xr
  | bad =>
    rw [e] at hp
    exact hp
theorem SR.sl1 {r : Rv} {v : V} {x : Sl} (s : SR κ io σ H δ (ent r v :: τ)) (a : AliOk σ r v) (h : slR δ r = some (x, δ')) : SR κ io σ H δ' ((some v, x) :: τ) := by
  cases r with
  | own d =>
    simp only [slR, Option.some.injEq, Prod.mk.injEq] at h
    obtain ⟨rfl, rfl⟩ := h
    exact s
  | val d =>
    simp only [slR, Option.some.injEq, Prod.mk.injEq] at h
    obtain ⟨rfl, rfl⟩ := h
    exact s
  | ali i =>
    cases hd : fz δ (.ali i) with
    | none =>
      simp only [slR, hd] at h
      cases h
    | some q =>
      obtain ⟨d, δ1⟩ := q
      simp only [slR, hd] at h
      cases h
      exact s.fz1 a hd
theorem nxO_post {o : Option Ss} {D : Ends} (h : postS κ io W τ D (nxO o)) : ∃ δ', o = some δ' ∧ ∀ σ H, SR κ io σ H δ' τ → D.nx σ H := by
  unfold nxO at h
  split at h
  · exact ⟨_, rfl, h⟩
  · exact h.elim
theorem snd_asgv {n i : Nat} {x : Str} {e : E} {pos' : Pos} (hp : IoP io p) (hN : X.N.Nodup) (hi : X.N[i]? = some x) (hx : Loc X.env.scope x) (hf : X.fn x = true ∨ X.env.scope.names.lookup x = some .local) (ha : PE X a' (tD κ io W (evE T p e))) (hs : swapsWith a' (some (.Name x pos')) pos.line X.env = pure false) :
    PS X (.Assign [.Name x pos'] a' pos) (tDS κ io W (evS T p n (.asg (.v i) e))) :=
  PS.imp (ps_set hN hi hx ha hs hf) fun D σ H ⟨δ, τ, s, h⟩ => by
    simp only [evS] at h
    refine seqS (α := Unit) (ρ := []) h s fun r δ1 v H1 s1 a1 h1 => ?_
    obtain ⟨δ', h2, h3⟩ := nxO_post h1
    unfold putR at h2
    split at h2
    · rename_i x δ2 hx
      exact h3 _ _ ((s1.sl1 a1 hx).store hp h2)
    · cases h2
theorem snd_asgt {n : Nat} {ts : List PyV.T} {e : E} (ha : PE X a' (tD κ io W (evE T p e))) (hg : PG X tg (gD κ io p (.tup ts))) (hs : swapsWithSole [tg] a' pos.line X.env = pure false) (hw : swappedStores [tg] a' X.env = pure none)
    (h1 : (assignEach [tg] X.env).map (·.2) = [assign tg X.env]) : PS X (.Assign [tg] a' pos) (tDS κ io W (evS T p n (.asg (.tup ts) e))) :=
  PS.imp (ps_asg ha hg hs hw h1) fun D σ H ⟨δ, τ, s, h⟩ => by
    simp only [evS] at h
    refine seqS (α := Unit) (ρ := []) h s fun r δ1 v H1 s1 a1 h1 => ?_
    split at h1
    · rename_i d δ2 hd
      obtain ⟨δ', h2, h3⟩ := nxO_post h1
      exact ⟨d, δ2, δ', τ, s1.fz1 a1 hd, h2, fun σ' H' s' _ => h3 σ' H' s'⟩
    · exact h1.elim
theorem snd_par2 {n i j : Nat} {x y : Str} {a b : E} {px py pt : Pos} {kt k2 pt2} (hp : IoP io p) (hc : X.calm = true) (hN : X.N.Nodup) (hi : X.N[i]? = some x) (hj : X.N[j]? = some y) (hij : i ≠ j) (hx : X.env.scope.names.lookup x = some .local) (hy : X.env.scope.names.lookup y = some .local)
    (ha : PA X [a', b'] (tDA κ io W (evEs T p [a, b]))) (hw : swappedStores [.Tuple [.Name x px, .Name y py] kt pt] (.Tuple [a', b'] k2 pt2) X.env = pure (some [x, y]))
    (hs : swapsWithSole [.Tuple [.Name x px, .Name y py] kt pt] (.Tuple [a', b'] k2 pt2) pos.line X.env = pure false) :
    PS X (.Assign [.Tuple [.Name x px, .Name y py] kt pt] (.Tuple [a', b'] k2 pt2) pos) (tDS κ io W (evS T p n (.par [i, j] [a, b]))) :=
  PS.imp (ps_par hc hN hi hj hij hx hy ha hw hs) fun D σ H ⟨δ, τ, s, h⟩ => by
    simp only [evS] at h
    refine seqSA (ρ := []) h s fun rs δ1 vs H1 s1 a1 h1 => ?_
    obtain ⟨δ', h2, h3⟩ := nxO_post h1
    cases a1 with
    | nil => simp at h2
    | @cons r1 v1 _ _ q1 t1 =>
      cases t1 with
      | nil =>
        exfalso
        unfold putRs at h2
        split at h2
        · rename_i xs δ2 hx
          simp only [slRs] at hx
          split at hx
          · cases hx
          · cases hx
            simp only [stSs] at h2
            split at h2 <;> cases h2
        · cases h2
      | @cons r2 v2 rs2 vs2 q2 t2 =>
        unfold putRs at h2
        split at h2
        · rename_i xs δ2 hx
          simp only [slRs] at hx
          split at hx
          · cases hx
          · rename_i x1 δ3 hx1
            split at hx
            · cases hx
            · rename_i xs2 δ4 hx2
              cases hx
              split at hx2
              · cases hx2
              · rename_i x2 δ5 hx3
                split at hx2
                · cases hx2
                · rename_i xs3 δ6 hx4
                  cases hx2
                  cases t2 with
                  | cons q3 t3 =>
                    exfalso
                    simp only [stSs] at h2
                    split at h2
                    · cases h2
                    · split at h2
                      · cases h2
                      · simp only [slRs] at hx4
                        split at hx4
                        · cases hx4
                        · split at hx4
                          · cases hx4
                          · cases hx4
                            simp at h2
                  | nil =>
                    simp only [slRs] at hx4
                    cases hx4
                    have e0 : SR κ io σ H1 δ1 (ent r1 v1 :: ent r2 v2 :: τ) := s1.perm (List.Perm.swap ..)
                    have e1 : SR κ io σ H1 δ3 ((some v1, x1) :: ent r2 v2 :: τ) := e0.sl1 q1 hx1
                    have e2 : SR κ io σ H1 δ2 ((some v1, x1) :: (some v2, x2) :: τ) := by
                      have := (e1.perm (List.Perm.swap ..)).sl1 q2 hx3
                      exact this.perm (List.Perm.swap ..)
                    simp only [stSs] at h2
                    split at h2
                    · cases h2
                    · rename_i δ7 h7
                      split at h2
                      · cases h2
                      · rename_i δ8 h8
                        cases h2
                        exact ⟨v1, v2, rfl, h3 _ _ ((e2.store hp h7).store hp h8)⟩
        · cases h2
theorem inp_add : OpR X (inplaceOp .Add) (fun x y H Q => (∃ i j, x = .int i ∧ y = .int j ∧ Q (.int (i + j)) H) ∨ ∃ i j, x = .str i ∧ y = .str j ∧ i.length + j.length ≤ sizeLine ∧ Q (.str (i ++ j)) H) := by
  intro pins s σ H x y v u Q I rx ry h
  rcases h with h | h
  · exact iop_add pins s σ H x y v u Q I rx ry h
  · exact iop_add_str pins s σ H x y v u Q I rx ry h
def rAug (o : Op) : R2 := fun x y H Q => ∃ d e z, Rep κ H x d ∧ Rep κ H y e ∧ augD o d e = some z ∧ ∀ v, (∀ g, Rep κ g v z) → Q v H
theorem op_aug (o : Op) : OpR X (inplaceOp (opP o)) (rAug (κ := κ) o) := by
  intro pins s σ H x y v u Q I rx ry ⟨d, e, z, kx, ky, hz, hq⟩
  have two : ∀ {i j}, d = .int i → e = .int j → x = .int i ∧ y = .int j := fun e1 e2 => by
    subst e1 e2
    exact ⟨rep_int kx, rep_int ky⟩
  cases o with
  | add =>
    unfold augD at hz
    split at hz <;> try (cases hz; done)
    all_goals first | cases ‹Op.add = _›; done | skip
    · obtain ⟨rfl, rfl⟩ := two rfl rfl
      cases hz
      exact inp_add pins s σ H _ _ v u Q I rx ry (.inl ⟨_, _, rfl, rfl, hq _ fun g => .int _⟩)
    · rename_i a b _
      obtain ⟨rfl, v1⟩ := rep_str kx
      obtain ⟨rfl, v2⟩ := rep_str ky
      split at hz
      · rename_i hl
        cases hz
        refine inp_add pins s σ H _ _ v u Q I rx ry (.inr ⟨_, _, rfl, rfl, by rw [lineEq]; simpa [Str.length] using hl, ?_⟩)
        have ee : (⟨a.toArray⟩ : Str) ++ (⟨b.toArray⟩ : Str) = ⟨(a ++ b).toArray⟩ := by
          show Str.mk (a.toArray ++ b.toArray) = _
          simp
        rw [ee]
        exact hq _ fun g => .str _ fun c hc => (List.mem_append.mp hc).elim (v1 c) (v2 c)
      · cases hz
  | sub =>
    unfold augD at hz
    split at hz <;> try (cases hz; done)
    all_goals first | cases ‹Op.sub = _›; done | skip
    obtain ⟨rfl, rfl⟩ := two rfl rfl
    cases hz
    exact iop_sub pins s σ H _ _ v u Q I rx ry ⟨_, _, rfl, rfl, hq _ fun g => .int _⟩
  | bor =>
    unfold augD at hz
    split at hz <;> try (cases hz; done)
    all_goals first | cases ‹Op.bor = _›; done | skip
    obtain ⟨rfl, rfl⟩ := two rfl rfl
    cases hz
    exact iop_or pins s σ H _ _ v u Q I rx ry ⟨_, _, rfl, rfl, hq _ fun g => .int _⟩
  | _ => simp [augD] at hz
theorem snd_aug {n i : Nat} {x : Str} {o : Op} {e : E} {pos' : Pos} (hp : IoP io p) (hN : X.N.Nodup) (hi : X.N[i]? = some x) (hx : Loc X.env.scope x) (hf : X.fn x = true ∨ X.env.scope.names.lookup x = some .local) (ha : PE X a' (tD κ io W (evE T p e))) :
    PS X (.AugAssign (.Name x pos') (opP o) a' pos) (tDS κ io W (evS T p n (.aug i o e))) :=
  PS.imp (ps_aug hN hi hx ha (op_aug (κ := κ) o) hf) fun D σ H ⟨δ, τ, s, h⟩ => by
    simp only [evS] at h
    split at h
    · rename_i d hd
      obtain ⟨v, e, m⟩ := s.slot hd (by simp)
      have s0 : SR κ io σ H δ ([(some v, .val d)] ++ τ) := ⟨s.len, (s.rel.dup (List.mem_append_left _ m)).perm List.perm_middle.symm, s.io⟩
      refine ⟨v, e, seqS (α := Unit) h s0 fun r δ1 w H1 s1 a1 h1 => ?_⟩
      split at h1
      · rename_i d'
        split at h1
        · rename_i z hz
          obtain ⟨δ', h2, h3⟩ := nxO_post h1
          obtain ⟨f, rf⟩ := s1.rel
          obtain ⟨v1, e1, q1⟩ := rf.at (ov := some v) (d := d) (by simp)
          obtain ⟨w1, e2, q2⟩ := rf.at (ov := some w) (d := d') (by simp [ent, slotOf])
          cases e1
          cases e2
          refine ⟨d, d', z, q1.mono rf.same, q2.mono rf.same, hz, fun u hu => h3 _ _ ?_⟩
          exact SR.store hp (x := .val z) ((s1.tl.tl).scal hu) h2
        · exact h1.elim
      · exact h1.elim
    · exact h.elim
end
end PyV
set_option Elab.async false
set_option linter.all false
set_option maxRecDepth 100000
set_option maxHeartbeats 2000000
namespace PyV
open PySem PySem.Spec PyProof.Rows L2

section
variable {κ : Kx} {io : Option (Nat × V)} {W : WX} {σ : L2.St} {f H : Hp} {δ δ' : Ss} {τ τ' ρ : List En} {Q : VK} {T : Tab} {X : Cx} {a' b' e' c' tg : Expr} {es' : List Expr} {pos : Pos} {pins : List (Addr × Obj)} {s : Shared} {p : Option Nat} {n : Nat}
/-! ## an own one is changed -/
theorem SR.mut {i : Nat} {d : D} (len : σ.length = δ.length) (hio : ∀ j v, io = some (j, v) → σ[j]? = some (some v)) (rf : RelF κ f H (σ.zip δ ++ τ)) (h : sl? δ i = .own d) :
    ∃ a, σ[i]? = some (some (.ref a)) ∧ f a = none ∧ Own κ f H a d ∧ ∀ u d', Own κ f (upd H a u) a d' → SR κ io σ (upd H a u) (δ.set i (.own d')) τ := by
  have s : SR κ io σ H δ τ := ⟨len, ⟨f, rf⟩, hio⟩
  obtain ⟨v, e, m⟩ := s.slot h (by simp)
  obtain ⟨a, e1, hf, o⟩ := rf.atO (List.mem_append_left _ m)
  cases e1
  have hlt : i < δ.length := by
    rw [← len]
    exact (List.getElem?_eq_some_iff.mp e).1
  refine ⟨a, e, hf, o, fun u d' o' => ⟨by rw [List.length_set]; exact len, ?_, hio⟩⟩
  obtain ⟨L, p1, p2, _⟩ := zip_split len hlt τ
  have e2 : ((σ[i]?).getD none, δ.getD i .emp) = (some (.ref a), .own d) := by
    rw [e]
    exact congrArg (Prod.mk (some (V.ref a))) h
  rw [e2] at p1
  have q := p2 (.own d')
  rw [e] at q
  exact Rel.perm q.symm ⟨f, (rf.perm p1).mut o'⟩
theorem var_at {i : Nat} {x : Str} {px : Pos} (hN : X.N[i]? = some x) (hv : Vis X.env.scope x) (hd : (x == ("__debug__" : Str)) = false) (hc : (x == ("__classdict__" : Str)) = false) : PE X (.Name x px) (fun σ H Q => ∃ v, σ[i]? = some (some v) ∧ Q v H) :=
  PE.imp (pe_var hN hv hd hc) fun σ H Q h => h
theorem one_arg {e : E} (h : PE X e' (tD κ io W (evE T p e))) (hs : starEach [e'] X.env = (false, eval e' X.env) :: starEach [] X.env) : PA X [e'] (tCons (tD κ io W (evE T p e)) tNil) := pa_cons h pa_nil hs
theorem fz_own {r : Rv} {d e : D} {i : Nat} (h : fz δ r = some (d, δ')) (hi : sl? δ' i = .own e) : sl? δ i = .own e := by
  cases r with
  | val d' => simp only [fz] at h; cases h; exact hi
  | own d' => simp only [fz] at h; cases h; exact hi
  | ali j =>
    simp only [fz] at h
    split at h
    · cases h
      rename_i hj
      by_cases hij : i = j
      · subst hij
        exfalso
        have hlt : i < δ.length := by
          rcases Nat.lt_or_ge i δ.length with z | z
          · exact z
          · simp [sl?, List.getD, List.getElem?_eq_none z] at hj
        simp [sl?, List.getD, hlt] at hi
      · simp only [sl?, List.getD] at hi ⊢
        rw [List.getElem?_set_ne (Ne.symm hij)] at hi
        exact hi
    · cases h; exact hi
    · cases h
theorem snd_app {i : Nat} {x m : Str} {e : E} {px apos cpos : Pos} (hm : m = "append") (hN : X.N[i]? = some x) (hv : Vis X.env.scope x) (hd : (x == ("__debug__" : Str)) = false) (hc : (x == ("__classdict__" : Str)) = false) (ha : PE X e' (tD κ io W (evE T p e)))
    (hs : starEach [e'] X.env = (false, eval e' X.env) :: starEach [] X.env) (hbase : attributeBase (.Name x px) m X.env (eval (.Name x px) X.env) = eval (.Name x px) X.env)
    (hfew : ((backTo cpos (starEach [e'] X.env)).all (fun x => !x.1) && (backToKw cpos (keywordEach [] X.env)).all (fun x => x.1.isSome) && decide (([e'] : List Expr).length + ([] : List Keyword).length + (if ([] : List Keyword).isEmpty then 0 else 1) < 30)) = true)
    (hline : (apos.endLine == cpos.line) = true) (hsw : swapsWith (.Call (.Attribute (.Name x px) m apos) [e'] [] cpos) none pos.line X.env = pure false) :
    PS X (.Expr (.Call (.Attribute (.Name x px) m apos) [e'] [] cpos) pos) (tDS κ io W (evS T p n (.app i e))) := by
  subst hm
  refine PS.imp (ps_expr (pe_bm F.plainAttrs_list F.slot_list_append F.type_list_append mt_append (var_at hN hv hd hc) (one_arg ha hs) hbase hfew hline hs rfl) hsw) fun D σ H ⟨δ, τ, s, h⟩ => ?_
  simp only [evS] at h
  split at h
  · rename_i ds0 h0
    obtain ⟨v0, e0, m0⟩ := s.slot h0 (by simp)
    obtain ⟨f0, rf0⟩ := s.rel
    obtain ⟨b, e1, _, o0⟩ := rf0.atO (List.mem_append_left _ m0)
    cases e1
    cases o0 with
    | lst q0 r0 =>
      refine ⟨.ref b, e0, .inl ⟨rfl, _, .inl (.inl q0)⟩, ?_⟩
      refine seqS (α := Unit) (ρ := []) h s fun r δ1 v H1 s1 a1 h1 => ?_
      split at h1
      · rename_i d δ2 hd
        have s2 : SR κ io σ H1 δ2 ((some v, .val d) :: τ) := s1.fz1 a1 hd
        split at h1
        · rename_i ds hds
          split at h1
          · rename_i hl
            obtain ⟨f, rf⟩ := s2.rel
            obtain ⟨a, ea, hf, o, mu⟩ := SR.mut s2.len s2.io rf hds
            rw [e0] at ea
            cases ea
            obtain ⟨v', e2, rv⟩ := rf.at (ov := some v) (d := d) (by simp)
            cases e2
            cases o with
            | @lst vs _ q rs =>
              refine ⟨b, vs, v, rfl, rfl, q, by rw [rs.length, lineEq]; exact hl, ?_⟩
              have := (mu (.lst (vs ++ [v])) (.lst (ds ++ [d])) (.lst upd_same (rs.snoc rv))).tl
              exact h1 _ _ this
          · exact h1.elim
        · exact h1.elim
      · exact h1.elim
  · exact h.elim
theorem snd_ext {i : Nat} {x m : Str} {e : E} {px apos cpos : Pos} (hm : m = "extend") (hN : X.N[i]? = some x) (hv : Vis X.env.scope x) (hd : (x == ("__debug__" : Str)) = false) (hc : (x == ("__classdict__" : Str)) = false) (ha : PE X e' (tD κ io W (evE T p e)))
    (hs : starEach [e'] X.env = (false, eval e' X.env) :: starEach [] X.env) (hbase : attributeBase (.Name x px) m X.env (eval (.Name x px) X.env) = eval (.Name x px) X.env)
    (hfew : ((backTo cpos (starEach [e'] X.env)).all (fun x => !x.1) && (backToKw cpos (keywordEach [] X.env)).all (fun x => x.1.isSome) && decide (([e'] : List Expr).length + ([] : List Keyword).length + (if ([] : List Keyword).isEmpty then 0 else 1) < 30)) = true)
    (hline : (apos.endLine == cpos.line) = true) (hsw : swapsWith (.Call (.Attribute (.Name x px) m apos) [e'] [] cpos) none pos.line X.env = pure false) :
    PS X (.Expr (.Call (.Attribute (.Name x px) m apos) [e'] [] cpos) pos) (tDS κ io W (evS T p n (.ext i e))) := by
  subst hm
  refine PS.imp (ps_expr (pe_bm F.plainAttrs_list F.slot_list_extend F.type_list_extend mt_extend (var_at hN hv hd hc) (one_arg ha hs) hbase hfew hline hs rfl) hsw) fun D σ H ⟨δ, τ, s, h⟩ => ?_
  simp only [evS] at h
  split at h
  · rename_i ds0 h0
    obtain ⟨v0, e0, m0⟩ := s.slot h0 (by simp)
    obtain ⟨f0, rf0⟩ := s.rel
    obtain ⟨b, e1, _, o0⟩ := rf0.atO (List.mem_append_left _ m0)
    cases e1
    cases o0 with
    | lst q0 r0 =>
      refine ⟨.ref b, e0, .inl ⟨rfl, _, .inl (.inl q0)⟩, ?_⟩
      refine seqS (α := Unit) (ρ := []) h s fun r δ1 v H1 s1 a1 h1 => ?_
      split at h1
      · rename_i es
        split at h1
        · rename_i ds hds
          split at h1
          · rename_i hl
            have s2 : SR κ io σ H1 δ1 ((some v, .own (.lst es)) :: τ) := s1
            obtain ⟨f, rf⟩ := s2.rel
            obtain ⟨a, ea, hf, o, mu⟩ := SR.mut s2.len s2.io rf hds
            rw [e0] at ea
            cases ea
            obtain ⟨c, e2, _, ov⟩ := rf.atO (ov := some v) (d := .lst es) (by simp)
            cases e2
            cases o with
            | @lst vs _ q rs =>
              cases ov with
              | @lst ws _ q2 rs2 =>
                refine ⟨b, c, vs, ws, rfl, rfl, q, q2, by rw [rs.length, rs2.length, lineEq]; exact hl, ?_⟩
                have := (mu (.lst (vs ++ ws)) (.lst (ds ++ es)) (.lst upd_same (rs.append rs2))).tl
                exact h1 _ _ this
          · exact h1.elim
        · exact h1.elim
      · exact h1.elim
  · exact h.elim
theorem placeD_ixN {k : Nat} {i : Int} : placeD k i = ixN k i := by
  unfold placeD ixN
  rfl
theorem snd_set {i : Nat} {x : Str} {k e : E} {px spos : Pos} (hN : X.N[i]? = some x) (hv : Vis X.env.scope x) (hd : (x == ("__debug__" : Str)) = false) (hc : (x == ("__classdict__" : Str)) = false) (ha : PE X e' (tD κ io W (evE T p e))) (hk : PE X a' (tD κ io W (evE T p k)))
    (has : ∀ v, assign (.Subscript (.Name x px) a' spos) X.env v = (do
      let ov ← holding [v] (eval (.Name x px) X.env)
      let iv ← holding [v, ov] (eval a' X.env)
      standAt spos
      holding [v, ov, iv] (setItem ov iv v)
      release [v, ov, iv] []))
    (hs : swapsWithSole [.Subscript (.Name x px) a' spos] e' pos.line X.env = pure false) (hw : swappedStores [.Subscript (.Name x px) a' spos] e' X.env = pure none)
    (h1 : (assignEach [.Subscript (.Name x px) a' spos] X.env).map (·.2) = [assign (.Subscript (.Name x px) a' spos) X.env]) :
    PS X (.Assign [.Subscript (.Name x px) a' spos] e' pos) (tDS κ io W (evS T p n (.set i k e))) := by
  refine PS.imp (ps_asg ha (pg_sub (var_at hN hv hd hc) hk set_list has) hs hw h1) fun D σ H ⟨δ, τ, s, h⟩ => ?_
  simp only [evS] at h
  refine seqS (α := Unit) (ρ := []) h s fun r δ1 v H1 s1 a1 h1 => ?_
  split at h1
  · rename_i d δ2 hd
    have s2 : SR κ io σ H1 δ2 ([(some v, .val d)] ++ τ) := s1.fz1 a1 hd
    split at h1
    · rename_i ds0 h0
      obtain ⟨v0, e0, _⟩ := s2.slot h0 (by simp)
      refine ⟨v0, e0, seqS (α := Unit) h1 s2 fun r2 δ3 w H2 s3 a2 h2 => ?_⟩
      split at h2
      · rename_i j ds hds
        split at h2
        · rename_i m hm
          have ew : w = .int j := s3.topI
          subst ew
          obtain ⟨f, rf⟩ := s3.rel
          obtain ⟨a, ea, hf, o, mu⟩ := SR.mut s3.len s3.io rf hds
          rw [e0] at ea
          cases ea
          obtain ⟨v', e2, rv⟩ := rf.at (ov := some v) (d := d) (by simp)
          cases e2
          cases o with
          | @lst vs _ q rs =>
            refine ⟨a, vs, j, m, rfl, rfl, q, by rw [rs.length, ← placeD_ixN]; exact hm, ?_⟩
            exact h2 _ _ (mu (.lst (vs.set m v)) (.lst (ds.set m d)) (.lst upd_same (Reps.set rv m rs))).tl.tl
        · exact h2.elim
      · exact h2.elim
    · exact h1.elim
  · exact h1.elim
/-! ### fields -/
theorem zip_put {f : Hp} {g : Str} {v : V} {d : D} (hv : Rep κ f v d) : ∀ {ns : List Str} {vs : List V} {ds : List D}, ns.length = vs.length → Reps κ f vs ds → ∃ ws, putF g v (ns.zip vs) = (fputD g d ns ds).1.zip ws ∧ (fputD g d ns ds).1.length = ws.length ∧ Reps κ f ws (fputD g d ns ds).2
  | [], [], [], _, .nil => ⟨[v], rfl, rfl, .cons hv .nil⟩
  | n :: ns, w :: vs, e :: ds, hl, .cons r t => by
    by_cases h : n = g
    · subst h
      refine ⟨v :: vs, ?_, ?_, ?_⟩
      · simp [putF, fputD]
      · simp only [fputD, if_true]
        simpa using hl
      · simp only [fputD, if_true]
        exact .cons hv t
    · obtain ⟨ws, h1, h2, h3⟩ := zip_put (g := g) hv (ns := ns) (vs := vs) (ds := ds) (by simpa using hl) t
      refine ⟨w :: ws, ?_, ?_, ?_⟩
      · simp only [fputD, if_neg h, List.zip_cons_cons, putF]
        simp [h, h1]
      · simp only [fputD, if_neg h, List.length_cons, h2]
      · simp only [fputD, if_neg h]
        exact .cons r h3
theorem snd_fld {i : Nat} {x g : Str} {e : E} {px pos' : Pos} (hN : X.N[i]? = some x) (hv : Vis X.env.scope x) (hd : (x == ("__debug__" : Str)) = false) (hc : (x == ("__classdict__" : Str)) = false) (hcl : ClsOk κ X.K) (hf : FldOk κ X.K g) (ha : PE X e' (tD κ io W (evE T p e)))
    (hs : swapsWith e' (some (.Attribute (.Name x px) g pos')) pos.line X.env = pure false) : PS X (.Assign [.Attribute (.Name x px) g pos'] e' pos) (tDS κ io W (evS T p n (.fld i g e))) := by
  refine PS.imp (ps_fld (var_at hN hv hd hc) ha hs) fun D σ H ⟨δ, τ, s, h⟩ => ?_
  simp only [evS] at h
  refine seqS (α := Unit) (ρ := []) h s fun r δ1 v H1 s1 a1 h1 => ?_
  split at h1
  · rename_i d δ2 hd
    have s2 : SR κ io σ H1 δ2 ((some v, .val d) :: τ) := s1.fz1 a1 hd
    split at h1
    · rename_i c ns ds hds
      split at h1
      · rename_i hl
        obtain ⟨f, rf⟩ := s2.rel
        obtain ⟨a, ea, hff, o, mu⟩ := SR.mut s2.len s2.io rf hds
        obtain ⟨v', e2, rv⟩ := rf.at (ov := some v) (d := d) (by simp)
        cases e2
        cases o with
        | @obj dx _ _ vs _ hlt q hlen rs =>
          obtain ⟨ws, h2, h3, h4⟩ := zip_put (g := g) rv hlen rs
          refine ⟨_, ea, a, κ.cls c, dx, _, rfl, q, hcl c hlt, hf c hlt, by rw [List.length_zip, ← hlen]; omega, ?_⟩
          rw [h2]
          exact h1 _ _ (mu _ _ (.obj hlt upd_same h3 h4)).tl
      · exact h1.elim
    · exact h1.elim
  · exact h1.elim
/-! ### the rest -/
theorem snd_exp {e : E} (ha : PE X a' (tD κ io W (evE T p e))) (hs : swapsWith a' none pos.line X.env = pure false) : PS X (.Expr a' pos) (tDS κ io W (evS T p n (.exp e))) :=
  PS.imp (ps_expr ha hs) fun D σ H ⟨δ, τ, s, h⟩ => by
    simp only [evS] at h
    exact seqS (α := Unit) (ρ := []) h s fun r δ1 v H1 s1 a1 h1 => h1 _ _ s1.tl
theorem snd_doc {x j pos'} : PS X (.Expr (.Constant (.str x) j pos) pos') (tDS κ io W (evS T p n .pas)) := PS.imp ps_doc fun D σ H ⟨δ, τ, s, h⟩ => by
  simp only [evS] at h
  exact h _ _ s
theorem snd_pas : PS X (.Pass pos) (tDS κ io W (evS T p n .pas)) := PS.imp ps_pass fun D σ H ⟨δ, τ, s, h⟩ => by
  simp only [evS] at h
  exact h _ _ s
theorem snd_brk : PS X (.Break pos) (tDS κ io W (evS T p n .brk)) := PS.imp ps_break fun D σ H ⟨δ, τ, s, h⟩ => by
  simp only [evS] at h
  exact h _ _ s
theorem snd_cnt : PS X (.Continue pos) (tDS κ io W (evS T p n .cnt)) := PS.imp ps_continue fun D σ H ⟨δ, τ, s, h⟩ => by
  simp only [evS] at h
  exact h _ _ s
theorem snd_nevS {st : Stmt} : PS X st (tDS κ io W (evS T p n .nev)) := PS.imp ps_never fun D σ H ⟨δ, τ, s, h⟩ => by
  simp only [evS] at h
  exact h
theorem snd_nevE : PE X e' (tD κ io W (evE T p .nop)) := ⟨fun pins s σ H Q I ⟨δ, τ, sr, h⟩ => by
  simp only [evE] at h
  exact h.elim⟩
theorem snd_ret {e : E} (ha : PE X a' (tD κ io W (evE T p e))) : PS X (.Return (some a') pos) (tDS κ io W (evS T p n (.ret e))) :=
  PS.imp (ps_ret ha) fun D σ H ⟨δ, τ, s, h⟩ => by
    simp only [evS] at h
    refine seqS (α := Unit) (ρ := []) h s fun r δ1 v H1 s1 a1 h1 => ?_
    split at h1
    · rename_i d fr δ2 hr
      cases r with
      | val d' =>
        simp only [retD, Option.some.injEq, Prod.mk.injEq] at hr
        obtain ⟨rfl, rfl, rfl⟩ := hr
        exact h1 _ _ _ s1
      | own d' =>
        simp only [retD, Option.some.injEq, Prod.mk.injEq] at hr
        obtain ⟨rfl, rfl, rfl⟩ := hr
        exact h1 _ _ _ s1
      | ali i =>
        have hi := a1 i rfl
        have s2 := s1.tl
        simp only [retD] at hr
        split at hr
        · rename_i d' hsl
          split at hr
          · cases hr
          · cases hr
            have hlt : i < δ1.length := by
              rw [← s2.len]
              exact (List.getElem?_eq_some_iff.mp hi).1
            obtain ⟨L, p1, p2, _⟩ := zip_split s2.len hlt τ
            have e2 : ((σ[i]?).getD none, δ1.getD i .emp) = (some v, .own d) := by
              rw [hi]
              exact congrArg (Prod.mk (some v)) hsl
            rw [e2] at p1
            have q := p2 .emp
            rw [hi] at q
            refine h1 v σ H1 ⟨by rw [List.length_set]; exact s2.len, ?_, s2.io⟩
            have r1 : Rel κ H1 ((some v, .emp) :: (some v, .own d) :: L) := (s2.rel.perm p1).emp
            exact r1.perm ((List.Perm.swap ..).trans ((q.symm.cons _).trans List.perm_middle.symm))
        · rename_i d' hsl
          cases hr
          have s3 : SR κ io σ H1 δ1 ((some v, .val d) :: τ) := s1.fz1 a1 (by simp only [fz]; rw [hsl])
          exact h1 _ _ _ s3
        · cases hr
    · exact h1.elim
theorem snd_rtn : PS X (.Return none pos) (tDS κ io W (evS T p n .rtn)) := PS.imp ps_retN fun D σ H ⟨δ, τ, s, h⟩ => by
  simp only [evS] at h
  exact h .non σ H (s.scal fun g => .non)
theorem snd_ife {c : E} {a b : List S} {as bs : List Stmt} (hc : PT X c' (tDT κ io W fun s => tstR (evE T p c s))) (ha : PSs X as (tDS κ io W (evB T p n a))) (hb : PSs X bs (tDS κ io W (evB T p n b))) : PS X (.If c' as bs pos) (tDS κ io W (evS T p n (.ife c a b))) :=
  PS.imp (ps_if hc ha hb) fun D σ H ⟨δ, τ, s, h⟩ => by
    simp only [evS] at h
    refine seqST (den := fun s => tstR (evE T p c s)) (ρ := []) h s fun k δ1 H1 s1 h1 => ?_
    cases k with
    | true => exact ⟨δ1, τ, s1, h1⟩
    | false => exact ⟨δ1, τ, s1, h1⟩
theorem snd_bnil : PSs X [] (tDS κ io W (evB T p n [])) := PSs.imp pss_nil fun D σ H ⟨δ, τ, s, h⟩ => by
  simp only [evB] at h
  exact h _ _ s
theorem snd_bcons {st : S} {r : List S} {st' : Stmt} {r' : List Stmt} (h1 : PS X st' (tDS κ io W (evS T p n st))) (h2 : PSs X r' (tDS κ io W (evB T p n r))) : PSs X (st' :: r') (tDS κ io W (evB T p n (st :: r))) :=
  PSs.imp (pss_cons h1 h2) fun D σ H ⟨δ, τ, s, h⟩ => by
    simp only [evB] at h
    refine ⟨δ, τ, s, ?_⟩
    cases e : evS T p n st δ with
    | bad => rw [e] at h; exact h
    | ex x δ1 => rw [e] at h; exact h
    | ok fl δ1 =>
      rw [e] at h
      cases fl with
      | nx => exact fun σ1 H1 s1 => ⟨δ1, τ, s1, h⟩
      | rt d fr => exact h
      | bk => exact h
      | ct => exact h
/-! ### loops -/
theorem postS.more {D : Ends} {r : R Fl} (h : postS κ io W τ D r) : postS κ io W (ρ ++ τ) D r := by
  cases r with
  | bad => exact h
  | ex x δ => exact fun cls d σ H s => h cls d σ H s.cut
  | ok fl δ =>
    cases fl with
    | nx => exact fun σ H s => h σ H s.cut
    | bk => exact fun σ H s => h σ H s.cut
    | ct => exact fun σ H s => h σ H s.cut
    | rt d fr => exact fun v σ H s => h v σ H (s.subl ((List.sublist_append_right ρ τ).cons₂ _))
theorem snd_whl {c : E} {b : List S} {bs : List Stmt} (hp : PassesOwn (model X.prog X.w) X.A X.env X.xe) (hc : PT X c' (tDT κ io W fun s => tstR (evE T p c s))) (hb : PSs X bs (tDS κ io W (evB T p n b))) : PS X (.While c' bs [] pos) (tDS κ io W (evS T p n (.whl c b))) :=
  PS.imp (ps_while hp hc hb) fun D σ H ⟨δ, τ, s, h⟩ => by
    simp only [evS] at h
    refine ⟨fun m σ H => ∃ δ, SR κ io σ H δ τ ∧ postS κ io W τ D (whlN (fun s => tstR (evE T p c s)) (evB T p n b) m δ), ⟨n, δ, s, h⟩, fun m σ H ⟨δ, s, h⟩ => ?_⟩
    cases m with
    | zero => exact h.elim
    | succ m =>
      simp only [whlN] at h
      have h2 : postS κ io W τ D ((tstR (evE T p c δ)).bind fun k s1 => if k = true then (match evB T p n b s1 with
          | .ok .nx s2 => whlN (fun s => tstR (evE T p c s)) (evB T p n b) m s2
          | .ok .ct s2 => whlN (fun s => tstR (evE T p c s)) (evB T p n b) m s2
          | .ok .bk s2 => .ok .nx s2
          | r => r) else .ok .nx s1) := by
        cases e : tstR (evE T p c δ) with
        | bad => rw [e] at h; exact h
        | ex x δ1 => rw [e] at h; exact h
        | ok k δ1 =>
          rw [e] at h
          cases k <;> exact h
      refine seqST (den := fun s => tstR (evE T p c s)) (ρ := []) h2 s fun k δ1 H1 s1 h1 => ?_
      cases k with
      | false => exact h1 _ _ s1
      | true =>
        rw [if_pos rfl]
        simp only [if_true] at h1
        refine ⟨fun σ' H' => ∃ δ', SR κ io σ' H' δ' τ ∧ postS κ io W τ D (whlN (fun s => tstR (evE T p c s)) (evB T p n b) m δ'), fun σ' H' q => ⟨m, Nat.lt_succ_self m, q⟩, δ1, τ, s1, ?_⟩
        cases e : evB T p n b δ1 with
        | bad => rw [e] at h1; exact h1
        | ex x δ2 => rw [e] at h1; exact h1
        | ok fl δ2 =>
          rw [e] at h1
          cases fl with
          | nx => exact fun σ2 H2 s2 => ⟨δ2, s2, h1⟩
          | ct => exact fun σ2 H2 s2 => ⟨δ2, s2, h1⟩
          | bk => exact h1
          | rt d fr => exact h1
theorem snd_for {t : PyV.T} {k : Ik} {its : List E} {b : List S} {bs : List Stmt} (hp : PassesOwn (model X.prog X.w) X.A X.env X.xe) (hc : X.calm = true) (hi : PI X tg e' (tDI κ io W k (evEs T p its))) (hg : PG X tg (gD κ io p t)) (hb : PSs X bs (tDS κ io W (evB T p n b)))
    (hs : ∀ x, foldedSetIterable e' X.env x = pure x) : PS X (.For tg e' bs [] pos) (tDS κ io W (evS T p n (.for_ t k its b))) :=
  PS.imp (ps_for hp hc hi hg hb hs) fun D σ H ⟨δ, τ, s, h⟩ => by
    simp only [evS] at h
    refine ⟨δ, τ, s, ?_⟩
    cases e : evEs T p its δ with
    | bad => rw [e] at h; exact h
    | ex x δ1 => rw [e] at h; exact fun cls d H1 s1 xr => h cls d σ H1 s1 xr
    | ok rs δ1 =>
      rw [e] at h
      simp only [R.bind] at h
      split at h
      · exact h.elim
      · rename_i ds δ2 hf
        split at h
        · exact h.elim
        · rename_i xs hx
          refine ⟨ds, δ2, xs, hf, hx, fun es J H1 s1 it => ?_⟩
          refine ⟨fun i m σ H => i + m = xs.length ∧ ∃ δ, SR κ io σ H δ (es ++ τ) ∧ postS κ io W τ D (forL (asgT p t) (evB T p n b) (xs.drop i) δ), ⟨xs.length, by omega, δ2, s1, h⟩, fun i m σ H ⟨hm, δ, s, h⟩ => ?_⟩
          have rl : Rel κ H (es ++ (σ.zip δ ++ τ)) := s.rel.perm (List.perm_append_comm_assoc ..)
          rcases Nat.lt_or_ge i xs.length with hlt | hge
          · refine .inr ⟨it.go H _ i rl hlt, fun σ' H' => i + 1 + (m - 1) = xs.length ∧ ∃ δ', SR κ io σ' H' δ' (es ++ τ) ∧ postS κ io W τ D (forL (asgT p t) (evB T p n b) (xs.drop (i + 1)) δ'), fun σ' H' q => ⟨m - 1, by omega, q⟩, fun x H' hy => ?_⟩
            have hgx : xs[i]? = some xs[i] := by simp [hlt]
            have r2 := it.yld H _ i x H' _ rl hgx hy
            have s2 : SR κ io σ H' δ ((some x, .val xs[i]) :: (es ++ τ)) := ⟨s.len, r2.perm ((List.Perm.cons _ (List.perm_append_comm_assoc es _ τ)).trans List.perm_middle.symm), s.io⟩
            rw [List.drop_eq_getElem_cons hlt] at h
            simp only [forL] at h
            split at h
            · exact h.elim
            · rename_i δ3 h3
              refine ⟨xs[i], δ, δ3, es ++ τ, s2, h3, fun σ3 H3 s3 _ => ⟨δ3, es ++ τ, s3, ?_⟩⟩
              cases e : evB T p n b δ3 with
              | bad => rw [e] at h; exact h
              | ex x δ2 =>
                rw [e] at h
                exact fun cls d σ H s => h cls d σ H s.cut
              | ok fl δ4 =>
                rw [e] at h
                cases fl with
                | nx => exact fun σ2 H2 s2 => ⟨by omega, δ4, s2, h⟩
                | ct => exact fun σ2 H2 s2 => ⟨by omega, δ4, s2, h⟩
                | bk => exact fun σ2 H2 s2 => h σ2 H2 s2.cut
                | rt d fr => exact fun v σ2 H2 s2 => h v σ2 H2 (s2.subl ((List.sublist_append_right es τ).cons₂ _))
          · refine .inl ⟨it.stop H _ i rl hge, ?_⟩
            rw [List.drop_eq_nil_of_le hge] at h
            exact h σ H s.cut
end
end PyV
set_option Elab.async false
set_option linter.all false
set_option maxRecDepth 100000
set_option maxHeartbeats 2000000
namespace PyV
open PySem PySem.Spec PyProof.Rows L2

section
variable {κ : Kx} {io : Option (Nat × V)} {W : WX} {σ σ' : L2.St} {f H : Hp} {δ δ' : Ss} {τ τ' ρ M : List En} {Q : VK} {T : Tab} {X : Cx} {a' b' e' c' tg : Expr} {es' : List Expr} {pos : Pos} {pins : List (Addr × Obj)} {s : Shared} {p : Option Nat} {n : Nat}
/-! ## slots hidden, slots back -/
theorem wipeS_len : ∀ vs : List Nat, (wipeS vs δ).length = δ.length
  | [] => rfl
  | v :: vs => by simp only [wipeS, List.length_set, wipeS_len vs]
theorem wipe_at {i : Nat} : ∀ {vs : List Nat}, i ∉ vs → (wipe σ vs)[i]? = σ[i]?
  | [], _ => rfl
  | v :: vs, h => by
    rw [List.mem_cons, not_or] at h
    show ((wipe σ vs).set v none)[i]? = σ[i]?
    rw [List.getElem?_set_ne (Ne.symm h.1), wipe_at h.2]
theorem wipe_in {i : Nat} : ∀ {vs : List Nat}, i ∈ vs → (wipe σ vs)[i]? = if i < σ.length then some none else none
  | v :: vs, h => by
    show ((wipe σ vs).set v none)[i]? = _
    by_cases e : v = i
    · subst e
      rw [List.getElem?_set, wipe_length]
      simp
    · rw [List.getElem?_set_ne e]
      rcases List.mem_cons.mp h with h | h
      · exact absurd h.symm e
      · exact wipe_in h
theorem wipe_out {vs ws : List Nat} (h : OutS ws (wipe σ vs) σ') (hw : ∀ i ∈ ws, i ∈ vs) : wipe σ' vs = wipe σ vs := by
  have hl : σ'.length = σ.length := h.1.trans (wipe_length ..)
  apply List.ext_getElem?
  intro i
  by_cases hi : i ∈ vs
  · rw [wipe_in hi, wipe_in hi, hl]
  · rw [wipe_at hi, h.2 i fun z => hi (hw i z)]
theorem Rel.wipe (hl : σ.length = δ.length) (r : Rel κ H (σ.zip δ ++ M)) : ∀ vs : List Nat, Rel κ H ((L2.wipe σ vs).zip (wipeS vs δ) ++ M)
  | [] => r
  | v :: vs => by
    have ih := Rel.wipe hl r vs
    show Rel κ H (((L2.wipe σ vs).set v none).zip ((wipeS vs δ).set v .emp) ++ M)
    have hl2 : (L2.wipe σ vs).length = (wipeS vs δ).length := by rw [wipe_length, wipeS_len, hl]
    rcases Nat.lt_or_ge v (wipeS vs δ).length with hv | hv
    · obtain ⟨L, p1, _, p3⟩ := zip_split hl2 hv M
      exact ((ih.perm p1).tail.emp (o := none)).perm (p3 none .emp).symm
    · rw [List.set_eq_of_length_le (by omega), List.set_eq_of_length_le hv]
      exact ih
theorem SR.wipe {vs : List Nat} (s : SR κ io σ H δ τ) (hp : ∀ j v, io = some (j, v) → j ∉ vs) : SR κ io (L2.wipe σ vs) H (wipeS vs δ) τ :=
  ⟨by rw [wipe_length, wipeS_len, s.len], s.rel.wipe s.len vs, fun j v e => by
    rw [wipe_at (hp j v e)]
    exact s.io j v e⟩
/-- what is hidden -/
def saved (σ : L2.St) (δ : Ss) (vs : List Nat) : List En := vs.map fun v => ((σ[v]?).getD none, δ.getD v .emp)
def NoOwn (δ : Ss) (vs : List Nat) : Prop := ∀ v ∈ vs, ∀ d, sl? δ v ≠ .own d
theorem noOwn_of {vs : List Nat} (h : noOwn p vs δ = true) : NoOwn δ vs ∧ ∀ v ∈ vs, p ≠ some v := by
  unfold noOwn at h
  rw [List.all_eq_true] at h
  refine ⟨fun v hv d e => ?_, fun v hv e => ?_⟩
  · have := h v hv
    rw [e] at this
    simp at this
  · have := h v hv
    rw [e] at this
    simp at this
theorem Rel.again {e : En} (r : Rel κ H M) (hm : e ∈ M) (hn : ∀ d, e.2 ≠ .own d) : Rel κ H (e :: M) := by
  obtain ⟨ov, sl⟩ := e
  cases sl with
  | emp => exact r.emp
  | own d => exact absurd rfl (hn d)
  | val d =>
    obtain ⟨f, rf⟩ := r
    obtain ⟨v, e1, q⟩ := rf.at hm
    subst e1
    exact ⟨f, rf.val q⟩
theorem Rel.save (hl : σ.length = δ.length) (r : Rel κ H (σ.zip δ ++ M)) : ∀ {vs : List Nat}, NoOwn δ vs → Rel κ H (σ.zip δ ++ (saved σ δ vs ++ M))
  | [], _ => r
  | v :: vs, h => by
    have ih := Rel.save hl r (vs := vs) fun u hu => h u (List.mem_cons_of_mem _ hu)
    show Rel κ H (σ.zip δ ++ (((σ[v]?).getD none, δ.getD v .emp) :: (saved σ δ vs ++ M)))
    refine Rel.perm List.perm_middle.symm ?_
    rcases Nat.lt_or_ge v δ.length with hv | hv
    · refine ih.again (List.mem_append_left _ (List.mem_of_getElem? (i := v) ?_)) fun d e => h v List.mem_cons_self d e
      have h2 : v < σ.length := by omega
      rw [List.getElem?_zip_eq_some]
      exact ⟨by simp [h2], by simp [hv]⟩
    · have e1 : σ[v]? = none := List.getElem?_eq_none (by omega)
      have e2 : δ.getD v .emp = .emp := by simp [List.getD, List.getElem?_eq_none hv]
      rw [e1, e2]
      exact ih.emp
def restV (σ : L2.St) : List Nat → L2.St → L2.St
  | [], σ' => σ'
  | v :: vs, σ' => (restV σ vs σ').set v ((σ[v]?).getD none)
theorem restV_len : ∀ vs : List Nat, (restV σ vs σ').length = σ'.length
  | [] => rfl
  | v :: vs => by simp only [restV, List.length_set, restV_len vs]
theorem restS_len : ∀ vs : List Nat, (restS δ vs δ').length = δ'.length
  | [] => rfl
  | v :: vs => by simp only [restS, List.length_set, restS_len vs]
theorem restV_at {i : Nat} : ∀ {vs : List Nat}, (restV σ vs σ')[i]? = if i ∈ vs ∧ i < σ'.length then some ((σ[i]?).getD none) else σ'[i]?
  | [] => by simp [restV]
  | v :: vs => by
    show ((restV σ vs σ').set v _)[i]? = _
    by_cases e : v = i
    · subst e
      rw [List.getElem?_set, restV_len]
      simp
      by_cases h : v < σ'.length
      · simp [h]
      · simp [h]
    · rw [List.getElem?_set_ne e, restV_at]
      have : (i = v) = False := by simpa using fun z => e z.symm
      simp [List.mem_cons, this]
theorem restV_wipe {vs : List Nat} : restV σ vs (L2.wipe σ vs) = σ := by
  apply List.ext_getElem?
  intro i
  rw [restV_at, wipe_length]
  by_cases h : i ∈ vs ∧ i < σ.length
  · rw [if_pos h]
    simp [h.2]
  · rw [if_neg h]
    by_cases hi : i ∈ vs
    · rw [wipe_in hi, if_neg fun z => h ⟨hi, z⟩]
      exact (List.getElem?_eq_none (by
        rcases Nat.lt_or_ge i σ.length with z | z
        · exact absurd ⟨hi, z⟩ h
        · exact z)).symm
    · rw [wipe_at hi]
theorem Rel.rest (hl : σ'.length = δ'.length) : ∀ {vs : List Nat}, NoOwn δ vs → (∀ e ∈ saved σ δ vs, e ∈ M) → Rel κ H (σ'.zip δ' ++ M) → Rel κ H ((restV σ vs σ').zip (restS δ vs δ') ++ M)
  | [], _, _, r => r
  | v :: vs, h, hm, r => by
    have ih := Rel.rest hl (vs := vs) (fun u hu => h u (List.mem_cons_of_mem _ hu)) (fun e he => hm e (List.mem_cons_of_mem _ he)) r
    show Rel κ H (((restV σ vs σ').set v ((σ[v]?).getD none)).zip ((restS δ vs δ').set v (sl? δ v)) ++ M)
    have hl2 : (restV σ vs σ').length = (restS δ vs δ').length := by rw [restV_len, restS_len, hl]
    rcases Nat.lt_or_ge v (restS δ vs δ').length with hv | hv
    · obtain ⟨L, p1, _, p3⟩ := zip_split hl2 hv M
      have q := ih.perm p1
      have me : ((σ[v]?).getD none, δ.getD v .emp) ∈ ((restV σ vs σ')[v]?.getD none, (restS δ vs δ').getD v .emp) :: L := p1.mem_iff.mp (List.mem_append_right _ (hm _ List.mem_cons_self))
      have q2 := q.again me fun d e => h v List.mem_cons_self d e
      exact (q2.sub ((List.sublist_cons_self ..).cons₂ _)).perm (p3 _ _).symm
    · rw [List.set_eq_of_length_le (by omega), List.set_eq_of_length_le hv]
      exact ih

/-! ## comprehensions -/
def condD (T : Tab) (p : Option Nat) (c : E) : Ss → R Bool := match c with
  | .nop => fun s => .ok true s
  | c => fun s => tstR (evE T p c s)
theorem lc_eq {elt c : E} {t : PyV.T} {k : Ik} {its : List E} {own : List Nat} {s : Ss} : evE T p (.lc elt t k its c own) s = (evEs T p its s).bind fun rs s1 => match fzs s1 rs with
    | none => .bad
    | some (ds, s2) => match itemsD k ds with
      | none => .bad
      | some xs => if noOwn p own s2 = true then
          match lcL (asgT p t) (condD T p c) (evE T p elt) (wipeS own) xs [] (wipeS own s2) with
          | .ok acc s3 => .ok (.own (.lst acc)) (restS s2 own s3)
          | _ => .bad
        else .bad := by
  unfold evE
  cases c <;> rfl
def wF : WX := fun _ _ _ _ => False
theorem takes_blk {s : Shared} {H : Hp} {scope : Scope} {cenv : Env} {fp : List Addr} : Takes (X.blk s H scope cenv fp) wF := fun u s' ⟨a, B, sI, pins, σ, H, cls, d, e, I, nb, up, sky, na, os, ag, w⟩ => w.elim
theorem PTs.imp {ifs : List Expr} {t t' : TT} (h : PTs X ifs t) (k : ∀ σ H Q, t' σ H Q → t σ H Q) : PTs X ifs t' := ⟨fun pins s σ H Q I q => h.run pins s σ H Q I (k σ H Q q)⟩
theorem snd_no_if : PTs X [] (tDT κ io W (condD T p .nop)) := PTs.imp pts_nil fun σ H Q ⟨δ, τ, s, h⟩ => h H s
theorem snd_one_if {c : E} (ne : c ≠ .nop) (h : PT X c' (tDT κ io W fun s => tstR (evE T p c s))) : PTs X [c'] (tDT κ io W (condD T p c)) := PTs.imp (pts_one h) fun σ H Q q => by
  have e : condD T p c = fun s => tstR (evE T p c s) := by
    cases c <;> first | rfl | exact absurd rfl ne
  rw [e] at q
  exact q
theorem lc_use {J : It} {es : List En} {xs : List D} {acc : List D} {s3 : Ss} {vs : List Nat} {t : PyV.T} {c elt : E} {R : D → Prop} (hp : IoP io p) (sr : SR κ io σ H δ (es ++ τ)) (it : ItD κ J es xs) (hno : noOwn p vs δ = true) (htv : ∀ i ∈ tvs t, i ∈ vs)
    (hl : lcL (asgT p t) (condD T p c) (evE T p elt) (wipeS vs) xs [] (wipeS vs δ) = .ok acc s3) (hq : okE κ io σ τ Q (.own (.lst acc)) (restS δ vs s3)) :
    ∀ D, H D = none → ∃ W : Nat → Nat → Hp → Prop, (∃ m, W 0 m (upd H D (.lst []))) ∧ ∀ i m H, W i m H →
      (J.stop i H ∧ Q (.ref D) H) ∨ (J.go i H ∧ ∃ Nx : Hp → Prop, (∀ H', Nx H' → ∃ m', m' < m ∧ W (i + 1) m' H') ∧ ∀ x H', J.yld i H x H' → gD κ io p t x (L2.wipe σ vs) H' fun σ2 H2 => L2.wipe σ2 vs = L2.wipe σ vs ∧ tDT κ io wF (condD T p c) σ2 H2 fun b H3 =>
        if b = true then tD κ io wF (evE T p elt) σ2 H3 fun y H4 => ∃ acc, H4 D = some (.lst acc) ∧ acc.length < sizeLine ∧ Nx (upd H4 D (.lst (acc ++ [y]))) else Nx H3) := by
  intro A hA
  obtain ⟨no, np⟩ := noOwn_of hno
  have hio : ∀ j v, io = some (j, v) → j ∉ vs := fun j v e hm => np j hm (hp j v e)
  have s1 : SR κ io (L2.wipe σ vs) H (wipeS vs δ) (saved σ δ vs ++ (es ++ τ)) := SR.wipe ⟨sr.len, sr.rel.save sr.len no, sr.io⟩ hio
  refine ⟨fun i m H => i + m = xs.length ∧ ∃ δi ai, SR κ io (L2.wipe σ vs) H δi ((some (.ref A), .own (.lst ai)) :: (saved σ δ vs ++ (es ++ τ))) ∧ lcL (asgT p t) (condD T p c) (evE T p elt) (wipeS vs) (xs.drop i) ai δi = .ok acc s3,
    ⟨xs.length, by omega, _, [], ?_, hl⟩, fun i m H ⟨hm, δi, ai, s, h⟩ => ?_⟩
  · obtain ⟨f, rf⟩ := s1.rel
    have := rf.laid (u := .lst []) (d := .lst []) hA (.lst upd_same .nil)
    exact ⟨s1.len, Rel.perm List.perm_middle.symm ⟨f, this⟩, s1.io⟩
  · have rl : Rel κ H (es ++ ((L2.wipe σ vs).zip δi ++ ((some (.ref A), .own (.lst ai)) :: (saved σ δ vs ++ τ)))) := by
      refine s.rel.perm ?_
      refine List.Perm.trans ?_ (List.perm_append_comm_assoc ..)
      refine List.Perm.append_left _ ?_
      refine List.Perm.trans (List.Perm.cons _ (List.perm_append_comm_assoc ..)) ?_
      exact List.perm_middle.symm
    rcases Nat.lt_or_ge i xs.length with hlt | hge
    · refine .inr ⟨it.go H _ i rl hlt, fun H' => i + 1 + (m - 1) = xs.length ∧ ∃ δj aj, SR κ io (L2.wipe σ vs) H' δj ((some (.ref A), .own (.lst aj)) :: (saved σ δ vs ++ (es ++ τ))) ∧ lcL (asgT p t) (condD T p c) (evE T p elt) (wipeS vs) (xs.drop (i + 1)) aj δj = .ok acc s3,
        fun H' q => ⟨m - 1, by omega, q⟩, fun x H' hy => ?_⟩
      have hgx : xs[i]? = some xs[i] := by simp [hlt]
      have r2 := it.yld H _ i x H' _ rl hgx hy
      have s2 : SR κ io (L2.wipe σ vs) H' δi ((some x, .val xs[i]) :: ((some (.ref A), .own (.lst ai)) :: (saved σ δ vs ++ (es ++ τ)))) := by
        refine ⟨s.len, r2.perm ?_, s.io⟩
        refine List.Perm.trans (List.Perm.cons _ ?_) List.perm_middle.symm
        refine List.Perm.trans (List.perm_append_comm_assoc ..) (List.Perm.append_left _ ?_)
        exact List.perm_middle.trans (List.Perm.cons _ (List.perm_append_comm_assoc ..))
      rw [List.drop_eq_getElem_cons hlt] at h
      simp only [lcL] at h
      split at h
      · cases h
      · rename_i δ3 h3
        refine ⟨xs[i], δi, δ3, _, s2, h3, fun σ2 H2 s3' out => ⟨wipe_out out htv, δ3, _, s3', ?_⟩⟩
        have hw := wipe_out out htv
        have back : ∀ {H' : Hp} {δ' : Ss} {L : List En}, SR κ io σ2 H' δ' L → SR κ io (L2.wipe σ vs) H' (wipeS vs δ') L := fun {H' δ' L} q => hw ▸ q.wipe hio
        cases e : condD T p c δ3 with
        | bad => rw [e] at h; cases h
        | ex x s => rw [e] at h; cases h
        | ok b δ4 =>
          rw [e] at h
          intro H3 s4
          cases b with
          | false =>
            rw [if_neg Bool.false_ne_true]
            exact ⟨by omega, wipeS vs δ4, ai, back s4, h⟩
          | true =>
            rw [if_pos rfl]
            refine ⟨δ4, _, s4, ?_⟩
            simp only at h
            cases e2 : evE T p elt δ4 with
            | bad => rw [e2] at h; cases h
            | ex x s => rw [e2] at h; cases h
            | ok r δ5 =>
              rw [e2] at h
              simp only at h
              intro y H4 s5 a5
              split at h
              · cases h
              · rename_i z δ6 hz
                split at h
                · rename_i hlen
                  have s6 : SR κ io σ2 H4 δ6 ((some y, .val z) :: (some (.ref A), .own (.lst ai)) :: (saved σ δ vs ++ (es ++ τ))) := s5.fz1 a5 hz
                  obtain ⟨f, rf⟩ := s6.rel
                  obtain ⟨y', e3, ry⟩ := rf.at (ov := some y) (d := z) (by simp)
                  cases e3
                  obtain ⟨A', e4, hfA, o⟩ := rf.atO (ov := some (.ref A)) (d := .lst ai) (by simp)
                  cases e4
                  cases o with
                  | @lst ws _ q rs =>
                    refine ⟨ws, q, by rw [rs.length, lineEq]; exact hlen, by omega, wipeS vs δ6, ai ++ [z], back ?_, h⟩
                    have pm : (σ2.zip δ6 ++ ((some y, .val z) :: (some (.ref A), .own (.lst ai)) :: (saved σ δ vs ++ (es ++ τ)))).Perm ((some (.ref A), .own (.lst ai)) :: (σ2.zip δ6 ++ ((some y, .val z) :: (saved σ δ vs ++ (es ++ τ))))) :=
                      (List.Perm.append_left _ (List.Perm.swap ..)).trans List.perm_middle
                    have r7 := (rf.perm pm).mut (u := .lst (ws ++ [y])) (d' := .lst (ai ++ [z])) (.lst upd_same (rs.snoc ry))
                    refine ⟨s6.len, Rel.perm List.perm_middle.symm (Rel.sub ?_ ⟨f, r7⟩), s6.io⟩
                    exact ((List.sublist_cons_self ..).append_left _).cons₂ _
                · cases h
    · refine .inl ⟨it.stop H _ i rl hge, ?_⟩
      rw [List.drop_eq_nil_of_le hge] at h
      simp only [lcL] at h
      cases h
      refine hq (.ref A) H ⟨?_, ?_, sr.io⟩ (fun i e => nomatch e)
      · have := s.len
        rw [wipe_length] at this
        rw [restS_len]
        exact this
      · have r3 := Rel.rest (σ := σ) (δ := δ) s.len no (fun e he => List.mem_cons_of_mem _ (List.mem_append_left _ he)) s.rel
        rw [restV_wipe] at r3
        refine r3.sub (List.Sublist.append_left ?_ _)
        show List.Sublist (_ :: τ) (_ :: (saved σ δ vs ++ (es ++ τ)))
        refine List.Sublist.cons₂ _ ?_
        exact (List.sublist_append_right es τ).trans (List.sublist_append_right _ _)
section
variable {elt' iter' : Expr} {ifs : List Expr} {scope : Scope} {own : List (Str × Nat)} {elt c : E} {t : PyV.T} {k : Ik} {its : List E}
theorem lc_read (hp : IoP io p) (htv : ∀ i ∈ tvs t, i ∈ own.map (·.2)) : ∀ σ H Q, tD κ io W (evE T p (.lc elt t k its c (own.map (·.2)))) σ H Q →
    tLc (tDI κ io W k (evEs T p its)) (gD κ io p t) (tDT κ io wF (condD T p c)) (tD κ io wF (evE T p elt)) (own.map (·.2)) σ H Q := fun σ H Q ⟨δ, τ, s, h⟩ => by
  rw [lc_eq] at h
  refine ⟨δ, τ, s, ?_⟩
  cases e : evEs T p its δ with
  | bad => rw [e] at h; exact h
  | ex x δ1 => rw [e] at h; exact h
  | ok rs δ1 =>
    rw [e] at h
    simp only [R.bind] at h
    split at h
    · exact h.elim
    · rename_i ds δ2 hf
      split at h
      · exact h.elim
      · rename_i xs hx
        split at h
        · rename_i hno
          refine ⟨ds, δ2, xs, hf, hx, fun es J H1 s1 it => ?_⟩
          split at h
          · rename_i acc s3 hl
            exact lc_use (R := fun _ => True) hp s1 it hno htv hl h
          · exact h.elim
        · exact h.elim
theorem snd_lc (hp : IoP io p) (hc : X.calm = true) (hN : X.N.Nodup) (hi : PI X tg iter' (tDI κ io W k (evEs T p its))) (ok : BlkOk X.N X.env.scope scope own)
    (hg : ∀ (s : Shared) (H : Hp) (C : Addr) (cl : List (Str × Addr)) (fp : List Addr), PG (X.blk s H scope (compEnvC scope cl C X.env) fp) tg (gD κ io p t)) (ht : ∀ (s : Shared) (H : Hp) (C : Addr) (cl : List (Str × Addr)) (fp : List Addr), PTs (X.blk s H scope (compEnvC scope cl C X.env) fp) ifs (tDT κ io wF (condD T p c)))
    (he : ∀ (s : Shared) (H : Hp) (C : Addr) (cl : List (Str × Addr)) (fp : List Addr), PE (X.blk s H scope (compEnvC scope cl C X.env) fp) elt' (tD κ io wF (evE T p elt))) (hs : ∀ x, foldedSetIterable iter' X.env x = pure x) (htv : ∀ i ∈ tvs t, i ∈ own.map (·.2)) :
    PE X (.ListComp elt' [⟨tg, iter', ifs, 0⟩] scope pos) (tD κ io W (evE T p (.lc elt t k its c (own.map (·.2))))) :=
  PE.imp (pe_lc hc hN hi ok hg ht he hs) (lc_read hp htv)
theorem snd_setLc {i : Nat} {y : Str} {py spos : Pos} (hp : IoP io p) (hc : X.calm = true) (hN : X.N.Nodup) (hy : X.N[i]? = some y) (hyl : X.env.scope.names.lookup y = some .local) (hsw : swapsWith (.ListComp elt' [⟨tg, iter', ifs, 0⟩] scope pos) (some (.Name y py)) spos.line X.env = pure true)
    (hi : PI X tg iter' (tDI κ io W k (evEs T p its))) (ok : BlkOk X.N X.env.scope scope own)
    (hg : ∀ (s : Shared) (H : Hp) (C : Addr) (cl : List (Str × Addr)) (fp : List Addr), PG (X.blk s H scope (compEnvC scope cl C X.env) fp) tg (gD κ io p t)) (ht : ∀ (s : Shared) (H : Hp) (C : Addr) (cl : List (Str × Addr)) (fp : List Addr), PTs (X.blk s H scope (compEnvC scope cl C X.env) fp) ifs (tDT κ io wF (condD T p c)))
    (he : ∀ (s : Shared) (H : Hp) (C : Addr) (cl : List (Str × Addr)) (fp : List Addr), PE (X.blk s H scope (compEnvC scope cl C X.env) fp) elt' (tD κ io wF (evE T p elt))) (hs : ∀ x, foldedSetIterable iter' X.env x = pure x) (htv : ∀ i ∈ tvs t, i ∈ own.map (·.2)) :
    PS X (.Assign [.Name y py] (.ListComp elt' [⟨tg, iter', ifs, 0⟩] scope pos) spos) (tDS κ io W (evS T p n (.asg (.v i) (.lc elt t k its c (own.map (·.2)))))) :=
  PS.imp (ps_setLc hc hN hy hyl hsw hi ok hg ht he hs) fun D σ H ⟨δ, τ, s, h⟩ => by
    simp only [evS] at h
    refine lc_read (W := W) hp htv σ H _ (seqS (α := Unit) (ρ := []) h s fun r δ1 v H1 s1 a1 h1 => ?_)
    obtain ⟨δ', h2, h3⟩ := nxO_post h1
    unfold putR at h2
    split at h2
    · rename_i x δ2 hx
      exact h3 _ _ ((s1.sl1 a1 hx).store hp h2)
    · cases h2
end
end
end PyV
set_option Elab.async false
set_option linter.all false
set_option maxRecDepth 100000
set_option maxHeartbeats 2000000
namespace PyV
open PySem PySem.Spec PyProof.Rows L2

section
variable {κ : Kx} {io : Option (Nat × V)} {W : WX} {σ σ' : L2.St} {f H : Hp} {δ δ' : Ss} {τ τ' ρ M : List En} {Q : VK} {T : Tab} {X : Cx} {a' b' e' c' tg : Expr} {es' : List Expr} {pos : Pos} {pins : List (Addr × Obj)} {s : Shared} {p : Option Nat} {n : Nat}
/-! ## three names at once -/
def setAll : L2.St → List Nat → List V → L2.St
  | σ, i :: is, v :: vs => setAll (σ.set i (some v)) is vs
  | σ, _, _ => σ
def slE : List V → List Sl → List En
  | v :: vs, x :: xs => (some v, x) :: slE vs xs
  | _, _ => []
theorem SR.sls : ∀ {rs : List Rv} {vs : List V} {xs : List Sl} {δ : Ss} {τ : List En}, SR κ io σ H δ (ents rs vs ++ τ) → Alis σ rs vs → slRs δ rs = some (xs, δ') → SR κ io σ H δ' (slE vs xs ++ τ) ∧ vs.length = xs.length
  | [], _, xs, δ, τ, s, a, h => by
    cases a
    simp only [slRs] at h
    cases h
    exact ⟨s, rfl⟩
  | r :: rs, _, xs, δ, τ, s, a, h => by
    cases a with
    | @cons _ v _ vs a1 a2 =>
      simp only [slRs] at h
      split at h
      · cases h
      · rename_i x δ1 hx
        split at h
        · cases h
        · rename_i xs2 δ2 hxs
          cases h
          have s1 : SR κ io σ H δ (ent r v :: (ents rs vs ++ τ)) := s.perm (by
            show ((ents rs vs ++ [ent r v]) ++ τ).Perm _
            simpa using List.perm_middle)
          have s3 : SR κ io σ H δ1 (ents rs vs ++ ((some v, x) :: τ)) := (s1.sl1 a1 hx).perm List.perm_middle.symm
          obtain ⟨s4, l⟩ := SR.sls s3 a2 hxs
          exact ⟨s4.perm List.perm_middle, congrArg (· + 1) l⟩
theorem SR.stores (hp : IoP io p) : ∀ {is : List Nat} {vs : List V} {xs : List Sl} {σ : L2.St} {δ : Ss}, vs.length = xs.length → SR κ io σ H δ (slE vs xs ++ τ) → stSs p is xs δ = some δ' → SR κ io (setAll σ is vs) H δ' τ ∧ is.length = vs.length
  | [], vs, xs, σ, δ, hl, s, h => by
    cases xs with
    | nil =>
      simp only [stSs] at h
      cases h
      have : vs = [] := List.eq_nil_of_length_eq_zero hl
      subst this
      exact ⟨s, rfl⟩
    | cons x xs => simp [stSs] at h
  | i :: is, vs, xs, σ, δ, hl, s, h => by
    cases xs with
    | nil => simp [stSs] at h
    | cons x xs =>
      cases vs with
      | nil => simp at hl
      | cons v vs =>
        simp only [stSs] at h
        split at h
        · cases h
        · rename_i δ1 h1
          obtain ⟨q, l⟩ := SR.stores hp (by simpa using hl) (s.store (x := x) hp h1) h
          exact ⟨q, congrArg (· + 1) l⟩
theorem SR.puts {is : List Nat} {rs : List Rv} {vs : List V} (hp : IoP io p) (s : SR κ io σ H δ (ents rs vs ++ τ)) (a : Alis σ rs vs) (h : putRs p is rs δ = some δ') : SR κ io (setAll σ is vs) H δ' τ ∧ is.length = vs.length := by
  unfold putRs at h
  split at h
  · rename_i xs δ1 hx
    obtain ⟨s1, l⟩ := s.sls a hx
    exact s1.stores hp l h
  · cases h
theorem snd_par3 {n i j l : Nat} {x y z : Str} {a b c : E} {px py pz pt : Pos} {kt k2 pt2} (hp : IoP io p) (hc : X.calm = true) (hN : X.N.Nodup) (hi : X.N[i]? = some x) (hj : X.N[j]? = some y) (hl : X.N[l]? = some z) (hij : i ≠ j) (hil : i ≠ l) (hjl : j ≠ l)
    (hx : X.env.scope.names.lookup x = some .local) (hy : X.env.scope.names.lookup y = some .local) (hz : X.env.scope.names.lookup z = some .local)
    (ha : PA X [a', b', c'] (tDA κ io W (evEs T p [a, b, c]))) (hw : swappedStores [.Tuple [.Name x px, .Name y py, .Name z pz] kt pt] (.Tuple [a', b', c'] k2 pt2) X.env = pure (some [x, y, z]))
    (hs : swapsWithSole [.Tuple [.Name x px, .Name y py, .Name z pz] kt pt] (.Tuple [a', b', c'] k2 pt2) pos.line X.env = pure false) :
    PS X (.Assign [.Tuple [.Name x px, .Name y py, .Name z pz] kt pt] (.Tuple [a', b', c'] k2 pt2) pos) (tDS κ io W (evS T p n (.par [i, j, l] [a, b, c]))) :=
  PS.imp (ps_par3 hc hN hi hj hl hij hil hjl hx hy hz ha hw hs) fun D σ H ⟨δ, τ, s, h⟩ => by
    simp only [evS] at h
    refine seqSA (ρ := []) h s fun rs δ1 vs H1 s1 a1 h1 => ?_
    obtain ⟨δ', h2, h3⟩ := nxO_post h1
    obtain ⟨s2, ln⟩ := s1.puts hp a1 h2
    match vs, ln, s2 with
    | [u, v, w], _, s2 => exact ⟨u, v, w, rfl, h3 _ _ s2⟩
end

/-! ## what is looked at in the text -/
/-- names that the law's tables give: of each def (its own, or the attribute's), constant, class; the level of a def, its kind (0 a def, 1 a property, 2 an __init__), whose __init__; fields, constants, types that are known -/
structure Nm where
  fn : Nat → Str
  gl : Nat → Str
  cl : Nat → Str
  lv : Nat → Nat
  kd : Nat → Nat
  fld : Str → Bool
  gk : Nat → Bool
  ty : Ty → Bool
/-- where: names, scope, levels that are left, defs that are known -/
structure Mc where
  N : List Str
  sc : Scope
  lsc : Scope
  k : Nat
  ok : List Nat
  ini : Nat → Nat
def visB (sc : Scope) (x : Str) : Bool := match sc.names.lookup x with
  | some .local => true
  | some .cell => true
  | some .free => true
  | _ => false
def locB (sc : Scope) (x : Str) : Bool := match sc.names.lookup x with
  | some .local => true
  | some .cell => true
  | _ => false
def loc1B (sc : Scope) (x : Str) : Bool := match sc.names.lookup x with
  | some .local => true
  | _ => false
def glB (sc : Scope) (x : Str) : Bool := match sc.names.lookup x with
  | some .globalImplicit => true
  | _ => false
def nmB (x : Str) : Bool := !(x == ("__debug__" : Str)) && !(x == ("__classdict__" : Str))
def opB : Op → Operator → Bool
  | .add, .Add => true
  | .sub, .Sub => true
  | .mul, .Mult => true
  | .fdiv, .FloorDiv => true
  | .mod, .Mod => true
  | .pow, .Pow => true
  | .shl, .LShift => true
  | .shr, .RShift => true
  | .band, .BitAnd => true
  | .bor, .BitOr => true
  | .bxor, .BitXor => true
  | _, _ => false
def coB : Co → CmpOp → Bool
  | .eq, .Eq => true
  | .ne, .NotEq => true
  | .lt, .Lt => true
  | .le, .LtE => true
  | .gt, .Gt => true
  | .ge, .GtE => true
  | .inn, .In => true
  | .nin, .NotIn => true
  | _, _ => false
theorem opB_eq {o : Op} {q : Operator} (h : opB o q = true) : q = opP o := by cases o <;> cases q <;> first | rfl | cases h
theorem coB_eq {o : Co} {q : CmpOp} (h : coB o q = true) : q = coP o := by cases o <;> cases q <;> first | rfl | cases h
/-- no star -/
def nsB : Expr → Bool
  | .Starred _ _ => false
  | _ => true
theorem nsB_star {a : Expr} {r : List Expr} {env : Env} (h : nsB a = true) : starEach (a :: r) env = (false, eval a env) :: starEach r env := by
  cases a <;> first | rfl | cases h
def nsBs : List Expr → Bool
  | [] => true
  | a :: r => nsB a && nsBs r
theorem nsBs_any {pos : Pos} {env : Env} : ∀ {r : List Expr}, nsBs r = true → (backTo pos (starEach r env)).any (·.1) = false
  | [], _ => rfl
  | a :: r, h => by
    simp only [nsBs, Bool.and_eq_true] at h
    rw [nsB_star h.1]
    show (false || (backTo pos (starEach r env)).any (·.1)) = false
    rw [nsBs_any h.2]
    rfl
/-- not super() -/
def bsB : Expr → Bool
  | .Call (.Name id _) [] [] _ => id != ("super" : Str)
  | _ => true
theorem bsB_base {a : Expr} {g : Str} {env : Env} {w : Sem Value} (h : bsB a = true) : attributeBase a g env w = w := by
  cases a <;> first | rfl | skip
  rename_i f as ks p
  cases f <;> first | rfl | skip
  rename_i id q
  cases as <;> cases ks <;> first | rfl | skip
  have h2 : (id != ("super" : Str)) = true := h
  unfold attributeBase
  simp only [h2, Bool.true_or, if_true]
def ixB : Expr → Bool
  | .Slice _ _ none _ => false
  | _ => true
theorem ixB_plain {b : Expr} (h : ixB b = true) : PlainIx b := fun o i => by
  cases b <;> first | rfl | skip
  rename_i lo hi st q
  cases st
  · cases h
  · rfl
/-- no display of a set -/
theorem noSet_folded {e : Expr} {env : Env} (h : noSet e = true) : ∀ x, foldedSetIterable e env x = pure x := fun x => by
  cases e <;> first | rfl | cases h
/-- its truth is its value's -/
def tvB : Expr → Bool
  | .UnaryOp .Not _ _ => false
  | .BoolOp _ _ _ => false
  | .IfExp _ _ _ _ => false
  | .Compare _ _ _ _ => false
  | _ => true
theorem tvB_truth {a : Expr} {env : Env} (h : tvB a = true) : ∀ whole, isTrue a env whole = (do let v ← whole; standAt a.pos; holding [v] (truthy v)) := fun whole => by
  cases a <;> first | rfl | (cases h; done) | skip
  rename_i o x q
  cases o <;> first | rfl | cases h
/-- no comprehension -/
def ncB : Expr → Bool
  | .ListComp _ _ _ _ => false
  | .SetComp _ _ _ _ => false
  | .DictComp _ _ _ _ _ => false
  | _ => true
theorem ncB_swaps {a : Expr} {t : Option Expr} {l : Nat} {env : Env} (h : ncB a = true) : swapsWith a t l env = pure false := by
  cases a <;> first | rfl | cases h
def isNop : E → Bool
  | .nop => true
  | _ => false
theorem isNop_ne {e : E} (h : isNop e = false) : e ≠ .nop := fun z => by rw [z] at h; cases h
def mtN : Mt → Str
  | .count => "count"
  | .join => "join"
  | _ => ""
mutual
def mtT (m : Mc) : T → Expr → Bool
  | .v i, e' => match e' with
    | .Name x _ => decide (m.N[i]? = some x) && locB m.lsc x
    | _ => false
  | .tup ts, e' => match e' with
    | .Tuple es _ _ => mtTs m ts es
    | _ => false
def mtTs (m : Mc) : List T → List Expr → Bool
  | [], es => match es with
    | [] => true
    | _ => false
  | t :: ts, es => match es with
    | e :: es => mtT m t e && mtTs m ts es
    | [] => false
end
def tyNm (nm : Nm) : Ty → Str
  | .tint => "int"
  | .tbool => "bool"
  | .tstr => "str"
  | .ttuple => "tuple"
  | .tlist => "list"
  | .cls c => nm.cl c
/-- the tests that are looked at as tests -/
def tstB : E → Expr → Bool
  | .and a b, e' => match e' with
    | .BoolOp .And (a' :: b' :: rest) pos => tstB a a' && (match rest with
      | [] => tstB b b'
      | r :: rs => tstB b (.BoolOp .And (b' :: r :: rs) pos))
    | _ => false
  | .or a b, e' => match e' with
    | .BoolOp .Or (a' :: b' :: rest) pos => tstB a a' && (match rest with
      | [] => tstB b b'
      | r :: rs => tstB b (.BoolOp .Or (b' :: r :: rs) pos))
    | _ => false
  | .not a, e' => match e' with
    | .UnaryOp .Not a' _ => tstB a a'
    | _ => false
  | .cmp _ _ _, _ => true
  | .ch2 _ _ _ _ _, _ => true
  | .ch3 _ _ _ _ _ _ _, _ => true
  | .isn _, _ => true
  | .nsn _, _ => true
  | _, e' => tvB e'
def inner (m : Mc) (scope : Scope) : Mc := { m with sc := relS scope m.sc, lsc := scope }
def ownN (m : Mc) (own : List Nat) : List (Str × Nat) := own.map fun i => ((m.N[i]?).getD "", i)
def itB (sc : Scope) (k : Ik) (iter tg : Expr) : Bool := match k with
  | .plain => nsB iter
  | .rng => match iter with
    | .Call (.Name x _) es' [] _ => decide (x = "range") && glB sc x && (es'.length == 1 || es'.length == 2 || es'.length == 3)
    | _ => false
  | .enm => match iter, tg with
    | .Call (.Name x _) [_] [] _, .Tuple _ _ _ => decide (x = "enumerate") && glB sc x
    | _, _ => false
  | .zip => match iter, tg with
    | .Call (.Name x _) [_, _] [] _, .Tuple _ _ _ => decide (x = "zip") && glB sc x
    | _, _ => false
def itEs (k : Ik) (iter : Expr) : List Expr := match k with
  | .plain => [iter]
  | _ => match iter with
    | .Call _ es' _ _ => es'
    | _ => []
mutual
def mtE (nm : Nm) : Mc → E → Expr → Bool
  | m, .var i, e' => match e' with
    | .Name x _ => decide (m.N[i]? = some x) && visB m.sc x && nmB x
    | _ => false
  | m, .non, e' => match e' with
    | .Constant .none _ _ => true
    | _ => false
  | m, .bl b, e' => match e' with
    | .Constant (.bool c) _ _ => b == c
    | _ => false
  | m, .int b, e' => match e' with
    | .Constant (.int c) _ _ => decide (b = c)
    | _ => false
  | m, .str b, e' => match e' with
    | .Constant (.str c) _ _ => decide (c.cps.toList = b) && b.all fun c => decide (c < 1114112)
    | _ => false
  | m, .glb g, e' => match e' with
    | .Name x _ => decide (nm.gl g = x) && nm.gk g && glB m.sc x && nmB x
    | _ => false
  | m, .bin o a b, e' => match e' with
    | .BinOp a' q b' _ => opB o q && mtE nm m a a' && mtE nm m b b'
    | _ => false
  | m, .neg a, e' => match e' with
    | .UnaryOp .USub a' _ => mtE nm m a a'
    | _ => false
  | m, .cmp o a b, e' => match e' with
    | .Compare a' [q] [b'] _ => coB o q && noSet b' && mtE nm m a a' && mtE nm m b b'
    | _ => false
  | m, .ch2 a o b o2 c, e' => match e' with
    | .Compare a' [q, q2] [b', c'] _ => coB o q && coB o2 q2 && noSet c' && mtE nm m a a' && mtE nm m b b' && mtE nm m c c'
    | _ => false
  | m, .ch3 a o b o2 c o3 d, e' => match e' with
    | .Compare a' [q, q2, q3] [b', c', d'] _ => coB o q && coB o2 q2 && coB o3 q3 && noSet d' && mtE nm m a a' && mtE nm m b b' && mtE nm m c c' && mtE nm m d d'
    | _ => false
  | m, .isn a, e' => match e' with
    | .Compare a' [.Is] [.Constant .none _ _] _ => mtE nm m a a'
    | _ => false
  | m, .nsn a, e' => match e' with
    | .Compare a' [.IsNot] [.Constant .none _ _] _ => mtE nm m a a'
    | _ => false
  | m, .and a b, e' => match e' with
    | .BoolOp .And (a' :: b' :: rest) pos => mtE nm m a a' && (match rest with
      | [] => mtE nm m b b'
      | r :: rs => mtE nm m b (.BoolOp .And (b' :: r :: rs) pos))
    | _ => false
  | m, .or a b, e' => match e' with
    | .BoolOp .Or (a' :: b' :: rest) pos => mtE nm m a a' && (match rest with
      | [] => mtE nm m b b'
      | r :: rs => mtE nm m b (.BoolOp .Or (b' :: r :: rs) pos))
    | _ => false
  | m, .not a, e' => match e' with
    | .UnaryOp .Not a' _ => mtE nm m a a'
    | _ => false
  | m, .ite c a b, e' => match e' with
    | .IfExp c' a' b' _ => mtE nm m c c' && tstB c c' && mtE nm m a a' && mtE nm m b b'
    | _ => false
  | m, .tup es, e' => match e' with
    | .Tuple es' _ _ => mtEs nm m es es'
    | _ => false
  | m, .lst es, e' => match e' with
    | .List es' _ => mtEs nm m es es'
    | _ => false
  | m, .lstS k es, e' => match e' with
    | .List es' _ => mtXs nm m k es es'
    | _ => false
  | m, .att a f, e' => match e' with
    | .Attribute a' g _ => decide (f = g) && nm.fld f && bsB a' && mtE nm m a a'
    | _ => false
  | m, .sub a b, e' => match e' with
    | .Subscript a' b' _ => ixB b' && mtE nm m a a' && mtE nm m b b'
    | _ => false
  | m, .nop, _ => true
  | m, .slc a lo hi, e' => match e' with
    | .Subscript a' (.Slice lo' hi' none _) _ => mtE nm m a a' && (match lo' with
        | none => isNop lo
        | some l => !isNop lo && mtE nm m lo l) && (match hi' with
        | none => isNop hi
        | some l => !isNop hi && mtE nm m hi l)
    | _ => false
  | m, .rev a, e' => match e' with
    | .Subscript a' (.Slice none none (some (.UnaryOp .USub (.Constant (.int 1) _ _) _)) _) _ => mtE nm m a a'
    | _ => false
  | m, .call f es, e' => match e' with
    | .Call (.Name x _) es' [] _ => m.ok.contains f && decide (nm.lv f ≤ m.k) && decide (nm.kd f = 0) && decide (nm.fn f = x) && glB m.sc x && nmB x && mtEs nm m es es'
    | _ => false
  | m, .bi b es, e' => match e' with
    | .Call (.Name x _) es' [] _ => decide (biN b = x) && decide (x ≠ "") && glB m.sc x && !es'.isEmpty && mtEs nm m es es'
    | _ => false
  | m, .mth t a es, e' => match e' with
    | .Call (.Attribute a' g apos) [b'] [] pos => decide (mtN t = g) && decide (g ≠ "") && bsB a' && (apos.endLine == pos.line) && (es.length == 1) && mtE nm m a a' && mtEs nm m es [b']
    | _ => false
  | m, .bits a, e' => match e' with
    | .Call (.Attribute a' g apos) [] [] pos => decide (g = "bit_length") && bsB a' && (apos.endLine == pos.line) && mtE nm m a a'
    | _ => false
  | m, .prp f a, e' => match e' with
    | .Attribute a' g _ => m.ok.contains f && decide (nm.lv f + 1 ≤ m.k) && decide (nm.kd f = 1) && decide (nm.fn f = g) && bsB a' && mtE nm m a a'
    | _ => false
  | m, .umt f a es, e' => match e' with
    | .Call (.Attribute a' g apos) es' [] pos => m.ok.contains f && decide (nm.lv f ≤ m.k) && decide (nm.kd f = 3) && decide (nm.fn f = g) && bsB a' && (apos.endLine == pos.line) && decide (es'.length < 30) && mtE nm m a a' && mtEs nm m es es'
    | _ => false
  | m, .new c es, e' => match e' with
    | .Call (.Name x _) es' [] _ => m.ok.contains (m.ini c) && decide (nm.lv (m.ini c) + 1 ≤ m.k) && decide (nm.kd (m.ini c) = 2) && decide (nm.cl c = x) && glB m.sc x && nmB x && mtEs nm m es es'
    | _ => false
  | m, .isi a t, e' => match e' with
    | .Call (.Name x _) [a', .Name y _] [] _ => decide (x = "isinstance") && glB m.sc x && nsB a' && nm.ty t && decide (tyNm nm t = y) && glB m.sc y && nmB y && mtE nm m a a'
    | _ => false
  | m, .lc elt t k its c own, e' => match e' with
    | .ListComp elt' [⟨tg, iter, ifs, 0⟩] scope _ => blkC m.N m.sc scope (ownN m own) && (tvs t).all (own.contains ·) && noSet iter && itB m.sc k iter tg && mtEs nm m its (itEs k iter) && mtT (inner m scope) t tg &&
        (match ifs with
         | [] => isNop c
         | [c'] => !isNop c && tstB c c' && mtE nm (inner m scope) c c'
         | _ => false) && mtE nm (inner m scope) elt elt'
    | _ => false
def mtEs (nm : Nm) : Mc → List E → List Expr → Bool
  | m, [], es' => match es' with
    | [] => true
    | _ => false
  | m, e :: es, es' => match es' with
    | e' :: es' => nsB e' && mtE nm m e e' && mtEs nm m es es'
    | [] => false
def mtXs (nm : Nm) : Mc → Nat → List E → List Expr → Bool
  | m, _, [], es' => match es' with
    | [] => true
    | _ => false
  | m, 0, e :: es, es' => match es' with
    | e' :: es' => nsB e' && mtE nm m e e' && mtXs nm m 0 es es'
    | [] => false
  | m, k + 1, e :: es, es' => match es' with
    | .Starred e' _ :: es' => mtE nm m e e' && mtXs nm m k es es'
    | _ => false
end
end PyV
set_option Elab.async false
set_option linter.all false
set_option maxRecDepth 100000
set_option maxHeartbeats 2000000
namespace PyV
open PySem PySem.Spec PyProof.Rows L2

/-! ## the law's program -/
structure Gc where
  P : Program
  w : World
  mg : Str → Option Value
  base : Heap
  κ : Kx
  T : Tab
  nm : Nm
/-- a def that keeps its promise -/
def Known (g : Gc) (f : Nat) : Prop := ∃ (fa : Addr) (fd : FuncData) (ps : List Str), Fg g.P g.w g.κ.K g.mg g.base (g.nm.lv f) fa fd ps (spD g.κ g.T f) ∧ Binds g.κ.K fd ps [] ∧
  (g.nm.kd f = 0 → g.mg (g.nm.fn f) = some (.ref fa) ∧ PySem.W.keepIn g.κ.K (.ref fa) = true) ∧
  (g.nm.kd f = 1 → ∃ pr, ∀ c, c < g.κ.n → g.T.mem f c = true → PropOf g.κ.K (g.κ.cls c) (g.nm.fn f) pr fa) ∧
  (g.nm.kd f = 2 → ∀ c, g.T.ini c = f → c < g.κ.n ∧ g.T.io f = some 0 ∧ Mk g.κ.K (g.κ.cls c) fa ∧ g.mg (g.nm.cl c) = some (.ref (g.κ.cls c))) ∧
  (g.nm.kd f = 3 → g.T.nm f = g.nm.fn f ∧ PySem.W.keepIn g.κ.K (.ref fa) = true ∧ ∀ c, c < g.κ.n → g.T.mem f c = true → Meth g.κ.K (g.κ.cls c) (g.nm.fn f) fa)
/-- an own == -/
def EqKnown (g : Gc) (f c : Nat) : Prop := ∃ (fa : Addr) (fd : FuncData) (ps : List Str), Fg g.P g.w g.κ.K g.mg g.base (g.nm.lv f) fa fd ps (spD g.κ g.T f) ∧ Binds g.κ.K fd ps [] ∧
  PySem.W.findIn g.κ.K (.ref (g.κ.cls c)) "__eq__" = some (some (.ref fa)) ∧ PySem.W.isFn g.κ.K (.ref fa) = true
def bNames : List Str := ["len", "abs", "int", "str", "repr", "list", "tuple", "max", "min", "sum", "all", "any", "sorted", "isinstance", "range", "enumerate", "zip", "bool"]
structure Gf (g : Gc) : Prop where
  bn : ∀ x ∈ bNames, g.mg x = none
  cls : ClsOk g.κ g.κ.K
  fld : ∀ s, g.nm.fld s = true → FldOk g.κ g.κ.K s
  gl : ∀ i, g.nm.gk i = true → ∃ v u, g.mg (g.nm.gl i) = some u ∧ RelV v u ∧ ∀ f, Rep g.κ f v (g.T.gl i)
  isi : ∀ t, g.nm.ty t = true → IsiOk g.κ g.κ.K t
  cln : ∀ c, g.nm.ty (.cls c) = true → g.mg (g.nm.cl c) = some (.ref (g.κ.cls c))
  eq : ∀ c f, g.T.eqf c = some f → c < g.κ.n → EqKnown g f c
/-- the place -/
structure XOk (g : Gc) (X : Cx) (m : Mc) (W : WX) : Prop where
  eP : X.prog = g.P
  eW : X.w = g.w
  eK : X.K = g.κ.K
  eM : X.mg = g.mg
  eB : X.base = g.base
  N : X.N = m.N
  sc : X.env.scope = m.sc
  nd : m.N.Nodup
  calm : X.calm = true
  gd : X.A.guards = some []
  room : Room m.k X.A
  tk : Takes X W
  fn : ∀ x, locB m.lsc x = true → L2.Loc X.env.scope x ∧ (X.fn x = true ∨ X.env.scope.names.lookup x = some .local)
  known : ∀ f, m.ok.contains f = true → Known g f
  ini : m.ini = g.T.ini
  ek : ∀ c f, g.T.eqf c = some f → c < g.κ.n → g.nm.lv f ≤ m.k

section
variable {g : Gc} {X : Cx} {m : Mc} {W : WX} {io : Option (Nat × V)} {p : Option Nat} {e' : Expr} {es' : List Expr} {e : E} {es : List E}
theorem XOk.hu (x : XOk g X m W) : X.A.units + 64 < cLine := by have := x.room.un; omega
theorem XOk.vis (x : XOk g X m W) {y : Str} (h : visB m.sc y = true) : Vis X.env.scope y := by
  unfold visB at h
  unfold Vis
  rw [x.sc]
  split at h
  · exact .inl (by assumption)
  · exact .inr (.inl (by assumption))
  · exact .inr (.inr (by assumption))
  · cases h
theorem XOk.loc1 (x : XOk g X m W) {y : Str} (h : loc1B m.sc y = true) : X.env.scope.names.lookup y = some .local := by
  unfold loc1B at h
  rw [x.sc]
  split at h
  · assumption
  · cases h
theorem XOk.glob (x : XOk g X m W) {y : Str} (h : glB m.sc y = true) : Gl X y := by
  unfold glB at h
  show X.env.scope.names.lookup y = _
  rw [x.sc]
  split at h
  · assumption
  · cases h
theorem nmB_of {y : Str} (h : nmB y = true) : (y == ("__debug__" : Str)) = false ∧ (y == ("__classdict__" : Str)) = false := by
  unfold nmB at h
  rw [Bool.and_eq_true] at h
  exact ⟨by simpa using h.1, by simpa using h.2⟩
theorem XOk.at (x : XOk g X m W) {i : Nat} {y : Str} (h : m.N[i]? = some y) : X.N[i]? = some y := by rw [x.N]; exact h
theorem XOk.bn (x : XOk g X m W) (gf : Gf g) {y : Str} (h : y ∈ bNames) : X.mg y = none := by rw [x.eM]; exact gf.bn y h
theorem XOk.fg (x : XOk g X m W) {k : Nat} {fa : Addr} {fd : FuncData} {ps : List Str} {sp : Sp} (F : Fg g.P g.w g.κ.K g.mg g.base k fa fd ps sp) : Fg X.prog X.w X.K X.mg X.base k fa fd ps sp := by
  rw [x.eP, x.eW, x.eK, x.eM, x.eB]
  exact F
theorem XOk.cmp (x : XOk g X m W) (o : Co) : OpR X (compareOp (coP o)) (rCmp g.κ.K o) := by
  rw [← x.eK]
  exact op_cmp x.hu o
theorem XOk.cmpX (x : XOk g X m W) (gf : Gf g) (o : Co) : OpR X (compareOp (coP o)) (rCmpX g.κ g.T o) :=
  op_cmpX x.eK.symm x.hu (op_eqD x.gd fun c f h hc => by
    obtain ⟨fa, fd, ps, F, B, h1, h2⟩ := gf.eq c f h hc
    exact ⟨fa, fd, ps, _, x.fg F, by rw [x.eK]; exact B, by rw [x.eK]; exact h1, by rw [x.eK]; exact h2, x.room.mono (x.ek c f h hc)⟩) o
theorem XOk.blk (x : XOk g X m W) {scope : Scope} {s : Shared} {H : Hp} {cl : List (Str × Addr)} {C : Addr} {fp : List Addr} : XOk g (X.blk s H scope (compEnvC scope cl C X.env) fp) (inner m scope) wF where
  eP := x.eP
  eW := x.eW
  eK := x.eK
  eM := x.eM
  eB := x.eB
  N := x.N
  sc := by
    show relS scope X.env.scope = relS scope m.sc
    rw [x.sc]
  nd := x.nd
  calm := x.calm
  gd := x.gd
  room := x.room
  tk := takes_blk
  fn := fun y h => by
    have look : ∀ {l : List (Str × NameKind)} {k : NameKind}, l.lookup y = some k → k ≠ .free → (l.map fun (n, k) => if (k == .free && m.sc.kind == .function && m.sc.names.lookup n == some .cell) = true then (n, NameKind.cell) else (n, k)).lookup y = some k := by
      intro l k hl hk
      induction l with
      | nil => simp at hl
      | cons q l ih =>
        obtain ⟨n, k2⟩ := q
        rw [List.lookup_cons] at hl
        rw [List.map_cons]
        by_cases e : (y == n) = true
        · rw [e] at hl
          cases hl
          have : (k == NameKind.free) = false := by simpa using hk
          simp only [this, Bool.false_and, Bool.false_eq_true, if_false]
          rw [List.lookup_cons, e]
        · have e2 : (y == n) = false := by simpa using e
          rw [e2] at hl
          have ih2 := ih hl
          simp only
          split
          · rw [List.lookup_cons, e2]
            exact ih2
          · rw [List.lookup_cons, e2]
            exact ih2
    show L2.Loc (relS scope X.env.scope) y ∧ ((scope.names.lookup y == some .cell) = true ∨ (relS scope X.env.scope).names.lookup y = some .local)
    rw [x.sc]
    have h : locB scope y = true := h
    unfold locB at h
    split at h
    · rename_i hl
      have e := look hl (by decide)
      exact ⟨.inl e, .inr e⟩
    · rename_i hl
      have e := look hl (by decide)
      exact ⟨.inr e, .inl (by rw [hl]; rfl)⟩
    · cases h
  known := x.known
  ini := x.ini
  ek := x.ek
end
end PyV
set_option Elab.async false
set_option linter.all false
set_option maxRecDepth 100000
set_option maxHeartbeats 4000000
namespace PyV
open PySem PySem.Spec PyProof.Rows L2

def isBO : Expr → Bool
  | .BoolOp _ _ _ => true
  | _ => false
/-- an expression that is what the interpreter has for it: as a value, as a test, as the rest of an and or or -/
structure Snd (κ : Kx) (io : Option (Nat × V)) (W : WX) (T : Tab) (p : Option Nat) (X : Cx) (e : E) (e' : Expr) : Prop where
  pe : PE X e' (tD κ io W (evE T p e))
  pt : tstB e e' = true → PT X e' (tDT κ io W fun s => tstR (evE T p e s))
  pw : isBO e' = true → tstB e e' = true → PW X e' (tDT κ io W fun s => tstR (evE T p e s))
section
variable {g : Gc} {X : Cx} {m : Mc} {W : WX} {io : Option (Nat × V)} {p : Option Nat} {e' : Expr} {es' : List Expr} {e : E} {es : List E} {κ : Kx} {T : Tab}
theorem Snd.of (h : PE X e' (tD κ io W (evE T p e))) (ht : tstB e e' = true → tvB e' = true) : Snd κ io W T p X e e' :=
  ⟨h, fun t => snd_test h (tvB_truth (ht t)), fun b t => by
    have := ht t
    cases e' <;> first | (cases b; done) | cases this⟩
theorem Snd.ofT (h : PE X e' (tD κ io W (evE T p e))) (ht : PT X e' (tDT κ io W fun s => tstR (evE T p e s))) (hb : isBO e' = false) : Snd κ io W T p X e e' :=
  ⟨h, fun _ => ht, fun b => by rw [hb] at b; cases b⟩
theorem mtEs_ns {nm : Nm} : ∀ {es : List E} {es' : List Expr}, mtEs nm m es es' = true → nsBs es' = true ∧ es.length = es'.length
  | [], es', h => by
    simp only [mtEs] at h
    split at h
    · exact ⟨rfl, rfl⟩
    · cases h
  | e :: es, es', h => by
    simp only [mtEs] at h
    split at h
    · simp only [Bool.and_eq_true] at h
      obtain ⟨q1, q2⟩ := mtEs_ns h.2
      exact ⟨by simp [nsBs, h.1.1, q1], congrArg (· + 1) q2⟩
    · cases h
theorem ns_first (h : nsBs es' = true) (pos : Pos) (env : Env) : (∀ e r, es' = e :: r → starEach es' env = (false, eval e env) :: starEach r env) ∧ (∀ e r, es' = e :: r → (backTo pos (starEach r env)).any (·.1) = false) := by
  refine ⟨fun e r q => ?_, fun e r q => ?_⟩
  · subst q
    simp only [nsBs, Bool.and_eq_true] at h
    exact nsB_star h.1
  · subst q
    simp only [nsBs, Bool.and_eq_true] at h
    exact nsBs_any h.2
theorem len_nil (h : es.length = es'.length) : es' = [] → es = [] := fun q => by
  subst q
  exact List.eq_nil_of_length_eq_zero h
theorem biN_mem {b : Bi} (h : biN b ≠ "") : biN b ∈ bNames := by
  cases b <;> first | (exact absurd rfl h) | decide
theorem tyW_name (x : XOk g X m W) (gf : Gf g) {t : Ty} {y : Str} {q : Pos} (ht : g.nm.ty t = true) (hy : tyNm g.nm t = y) (hg : glB m.sc y = true) (hn : nmB y = true) : PE X (.Name y q) (tC (tyW g.κ t)) := by
  obtain ⟨h1, h2⟩ := nmB_of hn
  cases t with
  | cls c => exact pe_glob (x.glob hg) (by rw [x.eM, ← hy]; exact gf.cln c ht) rfl h1
  | tint => have e : y = "int" := hy.symm; subst e; exact pe_bltn (x.glob hg) (x.bn gf (by decide)) (by rfl) rfl
  | tbool => have e : y = "bool" := hy.symm; subst e; exact pe_bltn (x.glob hg) (x.bn gf (by decide)) (by rfl) rfl
  | tstr => have e : y = "str" := hy.symm; subst e; exact pe_bltn (x.glob hg) (x.bn gf (by decide)) (by rfl) rfl
  | ttuple => have e : y = "tuple" := hy.symm; subst e; exact pe_bltn (x.glob hg) (x.bn gf (by decide)) (by rfl) rfl
  | tlist => have e : y = "list" := hy.symm; subst e; exact pe_bltn (x.glob hg) (x.bn gf (by decide)) (by rfl) rfl
/-! ### targets -/
theorem mtT_ns {t : PyV.T} {e' : Expr} (h : mtT m t e' = true) {r : List Expr} {env : Env} : assignEach (e' :: r) env = (false, assign e' env) :: assignEach r env := by
  cases t with
  | v i =>
    simp only [mtT] at h
    split at h
    · rfl
    · cases h
  | tup ts =>
    simp only [mtT] at h
    split at h
    · rfl
    · cases h
theorem mtTs_len : ∀ {ts : List PyV.T} {es : List Expr} {env : Env}, mtTs m ts es = true → (assignEach es env).length = ts.length ∧ (assignEach es env).findIdx? (·.1) = none
  | [], es, env, h => by
    simp only [mtTs] at h
    split at h
    · exact ⟨rfl, rfl⟩
    · cases h
  | t :: ts, es, env, h => by
    simp only [mtTs] at h
    split at h
    · simp only [Bool.and_eq_true] at h
      obtain ⟨q1, q2⟩ := mtTs_len (env := env) h.2
      rw [mtT_ns h.1]
      refine ⟨congrArg (· + 1) q1, ?_⟩
      rw [List.findIdx?_cons]
      simp [q2]
    · cases h
mutual
theorem sndT_ (x : XOk g X m W) (hp : IoP io p) : ∀ (t : PyV.T) {e' : Expr}, mtT m t e' = true → PG X e' (gD g.κ io p t)
  | .v i, e', h => by
    simp only [mtT] at h
    split at h
    · simp only [Bool.and_eq_true, decide_eq_true_eq] at h
      obtain ⟨q1, q2⟩ := x.fn _ h.2
      exact snd_tv hp (by rw [x.N]; exact x.nd) (x.at h.1) q1 q2
    · cases h
  | .tup ts, e', h => by
    simp only [mtT] at h
    split at h
    · obtain ⟨q1, q2⟩ := mtTs_len (env := X.env) h
      exact snd_ttup x.eK.symm x.calm (sndTs_ x hp ts h) q1 q2
    · cases h
theorem sndTs_ (x : XOk g X m W) (hp : IoP io p) : ∀ (ts : List PyV.T) {es' : List Expr}, mtTs m ts es' = true → PGs X es' (gsD g.κ io p ts)
  | [], es', h => by
    simp only [mtTs] at h
    split at h
    · exact snd_tnil
    · cases h
  | t :: ts, es', h => by
    simp only [mtTs] at h
    split at h
    · simp only [Bool.and_eq_true] at h
      exact snd_tcons (sndT_ x hp t h.1) (sndTs_ x hp ts h.2) (by rw [mtT_ns h.1]; rfl)
    · cases h
end
/-! ### what is walked -/
theorem snd_iter (x : XOk g X m W) (gf : Gf g) {k : Ik} {its : List E} {iter tg : Expr} (hi : itB m.sc k iter tg = true) (hm : mtEs g.nm m its (itEs k iter) = true) (ha : PA X (itEs k iter) (tDA g.κ io W (evEs g.T p its)))
    (h1 : ∀ e e', its = [e] → itEs k iter = [e'] → PE X e' (tD g.κ io W (evE g.T p e))) : PI X tg iter (tDI g.κ io W k (evEs g.T p its)) := by
  obtain ⟨ns, ln⟩ := mtEs_ns hm
  cases k with
  | plain =>
    have e1 : itEs .plain iter = [iter] := rfl
    rw [e1] at ln
    match its, ln with
    | [e], _ => exact snd_it x.eK.symm (h1 e iter rfl rfl)
  | rng =>
    unfold itB at hi
    simp only at hi
    split at hi
    · rename_i y q es' pos
      simp only [Bool.and_eq_true, decide_eq_true_eq, Bool.or_eq_true, beq_iff_eq] at hi
      obtain ⟨⟨hy, hg⟩, hl⟩ := hi
      have e1 : itEs .rng (.Call (.Name y q) es' [] pos) = es' := rfl
      rw [e1] at ln ha ns
      have hmg : X.mg y = none := x.bn gf (by rw [hy]; decide)
      rcases hl with (hl | hl) | hl
      · match es', its, hl, ln, ns with
        | [a'], [a], _, _, ns =>
          simp only [nsBs, Bool.and_eq_true] at ns
          exact snd_rng1 hy (x.glob hg) hmg ha (nsB_star ns.1)
      · match es', its, hl, ln, ns with
        | [a', b'], [a, b], _, _, ns =>
          simp only [nsBs, Bool.and_eq_true] at ns
          exact snd_rng2 hy (x.glob hg) hmg ha (by rw [nsB_star ns.1, nsB_star ns.2.1]; rfl) (nsB_star ns.2.1)
      · match es', its, hl, ln, ns with
        | [a', b', c'], [a, b, c], _, _, ns =>
          simp only [nsBs, Bool.and_eq_true] at ns
          exact snd_rng3 hy (x.glob hg) hmg ha (nsB_star ns.1) (nsBs_any (by simp only [nsBs, Bool.and_eq_true]; exact ns.2))
    · cases hi
  | enm =>
    unfold itB at hi
    simp only at hi
    split at hi
    · rename_i y q a' pos elts kk tpos
      simp only [Bool.and_eq_true, decide_eq_true_eq] at hi
      obtain ⟨hy, hg⟩ := hi
      have e1 : itEs .enm (.Call (.Name y q) [a'] [] pos) = [a'] := rfl
      rw [e1] at ln ha ns
      match its, ln with
      | [a], _ =>
        simp only [nsBs, Bool.and_eq_true] at ns
        exact snd_enum x.eK.symm hy (x.glob hg) (x.bn gf (by rw [hy]; decide)) ha (nsB_star ns.1)
    · cases hi
  | zip =>
    unfold itB at hi
    simp only at hi
    split at hi
    · rename_i y q a' b' pos elts kk tpos
      simp only [Bool.and_eq_true, decide_eq_true_eq] at hi
      obtain ⟨hy, hg⟩ := hi
      have e1 : itEs .zip (.Call (.Name y q) [a', b'] [] pos) = [a', b'] := rfl
      rw [e1] at ln ha ns
      match its, ln with
      | [a, b], _ =>
        simp only [nsBs, Bool.and_eq_true] at ns
        exact snd_zip x.eK.symm hy (x.glob hg) (x.bn gf (by rw [hy]; decide)) ha (nsB_star ns.1) (nsBs_any (by simp only [nsBs, Bool.and_eq_true]; exact ns.2))
    · cases hi
end
end PyV
set_option Elab.async false
set_option linter.all false
set_option maxRecDepth 100000
set_option maxHeartbeats 8000000
namespace PyV
open PySem PySem.Spec PyProof.Rows L2

section
variable {g : Gc} (gf : Gf g)
/-- the lists, by their members -/
theorem kn_call {X : Cx} {m : Mc} {W : WX} {io : Option (Nat × V)} {p : Option Nat} {es' : List Expr} {es : List E} (x : XOk g X m W) {f : Nat} {y : Str} {q pos : Pos} (h1 : m.ok.contains f = true) (h2 : g.nm.lv f ≤ m.k) (h3 : g.nm.kd f = 0) (h4 : g.nm.fn f = y) (h5 : glB m.sc y = true) (h6 : nmB y = true)
    (hm : mtEs g.nm m es es' = true) (ha : PA X es' (tDA g.κ io W (evEs g.T p es))) : PE X (.Call (.Name y q) es' [] pos) (tD g.κ io W (evE g.T p (.call f es))) := by
  obtain ⟨fa, fd, ps, F, B, k0, _, _, _⟩ := x.known f h1
  obtain ⟨c1, c2⟩ := k0 h3
  obtain ⟨ns, ln⟩ := mtEs_ns hm
  obtain ⟨n1, n2⟩ := ns_first ns pos X.env
  exact snd_call (x.fg F) (x.room.mono h2) x.gd (x.glob h5) (by rw [x.eM, ← h4]; exact c1) (by rw [x.eK]; exact c2) (by rw [x.eK]; exact B) x.tk ha (len_nil ln) (nmB_of h6).1 n1 n2
theorem kn_prp {X : Cx} {m : Mc} {W : WX} {io : Option (Nat × V)} {p : Option Nat} {a' : Expr} {a : E} (gf : Gf g) (x : XOk g X m W) {f : Nat} {y : Str} {pos : Pos} (h1 : m.ok.contains f = true) (h2 : g.nm.lv f + 1 ≤ m.k) (h3 : g.nm.kd f = 1) (h4 : g.nm.fn f = y) (h5 : bsB a' = true)
    (ha : PE X a' (tD g.κ io W (evE g.T p a))) : PE X (.Attribute a' y pos) (tD g.κ io W (evE g.T p (.prp f a))) := by
  obtain ⟨fa, fd, ps, F, B, _, k1, _, _⟩ := x.known f h1
  obtain ⟨pr, c1⟩ := k1 h3
  subst h4
  exact snd_prp ha (fun c hc hm => ⟨by rw [x.eK]; exact gf.cls c hc, by rw [x.eK]; exact c1 c hc hm⟩) (x.fg F) (x.room.mono h2) x.gd (by rw [x.eK]; exact B) (bsB_base h5)
theorem kn_new {X : Cx} {m : Mc} {W : WX} {io : Option (Nat × V)} {p : Option Nat} {es' : List Expr} {es : List E} (x : XOk g X m W) {c : Nat} {y : Str} {q pos : Pos} (h1 : m.ok.contains (m.ini c) = true) (h2 : g.nm.lv (m.ini c) + 1 ≤ m.k) (h3 : g.nm.kd (m.ini c) = 2) (h4 : g.nm.cl c = y) (h5 : glB m.sc y = true) (h6 : nmB y = true)
    (hm : mtEs g.nm m es es' = true) (ha : PA X es' (tDA g.κ io W (evEs g.T p es))) : PE X (.Call (.Name y q) es' [] pos) (tD g.κ io W (evE g.T p (.new c es))) := by
  obtain ⟨fa, fd, ps, F, B, _, _, k2, _⟩ := x.known _ h1
  rw [x.ini] at h2 h3 F k2
  obtain ⟨c1, c2, c3, c4⟩ := k2 h3 c rfl
  obtain ⟨ns, ln⟩ := mtEs_ns hm
  obtain ⟨n1, n2⟩ := ns_first ns pos X.env
  exact snd_new c1 c2 (by rw [x.eK]; exact c3) (x.fg F) (x.room.mono h2) x.gd (x.glob h5) (by rw [x.eM, ← h4]; exact c4) (by rw [x.eK]; exact B) x.tk ha (len_nil ln) (nmB_of h6).1 n1 n2
theorem nsBs_all {pos : Pos} {env : Env} : ∀ {r : List Expr}, nsBs r = true → (backTo pos (starEach r env)).all (fun x => !x.1) = true
  | [], _ => rfl
  | a :: r, h => by
    simp only [nsBs, Bool.and_eq_true] at h
    rw [nsB_star h.1]
    show (!false && (backTo pos (starEach r env)).all (fun x => !x.1)) = true
    rw [nsBs_all h.2]
    rfl
theorem kn_umt {X : Cx} {m : Mc} {W : WX} {io : Option (Nat × V)} {p : Option Nat} {a' : Expr} {es' : List Expr} {a : E} {es : List E} (gf : Gf g) (x : XOk g X m W) {f : Nat} {y : Str} {apos pos : Pos} (h1 : m.ok.contains f = true) (h2 : g.nm.lv f ≤ m.k) (h3 : g.nm.kd f = 3) (h4 : g.nm.fn f = y) (h5 : bsB a' = true)
    (hl : (apos.endLine == pos.line) = true) (hlen : es'.length < 30) (hm : mtEs g.nm m es es' = true) (ha : PE X a' (tD g.κ io W (evE g.T p a))) (hs : PA X es' (tDA g.κ io W (evEs g.T p es))) : PE X (.Call (.Attribute a' y apos) es' [] pos) (tD g.κ io W (evE g.T p (.umt f a es))) := by
  obtain ⟨fa, fd, ps, F, B, _, _, _, k3⟩ := x.known f h1
  obtain ⟨c1, c2, c3⟩ := k3 h3
  subst h4
  obtain ⟨ns, ln⟩ := mtEs_ns hm
  obtain ⟨n1, n2⟩ := ns_first ns pos X.env
  exact snd_umt ha (fun c hc hm => ⟨by rw [x.eK]; exact gf.cls c hc, by rw [x.eK]; exact c3 c hc hm⟩) c1 (x.fg F) (x.room.mono h2) x.gd (by rw [x.eK]; exact B) x.tk (by rw [x.eK]; exact c2) hs (len_nil ln) n1 n2
    (meth_eq (bsB_base h5) (nsBs_all ns) hlen hl)
mutual
theorem sndE (gf : Gf g) : ∀ (e : E) {e' : Expr} {X : Cx} {m : Mc} {W : WX} {io : Option (Nat × V)} {p : Option Nat}, XOk g X m W → IoP io p → mtE g.nm m e e' = true → Snd g.κ io W g.T p X e e'
  | .var i, e', X, m, W, io, p, x, hp, h => by
    simp only [mtE] at h
    split at h
    · simp only [Bool.and_eq_true, decide_eq_true_eq] at h
      obtain ⟨⟨h1, h2⟩, h3⟩ := h
      obtain ⟨n1, n2⟩ := nmB_of h3
      exact Snd.of (snd_var (x.at h1) (x.vis h2) n1 n2) fun t => t
    · cases h
  | .non, e', X, m, W, io, p, x, hp, h => by
    simp only [mtE] at h
    split at h
    · exact Snd.of snd_non fun t => t
    · cases h
  | .bl b, e', X, m, W, io, p, x, hp, h => by
    simp only [mtE] at h
    split at h
    · rw [eq_of_beq h]
      exact Snd.of snd_bl fun t => rfl
    · cases h
  | .int b, e', X, m, W, io, p, x, hp, h => by
    simp only [mtE] at h
    split at h
    · rw [of_decide_eq_true h]
      exact Snd.of snd_int fun t => rfl
    · cases h
  | .str b, e', X, m, W, io, p, x, hp, h => by
    simp only [mtE] at h
    split at h
    · simp only [Bool.and_eq_true, decide_eq_true_eq, List.all_eq_true] at h
      exact Snd.of (snd_str h.1 h.2) fun t => t
    · cases h
  | .glb i, e', X, m, W, io, p, x, hp, h => by
    simp only [mtE] at h
    split at h
    · simp only [Bool.and_eq_true, decide_eq_true_eq] at h
      obtain ⟨⟨⟨h1, h2⟩, h3⟩, h4⟩ := h
      obtain ⟨v, u, k1, k2, k3⟩ := gf.gl i h2
      exact Snd.of (snd_glb (x.glob h3) (by rw [x.eM, ← h1]; exact k1) k2 k3 (nmB_of h4).1) fun t => t
    · cases h
  | .bin o a b, e', X, m, W, io, p, x, hp, h => by
    simp only [mtE] at h
    split at h
    · simp only [Bool.and_eq_true] at h
      obtain ⟨⟨h1, h2⟩, h3⟩ := h
      cases opB_eq h1
      exact Snd.of (snd_bin x.eK (sndE gf a x hp h2).pe (sndE gf b x hp h3).pe) fun t => t
    · cases h
  | .neg a, e', X, m, W, io, p, x, hp, h => by
    simp only [mtE] at h
    split at h
    · exact Snd.of (snd_neg (sndE gf a x hp h).pe) fun t => rfl
    · cases h
  | .cmp o a b, e', X, m, W, io, p, x, hp, h => by
    simp only [mtE] at h
    split at h
    · simp only [Bool.and_eq_true] at h
      obtain ⟨⟨⟨h1, h2⟩, h3⟩, h4⟩ := h
      cases coB_eq h1
      have ha := (sndE gf a x hp h3).pe
      have hb := (sndE gf b x hp h4).pe
      exact Snd.ofT (snd_cmp (x.cmpX gf o) h2 ha hb) (sndT_cmp (x.cmpX gf o) h2 ha hb) rfl
    · cases h
  | .ch2 a o b o2 c, e', X, m, W, io, p, x, hp, h => by
    simp only [mtE] at h
    split at h
    · simp only [Bool.and_eq_true] at h
      obtain ⟨⟨⟨⟨⟨h1, h2⟩, h3⟩, h4⟩, h5⟩, h6⟩ := h
      cases coB_eq h1
      cases coB_eq h2
      have ha := (sndE gf a x hp h4).pe
      have hb := (sndE gf b x hp h5).pe
      have hc := (sndE gf c x hp h6).pe
      exact Snd.ofT (snd_ch2 (x.cmp o) (x.cmp o2) h3 ha hb hc) (sndT_ch2 (x.cmp o) (x.cmp o2) h3 ha hb hc) rfl
    · cases h
  | .ch3 a o b o2 c o3 d, e', X, m, W, io, p, x, hp, h => by
    simp only [mtE] at h
    split at h
    · simp only [Bool.and_eq_true] at h
      obtain ⟨⟨⟨⟨⟨⟨⟨h1, h2⟩, h3⟩, h4⟩, h5⟩, h6⟩, h7⟩, h8⟩ := h
      cases coB_eq h1
      cases coB_eq h2
      cases coB_eq h3
      have ha := (sndE gf a x hp h5).pe
      have hb := (sndE gf b x hp h6).pe
      have hc := (sndE gf c x hp h7).pe
      have hd := (sndE gf d x hp h8).pe
      exact Snd.ofT (snd_ch3 (x.cmp o) (x.cmp o2) (x.cmp o3) h4 ha hb hc hd) (sndT_ch3 (x.cmp o) (x.cmp o2) (x.cmp o3) h4 ha hb hc hd) rfl
    · cases h
  | .isn a, e', X, m, W, io, p, x, hp, h => by
    simp only [mtE] at h
    split at h
    · have ha := (sndE gf a x hp h).pe
      exact Snd.ofT (snd_isn ha) (sndT_isn ha) rfl
    · cases h
  | .nsn a, e', X, m, W, io, p, x, hp, h => by
    simp only [mtE] at h
    split at h
    · have ha := (sndE gf a x hp h).pe
      exact Snd.ofT (snd_nsn ha) (sndT_nsn ha) rfl
    · cases h
  | .and a b, e', X, m, W, io, p, x, hp, h => by
    simp only [mtE] at h
    split at h
    · rename_i a' b' rest pos
      rw [Bool.and_eq_true] at h
      obtain ⟨h1, h2⟩ := h
      have ka := sndE gf a x hp h1
      cases rest with
      | nil =>
        have kb := sndE gf b x hp h2
        have pw : tstB (.and a b) (.BoolOp .And [a', b'] pos) = true → PW X (.BoolOp .And [a', b'] pos) (tDT g.κ io W fun s => tstR (evE g.T p (.and a b) s)) := fun t => by
          simp only [tstB, Bool.and_eq_true] at t
          exact sndT_and (ka.pt t.1) (pw_and1 (kb.pt t.2))
        exact ⟨snd_and ka.pe (pe_one kb.pe), fun t => (pw t).pt, fun _ t => pw t⟩
      | cons r rs =>
        have kb := sndE gf b x hp h2
        have pw : tstB (.and a b) (.BoolOp .And (a' :: b' :: r :: rs) pos) = true → PW X (.BoolOp .And (a' :: b' :: r :: rs) pos) (tDT g.κ io W fun s => tstR (evE g.T p (.and a b) s)) := fun t => by
          simp only [tstB, Bool.and_eq_true] at t
          exact sndT_and (ka.pt t.1) (kb.pw rfl t.2)
        exact ⟨snd_and ka.pe kb.pe, fun t => (pw t).pt, fun _ t => pw t⟩
    · cases h
  | .or a b, e', X, m, W, io, p, x, hp, h => by
    simp only [mtE] at h
    split at h
    · rename_i a' b' rest pos
      rw [Bool.and_eq_true] at h
      obtain ⟨h1, h2⟩ := h
      have ka := sndE gf a x hp h1
      cases rest with
      | nil =>
        have kb := sndE gf b x hp h2
        have pw : tstB (.or a b) (.BoolOp .Or [a', b'] pos) = true → PW X (.BoolOp .Or [a', b'] pos) (tDT g.κ io W fun s => tstR (evE g.T p (.or a b) s)) := fun t => by
          simp only [tstB, Bool.and_eq_true] at t
          exact sndT_or (ka.pt t.1) (pw_or1 (kb.pt t.2))
        exact ⟨snd_or ka.pe (pe_one kb.pe), fun t => (pw t).pt, fun _ t => pw t⟩
      | cons r rs =>
        have kb := sndE gf b x hp h2
        have pw : tstB (.or a b) (.BoolOp .Or (a' :: b' :: r :: rs) pos) = true → PW X (.BoolOp .Or (a' :: b' :: r :: rs) pos) (tDT g.κ io W fun s => tstR (evE g.T p (.or a b) s)) := fun t => by
          simp only [tstB, Bool.and_eq_true] at t
          exact sndT_or (ka.pt t.1) (kb.pw rfl t.2)
        exact ⟨snd_or ka.pe kb.pe, fun t => (pw t).pt, fun _ t => pw t⟩
    · cases h
  | .not a, e', X, m, W, io, p, x, hp, h => by
    simp only [mtE] at h
    split at h
    · have ka := sndE gf a x hp h
      refine ⟨snd_not ka.pe, fun t => ?_, fun b => nomatch b⟩
      simp only [tstB] at t
      exact sndT_not (ka.pt t)
    · cases h
  | .ite c a b, e', X, m, W, io, p, x, hp, h => by
    simp only [mtE] at h
    split at h
    · simp only [Bool.and_eq_true] at h
      obtain ⟨⟨⟨h1, h2⟩, h3⟩, h4⟩ := h
      exact Snd.of (snd_ite ((sndE gf c x hp h1).pt h2) (sndE gf a x hp h3).pe (sndE gf b x hp h4).pe) fun t => t
    · cases h
  | .tup es, e', X, m, W, io, p, x, hp, h => by
    simp only [mtE] at h
    split at h
    · exact Snd.of (snd_tup (sndEs gf es x hp h)) fun t => t
    · cases h
  | .lst es, e', X, m, W, io, p, x, hp, h => by
    simp only [mtE] at h
    split at h
    · exact Snd.of (snd_lst (sndEs gf es x hp h)) fun t => t
    · cases h
  | .lstS k es, e', X, m, W, io, p, x, hp, h => by
    simp only [mtE] at h
    split at h
    · exact Snd.of (snd_lstS (sndXs gf k es x hp h)) fun t => t
    · cases h
  | .att a f, e', X, m, W, io, p, x, hp, h => by
    simp only [mtE] at h
    split at h
    · simp only [Bool.and_eq_true, decide_eq_true_eq] at h
      obtain ⟨⟨⟨h1, h2⟩, h3⟩, h4⟩ := h
      subst h1
      exact Snd.of (snd_att (by rw [x.eK]; exact gf.cls) (by rw [x.eK]; exact gf.fld _ h2) (bsB_base h3) (sndE gf a x hp h4).pe) fun t => t
    · cases h
  | .sub a b, e', X, m, W, io, p, x, hp, h => by
    simp only [mtE] at h
    split at h
    · simp only [Bool.and_eq_true] at h
      obtain ⟨⟨h1, h2⟩, h3⟩ := h
      exact Snd.of (snd_sub x.eK.symm (ixB_plain h1) (sndE gf a x hp h2).pe (sndE gf b x hp h3).pe) fun t => t
    · cases h
  | .nop, e', X, m, W, io, p, x, hp, h => Snd.of snd_nevE fun t => t
  | .slc a lo hi, e', X, m, W, io, p, x, hp, h => by
    simp only [mtE] at h
    split at h
    · rename_i a' lo' hi' p2 pos
      simp only [Bool.and_eq_true] at h
      obtain ⟨⟨h1, h2⟩, h3⟩ := h
      have kl : PO X lo' (tDO g.κ io W (partD g.T p lo)) := by
        cases lo' with
        | none =>
          cases lo <;> first | (cases h2; done) | exact po_nop
        | some l =>
          simp only [Bool.and_eq_true, Bool.not_eq_true'] at h2
          exact po_snd (isNop_ne h2.1) (sndE gf lo x hp h2.2).pe
      have kh : PO X hi' (tDO g.κ io W (partD g.T p hi)) := by
        cases hi' with
        | none =>
          cases hi <;> first | (cases h3; done) | exact po_nop
        | some l =>
          simp only [Bool.and_eq_true, Bool.not_eq_true'] at h3
          exact po_snd (isNop_ne h3.1) (sndE gf hi x hp h3.2).pe
      exact Snd.of (snd_slc x.eK.symm (sndE gf a x hp h1).pe kl kh) fun t => rfl
    · cases h
  | .rev a, e', X, m, W, io, p, x, hp, h => by
    simp only [mtE] at h
    split at h
    · exact Snd.of (snd_rev x.eK.symm (sndE gf a x hp h).pe) fun t => t
    · cases h
  | .call f es, e', X, m, W, io, p, x, hp, h => by
    simp only [mtE] at h
    split at h
    · simp only [Bool.and_eq_true, decide_eq_true_eq] at h
      obtain ⟨⟨⟨⟨⟨⟨h1, h2⟩, h3⟩, h4⟩, h5⟩, h6⟩, h7⟩ := h
      exact Snd.of (kn_call x h1 h2 h3 h4 h5 h6 h7 (sndEs gf es x hp h7)) fun t => rfl
    · cases h
  | .bi b es, e', X, m, W, io, p, x, hp, h => by
    simp only [mtE] at h
    split at h
    · rename_i y q es' pos
      simp only [Bool.and_eq_true, decide_eq_true_eq] at h
      obtain ⟨⟨⟨⟨h1, h2⟩, h3⟩, h4⟩, h5⟩ := h
      cases es' with
      | nil => cases h4
      | cons e1 r =>
        obtain ⟨ns, ln⟩ := mtEs_ns h5
        obtain ⟨n1, n2⟩ := ns_first ns pos X.env
        refine Snd.of (snd_bi h1 h2 (cr_bi x.calm x.gd x.hu x.eK.symm b) (x.glob h3) (x.bn gf (by rw [← h1]; exact biN_mem (by rw [h1]; exact h2))) (sndEs gf es x hp h5) (n1 _ _ rfl) (n2 _ _ rfl)) fun t => rfl
    · cases h
  | .mth t a es, e', X, m, W, io, p, x, hp, h => by
    simp only [mtE] at h
    split at h
    · rename_i a' nm' apos b' pos
      simp only [Bool.and_eq_true, decide_eq_true_eq] at h
      obtain ⟨⟨⟨⟨⟨⟨h1, h2⟩, h3⟩, h4⟩, h5⟩, h6⟩, h7⟩ := h
      match es, h5 with
      | [e1], _ =>
        simp only [mtEs, Bool.and_eq_true] at h7
        have hb := (sndE gf e1 x hp h7.1.2).pe
        have ha := (sndE gf a x hp h6).pe
        have hs : starEach [b'] X.env = [(false, eval b' X.env)] := nsB_star h7.1.1
        refine Snd.of ?_ fun t => rfl
        cases t with
        | count =>
          subst h1
          exact snd_m1 F.slot_str_count F.type_str_count mt_count1 ha hb hs (bsB_base h3) h4
        | join =>
          subst h1
          exact snd_m1 F.slot_str_join F.type_str_join (mt_join1 x.eK.symm) ha hb hs (bsB_base h3) h4
        | _ => exact absurd h1.symm h2
    · cases h
  | .bits a, e', X, m, W, io, p, x, hp, h => by
    simp only [mtE] at h
    split at h
    · simp only [Bool.and_eq_true, decide_eq_true_eq] at h
      obtain ⟨⟨⟨h1, h2⟩, h3⟩, h4⟩ := h
      subst h1
      exact Snd.of (snd_bits (sndE gf a x hp h4).pe (bsB_base h2) h3) fun t => rfl
    · cases h
  | .prp f a, e', X, m, W, io, p, x, hp, h => by
    simp only [mtE] at h
    split at h
    · simp only [Bool.and_eq_true, decide_eq_true_eq] at h
      obtain ⟨⟨⟨⟨⟨h1, h2⟩, h3⟩, h4⟩, h5⟩, h6⟩ := h
      exact Snd.of (kn_prp gf x h1 h2 h3 h4 h5 (sndE gf a x hp h6).pe) fun t => t
    · cases h
  | .umt f a es, e', X, m, W, io, p, x, hp, h => by
    simp only [mtE] at h
    split at h
    · simp only [Bool.and_eq_true, decide_eq_true_eq] at h
      obtain ⟨⟨⟨⟨⟨⟨⟨⟨h1, h2⟩, h3⟩, h4⟩, h5⟩, h6⟩, h7⟩, h8⟩, h9⟩ := h
      exact Snd.of (kn_umt gf x h1 h2 h3 h4 h5 h6 h7 h9 (sndE gf a x hp h8).pe (sndEs gf es x hp h9)) fun t => rfl
    · cases h
  | .new c es, e', X, m, W, io, p, x, hp, h => by
    simp only [mtE] at h
    split at h
    · simp only [Bool.and_eq_true, decide_eq_true_eq] at h
      obtain ⟨⟨⟨⟨⟨⟨h1, h2⟩, h3⟩, h4⟩, h5⟩, h6⟩, h7⟩ := h
      exact Snd.of (kn_new x h1 h2 h3 h4 h5 h6 h7 (sndEs gf es x hp h7)) fun t => rfl
    · cases h
  | .isi a t, e', X, m, W, io, p, x, hp, h => by
    simp only [mtE] at h
    split at h
    · rename_i y q a' z q2 pos
      simp only [Bool.and_eq_true, decide_eq_true_eq] at h
      obtain ⟨⟨⟨⟨⟨⟨⟨h1, h2⟩, h3⟩, h4⟩, h5⟩, h6⟩, h7⟩, h8⟩ := h
      exact Snd.of (snd_isi h1 x.eK.symm (by rw [x.eK]; exact gf.isi t h4) (x.glob h2) (x.bn gf (by rw [h1]; decide)) (sndE gf a x hp h8).pe (tyW_name x gf h4 h5 h6 h7) (nsB_star h3) rfl rfl) fun t => rfl
    · cases h
  | .lc elt t k its c own, e', X, m, W, io, p, x, hp, h => by
    simp only [mtE] at h
    split at h
    · rename_i elt' tg iter ifs scope pos
      simp only [Bool.and_eq_true, List.all_eq_true] at h
      obtain ⟨⟨⟨⟨⟨⟨⟨h1, h2⟩, h3⟩, h4⟩, h5⟩, h6⟩, h7⟩, h8⟩ := h
      have eown : (ownN m own).map (·.2) = own := by
        unfold ownN
        rw [List.map_map]
        exact (List.map_congr_left fun a _ => rfl).trans (List.map_id own)
      have ok : BlkOk X.N X.env.scope scope (ownN m own) := by
        rw [x.N, x.sc]
        exact blkOk_by h1
      have hi := snd_iter x gf h4 h5 (sndEs gf its x hp h5) fun e e1 he he1 => by
        rw [he1, he] at h5
        simp only [mtEs, Bool.and_eq_true] at h5
        have hme : e ∈ its := by rw [he]; exact List.mem_cons_self
        match its, he with
        | [e], rfl => exact (sndE gf e x hp h5.1.2).pe
      have ht : ∀ i ∈ tvs t, i ∈ (ownN m own).map (·.2) := fun i hi => by
        rw [eown]
        have := h2 i hi
        simpa using this
      have := snd_lc (T := g.T) (elt' := elt') (tg := tg) (iter' := iter) (ifs := ifs) (pos := pos) (own := ownN m own) (elt := elt) (c := c) (W := W) hp x.calm (by rw [x.N]; exact x.nd) hi ok (fun s H C cl fp => sndT_ x.blk hp t h6)
        (fun s H C cl fp => by
          split at h7
          · cases c <;> first | (cases h7; done) | exact snd_no_if
          · rename_i c'
            simp only [Bool.and_eq_true, Bool.not_eq_true'] at h7
            exact snd_one_if (isNop_ne h7.1.1) ((sndE gf c x.blk hp h7.2).pt h7.1.2)
          · cases h7)
        (fun s H C cl fp => (sndE gf elt x.blk hp h8).pe) (noSet_folded h3) ht
      rw [eown] at this
      exact Snd.of this fun t => rfl
    · cases h
theorem sndEs (gf : Gf g) : ∀ (es : List E) {es' : List Expr} {X : Cx} {m : Mc} {W : WX} {io : Option (Nat × V)} {p : Option Nat}, XOk g X m W → IoP io p → mtEs g.nm m es es' = true → PA X es' (tDA g.κ io W (evEs g.T p es))
  | [], es', X, m, W, io, p, x, hp, h => by
    simp only [mtEs] at h
    split at h
    · exact snd_nil
    · cases h
  | e :: es, es', X, m, W, io, p, x, hp, h => by
    simp only [mtEs] at h
    split at h
    · simp only [Bool.and_eq_true] at h
      exact snd_cons (sndE gf e x hp h.1.2).pe (sndEs gf es x hp h.2) (nsB_star h.1.1)
    · cases h
theorem sndXs (gf : Gf g) : ∀ (k : Nat) (es : List E) {es' : List Expr} {X : Cx} {m : Mc} {W : WX} {io : Option (Nat × V)} {p : Option Nat}, XOk g X m W → IoP io p → mtXs g.nm m k es es' = true → PA X es' (tDA g.κ io W (evXs g.T p k es))
  | k, [], es', X, m, W, io, p, x, hp, h => by
    simp only [mtXs] at h
    split at h
    · exact PA.imp (snd_nil (T := g.T) (p := p)) fun σ H Q q => by simpa only [evXs, evEs] using q
    · cases h
  | 0, e :: es, es', X, m, W, io, p, x, hp, h => by
    simp only [mtXs] at h
    split at h
    · simp only [Bool.and_eq_true] at h
      exact snd_consX (sndE gf e x hp h.1.2).pe (sndXs gf 0 es x hp h.2) (nsB_star h.1.1)
    · cases h
  | k + 1, e :: es, es', X, m, W, io, p, x, hp, h => by
    simp only [mtXs] at h
    split at h
    · simp only [Bool.and_eq_true] at h
      exact snd_star x.eK.symm (sndE gf e x hp h.1).pe (sndXs gf k es x hp h.2)
    · cases h
end
end
end PyV
set_option Elab.async false
set_option linter.all false
set_option maxRecDepth 100000
set_option maxHeartbeats 8000000
namespace PyV
open PySem PySem.Spec PyProof.Rows L2

/-! ## statements that are looked at -/
def kindFn (sc : Scope) : Bool := match sc.kind with
  | .function => true
  | _ => false
def stn (sc : Scope) (line : Nat) : Expr → Option Str := fun
  | .Name id pos => if sc.names.lookup id == some .local && pos.line == line then some id else none
  | _ => none
/-- which names are stored from the right: none: not known; some none: as they come -/
def swS (sc : Scope) (ts vs : List Expr) : Option (Option (List Str)) :=
  if (!(ts.length == 2 || ts.length == 3) || vs.length != ts.length) = true then some none
  else if (vs.any fun | .Starred .. => true | _ => false) = true then some none
  else if ((ts.filterMap (stn sc ((ts.head?.map (·.pos.line)).getD 0))).length != ts.length || (ts.filterMap (stn sc ((ts.head?.map (·.pos.line)).getD 0))).eraseDups.length != (ts.filterMap (stn sc ((ts.head?.map (·.pos.line)).getD 0))).length) = true then some none
  else if vs.all (foldedForSure 8) = true then some none
  else if vs.all (constantsAlone 8) = true then none
  else some (some (ts.filterMap (stn sc ((ts.head?.map (·.pos.line)).getD 0))))
theorem swS_eq {env : Env} {sc : Scope} {ts vs : List Expr} {k k2 : Nat} {p p2 : Pos} {r : Option (List Str)} (hs : env.scope = sc) (hk : kindFn sc = true) (h : swS sc ts vs = some r) : swappedStores [.Tuple ts k p] (.Tuple vs k2 p2) env = pure r := by
  have bk : env.blockKind = .function := by
    unfold Env.blockKind
    rw [hs]
    unfold kindFn at hk
    cases e : sc.kind <;> rw [e] at hk <;> first | (cases hk; done) | rfl
  have e1 : (fun x : Expr => match x with
      | .Name id pos => if env.kindOf id == some .local && pos.line == ((ts.head?.map (·.pos.line)).getD 0) then some id else none
      | _ => none) = stn sc ((ts.head?.map (·.pos.line)).getD 0) := by
    subst hs
    funext x
    cases x <;> rfl
  unfold swS at h
  unfold swappedStores
  simp only [bk]
  rw [show (ScopeKind.function != ScopeKind.function) = false from rfl, Bool.or_false]
  suffices key : ∀ names : List Str, names = ts.filterMap (stn sc ((ts.head?.map (·.pos.line)).getD 0)) →
      (if (!(ts.length == 2 || ts.length == 3) || vs.length != ts.length) = true then pure none
       else if (vs.any fun | .Starred .. => true | _ => false) = true then pure none
       else if (names.length != ts.length || names.eraseDups.length != names.length) = true then pure none
       else if vs.all (foldedForSure 8) = true then pure none
       else if vs.all (constantsAlone 8) = true then (do
         unsupported "assign.tuple-of-constant-expressions:order-of-the-stores"
         pure (some names))
       else pure (some names) : Sem (Option (List Str))) = pure r from by
    refine key _ ?_
    exact congrArg (fun f => ts.filterMap f) e1
  intro names hn
  rw [← hn] at h
  by_cases h1 : (!(ts.length == 2 || ts.length == 3) || vs.length != ts.length) = true
  · rw [if_pos h1] at h ⊢
    cases h
    rfl
  rw [if_neg h1] at h ⊢
  by_cases h2 : (vs.any fun | .Starred .. => true | _ => false) = true
  · rw [if_pos h2] at h ⊢
    cases h
    rfl
  rw [if_neg h2] at h ⊢
  split at h
  · rename_i h3
    rw [if_pos h3]
    cases h
    rfl
  rename_i h3
  rw [if_neg h3]
  by_cases h4 : vs.all (foldedForSure 8) = true
  · rw [if_pos h4] at h ⊢
    cases h
    rfl
  rw [if_neg h4] at h ⊢
  by_cases h5 : vs.all (constantsAlone 8) = true
  · rw [if_pos h5] at h
    cases h
  rw [if_neg h5] at h ⊢
  cases h
  rfl
/-- no tuple on the right -/
def ntB : Expr → Bool
  | .Tuple _ _ _ => false
  | _ => true
theorem ntB_sw {a tg : Expr} {env : Env} (h : ntB a = true) : swappedStores [tg] a env = pure none := by
  cases a <;> first | (cases h; done) | (cases tg <;> rfl)
end PyV
set_option Elab.async false
set_option linter.all false
set_option maxRecDepth 100000
set_option maxHeartbeats 8000000
namespace PyV
open PySem PySem.Spec PyProof.Rows L2

/-- does the store swap with the comprehension's block -/
def swB (sc : Scope) (y : Str) (py lpos : Pos) (scope : Scope) : Bool :=
  sc.names.lookup y == some .local && py.line == lpos.line && !(scope.names.any fun (n, k) => n == y && (k == .local || k == .cell))
theorem swB_eq {env : Env} {sc : Scope} {y : Str} {py lpos : Pos} {scope : Scope} {elt : Expr} {gs : List Comprehension} {l : Nat} (hs : env.scope = sc) (hk : kindFn sc = true) :
    swapsWith (.ListComp elt gs scope lpos) (some (.Name y py)) l env = pure (swB sc y py lpos scope) := by
  have bk : (env.blockKind == .function) = true := by
    unfold Env.blockKind
    rw [hs]
    unfold kindFn at hk
    cases e : sc.kind <;> rw [e] at hk <;> first | (cases hk; done) | rfl
  subst hs
  show (pure (env.blockKind == .function && env.kindOf y == some .local && py.line == lpos.line && !(scope.names.any fun (n, k) => n == y && (k == .local || k == .cell))) : Sem Bool) = _
  rw [bk, Bool.true_and]
  rfl
theorem sw_tup {a : Expr} {es : List Expr} {k l : Nat} {p : Pos} {env : Env} : swapsWithSole [.Tuple es k p] a l env = pure false := by
  show swapsWith a (some (.Tuple es k p)) l env = pure false
  cases a <;> rfl
theorem sw_sub {a o i : Expr} {l : Nat} {p : Pos} {env : Env} : swapsWithSole [.Subscript o i p] a l env = pure false := by
  show swapsWith a (some (.Subscript o i p)) l env = pure false
  cases a <;> rfl
theorem sw_att {a o : Expr} {f : Str} {l : Nat} {p : Pos} {env : Env} : swapsWith a (some (.Attribute o f p)) l env = pure false := by
  cases a <;> rfl
theorem swS_sub {a o i : Expr} {p : Pos} {env : Env} : swappedStores [.Subscript o i p] a env = pure none := by
  cases a <;> rfl
mutual
def mtS (nm : Nm) (m : Mc) : S → Stmt → Bool
  | .asg (.v i) e, st => match st with
    | .Assign [.Name y py] e1 _ => decide (m.N[i]? = some y) && locB m.lsc y && mtE nm m e e1 && (match e1 with
        | .ListComp _ _ scope lpos => !swB m.sc y py lpos scope || loc1B m.sc y
        | e1 => ncB e1)
    | _ => false
  | .asg (.tup ts) e, st => match st with
    | .Assign [.Tuple es k tp] e1 _ => mtT m (.tup ts) (.Tuple es k tp) && mtE nm m e e1 && (match e1 with
        | .Tuple vs _ _ => decide (swS m.sc es vs = some none)
        | _ => true)
    | _ => false
  | .par is es, st => match st with
    | .Assign [.Tuple [.Name x px, .Name y py] _ _] (.Tuple [a', b'] _ _) _ => (match is with
      | [i, j] => decide (m.N[i]? = some x) && decide (m.N[j]? = some y) && decide (i ≠ j) && loc1B m.sc x && loc1B m.sc y && decide (swS m.sc [.Name x px, .Name y py] [a', b'] = some (some [x, y])) && (es.length == 2) && mtEs nm m es [a', b']
      | _ => false)
    | .Assign [.Tuple [.Name x px, .Name y py, .Name z pz] _ _] (.Tuple [a', b', c'] _ _) _ => (match is with
      | [i, j, l] => decide (m.N[i]? = some x) && decide (m.N[j]? = some y) && decide (m.N[l]? = some z) && decide (i ≠ j) && decide (i ≠ l) && decide (j ≠ l) && loc1B m.sc x && loc1B m.sc y && loc1B m.sc z &&
          decide (swS m.sc [.Name x px, .Name y py, .Name z pz] [a', b', c'] = some (some [x, y, z])) && (es.length == 3) && mtEs nm m es [a', b', c']
      | _ => false)
    | _ => false
  | .parT is es, st => match st with
    | .Assign [.Tuple es1 _ _] (.Tuple vs _ _) _ => mtTs m (is.map T.v) es1 && decide (swS m.sc es1 vs = some none) && mtEs nm m es vs
    | _ => false
  | .aug i o e, st => match st with
    | .AugAssign (.Name y _) q e1 _ => decide (m.N[i]? = some y) && locB m.lsc y && opB o q && mtE nm m e e1
    | _ => false
  | .app i e, st => match st with
    | .Expr (.Call (.Attribute (.Name y _) f apos) [e1] [] cpos) _ => decide (f = "append") && decide (m.N[i]? = some y) && visB m.sc y && nmB y && (apos.endLine == cpos.line) && nsB e1 && mtE nm m e e1
    | _ => false
  | .ext i e, st => match st with
    | .Expr (.Call (.Attribute (.Name y _) f apos) [e1] [] cpos) _ => decide (f = "extend") && decide (m.N[i]? = some y) && visB m.sc y && nmB y && (apos.endLine == cpos.line) && nsB e1 && mtE nm m e e1
    | _ => false
  | .set i k e, st => match st with
    | .Assign [.Subscript (.Name y _) k1 _] e1 _ => decide (m.N[i]? = some y) && visB m.sc y && nmB y && ixB k1 && mtE nm m k k1 && mtE nm m e e1
    | _ => false
  | .fld i f e, st => match st with
    | .Assign [.Attribute (.Name y _) h _] e1 _ => decide (f = h) && nm.fld f && decide (m.N[i]? = some y) && visB m.sc y && nmB y && mtE nm m e e1
    | _ => false
  | .exp e, st => match st with
    | .Expr e1 _ => ncB e1 && mtE nm m e e1
    | _ => false
  | .ife c a b, st => match st with
    | .If c1 as bs _ => mtE nm m c c1 && tstB c c1 && mtB nm m a as && mtB nm m b bs
    | _ => false
  | .for_ t k its b, st => match st with
    | .For tg iter bs [] _ => noSet iter && itB m.sc k iter tg && mtEs nm m its (itEs k iter) && mtT m t tg && mtB nm m b bs
    | _ => false
  | .whl c b, st => match st with
    | .While c1 bs [] _ => mtE nm m c c1 && tstB c c1 && mtB nm m b bs
    | _ => false
  | .ret e, st => match st with
    | .Return (some e1) _ => mtE nm m e e1
    | _ => false
  | .rtn, st => match st with
    | .Return none _ => true
    | _ => false
  | .brk, st => match st with
    | .Break _ => true
    | _ => false
  | .cnt, st => match st with
    | .Continue _ => true
    | _ => false
  | .pas, st => match st with
    | .Pass _ => true
    | .Expr (.Constant (.str _) _ _) _ => true
    | _ => false
  | .rse _, _ => false
  | .nev, _ => true
def mtB (nm : Nm) (m : Mc) : List S → List Stmt → Bool
  | [], sts => match sts with
    | [] => true
    | _ => false
  | s :: r, sts => match sts with
    | st :: sts => mtS nm m s st && mtB nm m r sts
    | [] => false
end
section
variable {g : Gc} {X : Cx} {m : Mc} {W : WX} {io : Option (Nat × V)} {p : Option Nat} {n : Nat}
/-! ### names at once, by a tuple -/
def gNm (is : List Nat) : TGs := fun vs σ H Q => vs.length = is.length ∧ Q (setAll σ is vs) H
theorem pgs_nm (x : XOk g X m W) : ∀ {is : List Nat} {es : List Expr}, mtTs m (is.map T.v) es = true → PGs X es (gNm is)
  | [], [], _ => PGs.imp pgs_nil fun vs σ H Q ⟨h1, h2⟩ => by
    have : vs = [] := List.eq_nil_of_length_eq_zero h1
    subst this
    exact ⟨rfl, h2⟩
  | [], _ :: _, h => by simp [mtTs] at h
  | _ :: _, [], h => by simp [mtTs] at h
  | i :: is, e' :: es, h => by
    simp only [List.map_cons, mtTs, Bool.and_eq_true] at h
    obtain ⟨h1, h2⟩ := h
    have hns := mtT_ns (r := es) (env := X.env) h1
    simp only [mtT] at h1
    split at h1
    · rename_i y py
      simp only [Bool.and_eq_true, decide_eq_true_eq] at h1
      obtain ⟨a1, a2⟩ := h1
      obtain ⟨q1, q2⟩ := x.fn _ a2
      refine PGs.imp (pgs_cons (pg_name (by rw [x.N]; exact x.nd) (x.at a1) q1 q2) (pgs_nm x h2) (by rw [hns]; rfl)) fun vs σ H Q ⟨e1, e2⟩ => ?_
      cases vs with
      | nil => simp at e1
      | cons v vs => exact ⟨v, vs, rfl, by simpa using e1, e2⟩
    · cases h1
theorem snd_parT {n : Nat} {is : List Nat} {es : List E} {names es' : List Expr} {kt k2 : Nat} {pt pt2 pos : Pos} {io : Option (Nat × V)} {p : Option Nat} (hp : IoP io p) (hc : X.calm = true) (hn : PGs X names (gNm is)) (ha : PA X es' (tDA g.κ io W (evEs g.T p es)))
    (hlen : (assignEach names X.env).length = is.length) (hst : (assignEach names X.env).findIdx? (·.1) = none) (hs : swapsWithSole [.Tuple names kt pt] (.Tuple es' k2 pt2) pos.line X.env = pure false) (hw : swappedStores [.Tuple names kt pt] (.Tuple es' k2 pt2) X.env = pure none)
    (h1 : (assignEach [.Tuple names kt pt] X.env).map (·.2) = [assign (.Tuple names kt pt) X.env]) : PS X (.Assign [.Tuple names kt pt] (.Tuple es' k2 pt2) pos) (tDS g.κ io W (evS g.T p n (.parT is es))) :=
  PS.imp (ps_asg (pe_tup ha) (pg_tup hc hn hlen hst) hs hw h1) fun D σ H ⟨δ, τ, s, h⟩ => by
    simp only [evS] at h
    refine seqSA (ρ := []) h s fun rs δ1 vs H1 s1 a1 h1 => ?_
    split at h1
    · rename_i hl
      obtain ⟨δ', h2, h3⟩ := nxO_post h1
      obtain ⟨s2, ln⟩ := s1.puts hp a1 h2
      have sz : vs.length ≤ sizeLine := by rw [← ln]; exact hl
      refine ⟨sz, fun q hq => ⟨q, vs, rfl, .inl (.inl upd_same), ln.symm, ln.symm, h3 _ _ (s2.grow fun b o e => ?_)⟩⟩
      rw [upd_ne (ne_of_none e hq)]
      exact e
    · exact h1.elim
mutual
theorem sndS (gf : Gf g) (x : XOk g X m W) (hk : kindFn m.sc = true) (hp : IoP io p) (po : PassesOwn (model X.prog X.w) X.A X.env X.xe) : ∀ (s : S) {st : Stmt}, mtS g.nm m s st = true → PS X st (tDS g.κ io W (evS g.T p n s))
  | .asg (.v i) e, st, h => by
    simp only [mtS] at h
    split at h
    · rename_i y py e1 pos
      simp only [Bool.and_eq_true, decide_eq_true_eq] at h
      obtain ⟨⟨⟨h1, h2⟩, h3⟩, h4⟩ := h
      obtain ⟨q1, q2⟩ := x.fn _ h2
      have he := (sndE gf e x hp h3).pe
      split at h4
      · rename_i elt' gs scope lpos
        by_cases hsw : swB m.sc y py lpos scope = true
        · rw [hsw] at h4
          have hl := x.loc1 (by simpa using h4)
          cases e with
          | lc elt t k its c own =>
            simp only [mtE] at h3
            split at h3
            · rename_i elt2 tg iter ifs scope2 pos2 hq
              cases hq
              simp only [Bool.and_eq_true, List.all_eq_true] at h3
              obtain ⟨⟨⟨⟨⟨⟨⟨k1, k2⟩, k3⟩, k4⟩, k5⟩, k6⟩, k7⟩, k8⟩ := h3
              have eown : (ownN m own).map (·.2) = own := by
                unfold ownN
                rw [List.map_map]
                exact (List.map_congr_left fun a _ => rfl).trans (List.map_id own)
              have ok : BlkOk X.N X.env.scope scope (ownN m own) := by
                rw [x.N, x.sc]
                exact blkOk_by k1
              have hi := snd_iter x gf k4 k5 (sndEs gf its x hp k5) fun e e1 he he1 => by
                rw [he1, he] at k5
                simp only [mtEs, Bool.and_eq_true] at k5
                exact (sndE gf e x hp k5.1.2).pe
              have ht : ∀ i ∈ tvs t, i ∈ (ownN m own).map (·.2) := fun i hi => by
                rw [eown]
                have := k2 i hi
                simpa using this
              have := snd_setLc (T := g.T) (n := n) (elt' := elt') (tg := tg) (iter' := iter) (ifs := ifs) (own := ownN m own) (elt := elt) (c := c) (W := W) (py := py) (pos := lpos) (spos := pos) hp x.calm (by rw [x.N]; exact x.nd) (x.at h1) hl
                (by rw [swB_eq x.sc hk, hsw]) hi ok (fun s H C cl fp => sndT_ x.blk hp t k6)
                (fun s H C cl fp => by
                  split at k7
                  · cases c <;> first | (cases k7; done) | exact snd_no_if
                  · rename_i c'
                    simp only [Bool.and_eq_true, Bool.not_eq_true'] at k7
                    exact snd_one_if (isNop_ne k7.1.1) ((sndE gf c x.blk hp k7.2).pt k7.1.2)
                  · cases k7)
                (fun s H C cl fp => (sndE gf elt x.blk hp k8).pe) (noSet_folded k3) ht
              rw [eown] at this
              exact this
            · cases h3
          | nop =>
            refine PS.imp ps_never fun D σ H ⟨δ, τ, s, h⟩ => ?_
            simp only [evS, evE] at h
            exact h
          | _ => simp [mtE] at h3
        · have e0 : swB m.sc y py lpos scope = false := by simpa using hsw
          exact snd_asgv hp (by rw [x.N]; exact x.nd) (x.at h1) q1 q2 he (by rw [swB_eq x.sc hk, e0])
      · exact snd_asgv hp (by rw [x.N]; exact x.nd) (x.at h1) q1 q2 he (ncB_swaps h4)
    · cases h
  | .asg (.tup ts) e, st, h => by
    simp only [mtS] at h
    split at h
    · rename_i es k tp e1 pos
      simp only [Bool.and_eq_true] at h
      obtain ⟨⟨h1, h2⟩, h3⟩ := h
      refine snd_asgt (sndE gf e x hp h2).pe (sndT_ x hp _ h1) sw_tup ?_ (by rfl)
      split at h3
      · exact swS_eq x.sc hk (of_decide_eq_true h3)
      · rename_i hnt
        refine ntB_sw ?_
        cases e1 <;> first | rfl | exact absurd rfl (hnt _ _ _)
    · cases h
  | .par is es, st, h => by
    simp only [mtS] at h
    split at h
    · split at h
      · simp only [Bool.and_eq_true, decide_eq_true_eq, beq_iff_eq] at h
        obtain ⟨⟨⟨⟨⟨⟨⟨h1, h2⟩, h3⟩, h4⟩, h5⟩, h6⟩, h7⟩, h8⟩ := h
        match es, h7 with
        | [a, b], _ => exact snd_par2 hp x.calm (by rw [x.N]; exact x.nd) (x.at h1) (x.at h2) h3 (x.loc1 h4) (x.loc1 h5) (sndEs gf _ x hp h8) (swS_eq x.sc hk h6) sw_tup
      · cases h
    · split at h
      · simp only [Bool.and_eq_true, decide_eq_true_eq, beq_iff_eq] at h
        obtain ⟨⟨⟨⟨⟨⟨⟨⟨⟨⟨⟨h1, h2⟩, h3⟩, h4⟩, h5⟩, h6⟩, h7⟩, h8⟩, h9⟩, h10⟩, h11⟩, h12⟩ := h
        match es, h11 with
        | [a, b, c], _ => exact snd_par3 hp x.calm (by rw [x.N]; exact x.nd) (x.at h1) (x.at h2) (x.at h3) h4 h5 h6 (x.loc1 h7) (x.loc1 h8) (x.loc1 h9) (sndEs gf _ x hp h12) (swS_eq x.sc hk h10) sw_tup
      · cases h
    · cases h
  | .parT is es, st, h => by
    simp only [mtS] at h
    split at h
    · simp only [Bool.and_eq_true, decide_eq_true_eq] at h
      obtain ⟨⟨h1, h2⟩, h3⟩ := h
      have ln := mtTs_len (env := X.env) h1
      rw [List.length_map] at ln
      exact snd_parT hp x.calm (pgs_nm x h1) (sndEs gf _ x hp h3) ln.1 ln.2 sw_tup (swS_eq x.sc hk h2) (by rfl)
    · cases h
  | .aug i o e, st, h => by
    simp only [mtS] at h
    split at h
    · simp only [Bool.and_eq_true, decide_eq_true_eq] at h
      obtain ⟨⟨⟨h1, h2⟩, h3⟩, h4⟩ := h
      obtain ⟨q1, q2⟩ := x.fn _ h2
      cases opB_eq h3
      exact snd_aug hp (by rw [x.N]; exact x.nd) (x.at h1) q1 q2 (sndE gf e x hp h4).pe
    · cases h
  | .app i e, st, h => by
    simp only [mtS] at h
    split at h
    · simp only [Bool.and_eq_true, decide_eq_true_eq] at h
      obtain ⟨⟨⟨⟨⟨⟨h1, h2⟩, h3⟩, h4⟩, h5⟩, h6⟩, h7⟩ := h
      exact snd_app h1 (x.at h2) (x.vis h3) (nmB_of h4).1 (nmB_of h4).2 (sndE gf e x hp h7).pe (nsB_star h6) rfl (by rw [nsB_star h6]; rfl) h5 rfl
    · cases h
  | .ext i e, st, h => by
    simp only [mtS] at h
    split at h
    · simp only [Bool.and_eq_true, decide_eq_true_eq] at h
      obtain ⟨⟨⟨⟨⟨⟨h1, h2⟩, h3⟩, h4⟩, h5⟩, h6⟩, h7⟩ := h
      exact snd_ext h1 (x.at h2) (x.vis h3) (nmB_of h4).1 (nmB_of h4).2 (sndE gf e x hp h7).pe (nsB_star h6) rfl (by rw [nsB_star h6]; rfl) h5 rfl
    · cases h
  | .set i k e, st, h => by
    simp only [mtS] at h
    split at h
    · simp only [Bool.and_eq_true, decide_eq_true_eq] at h
      obtain ⟨⟨⟨⟨⟨h1, h2⟩, h3⟩, h4⟩, h5⟩, h6⟩ := h
      refine snd_set (x.at h1) (x.vis h2) (nmB_of h3).1 (nmB_of h3).2 (sndE gf e x hp h6).pe (sndE gf k x hp h5).pe (fun v => ?_) sw_sub swS_sub rfl
      rename_i y py k1 sp e1 pos
      cases k1 <;> first | rfl | skip
      rename_i lo hi stp q
      cases stp
      · cases h4
      · rfl
    · cases h
  | .fld i f e, st, h => by
    simp only [mtS] at h
    split at h
    · simp only [Bool.and_eq_true, decide_eq_true_eq] at h
      obtain ⟨⟨⟨⟨⟨h1, h2⟩, h3⟩, h4⟩, h5⟩, h6⟩ := h
      subst h1
      exact snd_fld (x.at h3) (x.vis h4) (nmB_of h5).1 (nmB_of h5).2 (by rw [x.eK]; exact gf.cls) (by rw [x.eK]; exact gf.fld _ h2) (sndE gf e x hp h6).pe sw_att
    · cases h
  | .exp e, st, h => by
    simp only [mtS] at h
    split at h
    · simp only [Bool.and_eq_true] at h
      exact snd_exp (sndE gf e x hp h.2).pe (ncB_swaps h.1)
    · cases h
  | .ife c a b, st, h => by
    simp only [mtS] at h
    split at h
    · simp only [Bool.and_eq_true] at h
      obtain ⟨⟨⟨h1, h2⟩, h3⟩, h4⟩ := h
      exact snd_ife ((sndE gf c x hp h1).pt h2) (sndB gf x hk hp po a h3) (sndB gf x hk hp po b h4)
    · cases h
  | .for_ t k its b, st, h => by
    simp only [mtS] at h
    split at h
    · simp only [Bool.and_eq_true] at h
      obtain ⟨⟨⟨⟨h1, h2⟩, h3⟩, h4⟩, h5⟩ := h
      have hi := snd_iter x gf h2 h3 (sndEs gf its x hp h3) fun e e1 he he1 => by
        rw [he1, he] at h3
        simp only [mtEs, Bool.and_eq_true] at h3
        exact (sndE gf e x hp h3.1.2).pe
      exact snd_for po x.calm hi (sndT_ x hp t h4) (sndB gf x hk hp po b h5) (noSet_folded h1)
    · cases h
  | .whl c b, st, h => by
    simp only [mtS] at h
    split at h
    · simp only [Bool.and_eq_true] at h
      obtain ⟨⟨h1, h2⟩, h3⟩ := h
      exact snd_whl po ((sndE gf c x hp h1).pt h2) (sndB gf x hk hp po b h3)
    · cases h
  | .ret e, st, h => by
    simp only [mtS] at h
    split at h
    · exact snd_ret (sndE gf e x hp h).pe
    · cases h
  | .rtn, st, h => by
    simp only [mtS] at h
    split at h
    · exact snd_rtn
    · cases h
  | .brk, st, h => by
    simp only [mtS] at h
    split at h
    · exact snd_brk
    · cases h
  | .cnt, st, h => by
    simp only [mtS] at h
    split at h
    · exact snd_cnt
    · cases h
  | .pas, st, h => by
    simp only [mtS] at h
    split at h
    · exact snd_pas
    · exact snd_doc
    · cases h
  | .rse c, st, h => by
    simp only [mtS] at h
    cases h
  | .nev, st, h => snd_nevS
theorem sndB (gf : Gf g) (x : XOk g X m W) (hk : kindFn m.sc = true) (hp : IoP io p) (po : PassesOwn (model X.prog X.w) X.A X.env X.xe) : ∀ (b : List S) {sts : List Stmt}, mtB g.nm m b sts = true → PSs X sts (tDS g.κ io W (evB g.T p n b))
  | [], sts, h => by
    simp only [mtB] at h
    split at h
    · exact snd_bnil
    · cases h
  | s :: r, sts, h => by
    simp only [mtB] at h
    split at h
    · rw [Bool.and_eq_true] at h
      exact snd_bcons (sndS gf x hk hp po s h.1) (sndB gf x hk hp po r h.2)
    · cases h
end
end
end PyV
set_option Elab.async false
set_option linter.all false
set_option maxRecDepth 100000
set_option maxHeartbeats 4000000
namespace PyV
open PySem PySem.Spec PyProof.Rows L2

/-! ## a def of the text is known -/
/-- the looks at one def: names, scope, body -/
def defB (T : Tab) (nm : Nm) (f k : Nat) (df : Df) (ok : List Nat) (N ps : List Str) (st : Stmt) : Bool :=
  C8.scC N ps (defScope st) && kindFn (defScope st) && (ps.length == df.np) && (N.length == df.ns) && (match T.io f with
    | some j => decide (j < df.np)
    | none => true) && decide (nm.lv f = k + 1) && mtB nm ⟨N, defScope st, defScope st, k, ok, T.ini⟩ df.body (defBody st)
theorem fg_D {g : Gc} (gf : Gf g) {st : Stmt} {f k : Nat} {df : Df} {ok : List Nat} {N ps : List Str} {x qual : Str} {fa : Addr} {fd : FuncData} (F : L2.Fun g.κ.K x qual st fa fd)
    (hB : defB g.T g.nm f k df ok N ps st = true) (hG : ∀ ds, g.T.G f ds ≠ .bad → ∃ n, runD g.T (g.T.io f) n df ds = g.T.G f ds) (hok : ∀ f, ok.contains f = true → Known g f)
    (hek : ∀ c f, g.T.eqf c = some f → c < g.κ.n → g.nm.lv f ≤ k) : Fg g.P g.w g.κ.K g.mg g.base (g.nm.lv f) fa fd ps (spD g.κ g.T f) := by
  obtain ⟨oc, od, kV, doc, pm, an, cdv, ct, osl, rfl, lk, hcd⟩ := F.ex
  unfold defB at hB
  simp only [Bool.and_eq_true, beq_iff_eq, decide_eq_true_eq] at hB
  obtain ⟨⟨⟨⟨⟨⟨h1, h2⟩, h3⟩, h4⟩, h5⟩, h6⟩, h7⟩ := hB
  have S := C8.fnScope_by h1
  rw [h6]
  refine fn_D lk hcd S h3 h4 (fun j hj => ?_) hG fun A outer s H E io n room gd hio => ?_
  · rw [hj] at h5
    simpa using h5
  · have hp : IoP io (g.T.io f) := fun j v e => (hio j).mpr ⟨v, e⟩
    refine sndB (m := ⟨N, defScope st, defScope st, k, ok, g.T.ini⟩) gf ⟨rfl, rfl, rfl, rfl, rfl, rfl, rfl, S.nd, rfl, gd, room, takes_of rfl rfl rfl rfl, fun y hy => ⟨?_, .inl rfl⟩, hok, rfl, hek⟩ h2 hp (passes_of rfl) df.body h7
    have hy : locB (defScope st) y = true := hy
    unfold locB at hy
    show L2.Loc (defScope st) y
    split at hy
    · exact .inl (by assumption)
    · exact .inr (by assumption)
    · cases hy
/-- a def by its name -/
theorem known_def {g : Gc} {f : Nat} {x : Str} {fa : Addr} {fd : FuncData} {ps : List Str} (F : Fg g.P g.w g.κ.K g.mg g.base (g.nm.lv f) fa fd ps (spD g.κ g.T f)) (b : Binds g.κ.K fd ps []) (hm : g.mg x = some (.ref fa)) (kp : PySem.W.keepIn g.κ.K (.ref fa) = true)
    (hx : g.nm.fn f = x) (hk : g.nm.kd f = 0) : Known g f :=
  ⟨fa, fd, ps, F, b, fun _ => ⟨by rw [hx]; exact hm, kp⟩, (fun z => by rw [hk] at z; cases z), (fun z => by rw [hk] at z; cases z), (fun z => by rw [hk] at z; cases z)⟩
/-- a property of one class -/
theorem known_prp {g : Gc} {f c : Nat} {x : Str} {fa pr : Addr} {fd : FuncData} {ps : List Str} (F : Fg g.P g.w g.κ.K g.mg g.base (g.nm.lv f) fa fd ps (spD g.κ g.T f)) (b : Binds g.κ.K fd ps []) (hp : PropOf g.κ.K (g.κ.cls c) x pr fa)
    (hx : g.nm.fn f = x) (hk : g.nm.kd f = 1) (hc : ∀ d, g.T.mem f d = true → d = c) : Known g f :=
  ⟨fa, fd, ps, F, b, (fun z => by rw [hk] at z; cases z), (fun _ => ⟨pr, fun d _ hd => by rw [hc d hd, hx]; exact hp⟩), (fun z => by rw [hk] at z; cases z), (fun z => by rw [hk] at z; cases z)⟩
/-- an __init__ -/
theorem known_ini {g : Gc} {f c : Nat} {fa : Addr} {fd : FuncData} {ps : List Str} (F : Fg g.P g.w g.κ.K g.mg g.base (g.nm.lv f) fa fd ps (spD g.κ g.T f)) (b : Binds g.κ.K fd ps []) (M : Mk g.κ.K (g.κ.cls c) fa) (hm : g.mg (g.nm.cl c) = some (.ref (g.κ.cls c)))
    (hlt : c < g.κ.n) (hio : g.T.io f = some 0) (hk : g.nm.kd f = 2) (hc : ∀ d, g.T.ini d = f → d = c) : Known g f :=
  ⟨fa, fd, ps, F, b, (fun z => by rw [hk] at z; cases z), (fun z => by rw [hk] at z; cases z), (fun _ d hd => by
    rw [hc d hd]
    exact ⟨hlt, hio, M, hm⟩), (fun z => by rw [hk] at z; cases z)⟩
/-- a method of one class -/
theorem known_mth {g : Gc} {f c : Nat} {x : Str} {fa : Addr} {fd : FuncData} {ps : List Str} (F : Fg g.P g.w g.κ.K g.mg g.base (g.nm.lv f) fa fd ps (spD g.κ g.T f)) (b : Binds g.κ.K fd ps []) (M : Meth g.κ.K (g.κ.cls c) x fa) (kp : PySem.W.keepIn g.κ.K (.ref fa) = true)
    (hx : g.nm.fn f = x) (hn : g.T.nm f = x) (hk : g.nm.kd f = 3) (hc : ∀ d, g.T.mem f d = true → d = c) : Known g f :=
  ⟨fa, fd, ps, F, b, (fun z => by rw [hk] at z; cases z), (fun z => by rw [hk] at z; cases z), (fun z => by rw [hk] at z; cases z), (fun _ => ⟨by rw [hx, hn], kp, fun d _ hd => by rw [hc d hd, hx]; exact M⟩)⟩
/-- the table without own ==: for what comes ahead of it -/
def noEq (g : Gc) : Gc := { g with T := { g.T with eqf := fun _ => none } }
theorem Gf.noEq {g : Gc} (gf : Gf (noEq g)) (eq : ∀ c f, g.T.eqf c = some f → c < g.κ.n → EqKnown g f c) : Gf g := ⟨gf.bn, gf.cls, gf.fld, gf.gl, gf.isi, gf.cln, eq⟩

/-! ## the law's head -/
theorem top_call {P : Program} {w : World} {κ : Kx} {mg mb : Str → Option Value} {k : Nat} {fa a : Addr} {fd : FuncData} {x : Str} {T : Tab} {f : Nat} {s₁ : Shared} {vs : List Value} {ns : List Int}
    (KX : κ.K.In s₁.heap) (hns : s₁.heap.Ns mainGlobals mg) (hb : s₁.heap.Ns builtinsNs mb) (hbb : ∀ x : Str, x ≠ "__name__" → mb x = bootBuiltins x) (hlim : s₁.heap.NoLimit) (hg : s₁.gens = #[])
    (ha : s₁.heap.get? a = some { cls := .type "list", data := .seq vs.toArray }) (hi : IntsAre vs ns) (hl : ns.length ≤ sizeLine) (hr : Room k callerA)
    (F : ∀ base : Heap, κ.K.In base → base.Ns mainGlobals mg → Fg P w κ.K mg base k fa fd [x] (spD κ T f)) (hbind : ∀ (s : Shared) (u : Value), BindsTo s fd ⟨[u], []⟩ [(x, u)])
    (hio : T.io f = none) (law : T.G f [.lst (ns.map .int)] = .ok (.bl true) false none) :
    codeAny (model P w) callerA (.call (.ref fa) ⟨[.ref a], []⟩) (fun r s' => r = .ok (.ret (.bool true)) ∧ OldK s₁.heap s'.heap ∧ s'.os = s₁.os ∧ AllBare s'.gens) s₁ := by
  have rv := vals_ints hi
  have lenV := hi.length
  have main : ∀ H : Hp, Only H → SqX κ.K H a (ns.map V.int) → HOk P w H s₁.heap → (∀ b, H b ≠ none → b = a) → (H a ≠ none → κ.K.lookup a = none) →
      codeAny (model P w) callerA (.call (.ref fa) ⟨[.ref a], []⟩) (fun r s' => r = .ok (.ret (.bool true)) ∧ OldK s₁.heap s'.heap ∧ s'.os = s₁.os ∧ AllBare s'.gens) s₁ := by
    intro H only script hok just notK
    have dictsFree : ∀ {b : Addr} {o : Obj} {es : Array DictEntry} {ep : Nat}, s₁.heap.get? b = some o → o.data = .dict es ep → H b = none := by
      intro b o es ep e d
      rcases hq : H b with _ | u
      · rfl
      · have e2 : b = a := just b (by rw [hq]; simp)
        subst e2
        rw [ha] at e
        cases e
        cases d
    have nsB : ∀ {b : Addr} {m : Str → Option Value}, s₁.heap.Ns b m → (hidT s₁.heap H).Ns b m := by
      intro b m ⟨o, es, ep, e, d, r⟩
      exact ⟨o, es, ep, hidT_get e (dictsFree e d), d, r⟩
    have kB : κ.K.In (hidT s₁.heap H) := by
      intro b o e
      refine hidT_get (KX b o e) ?_
      rcases hq : H b with _ | u
      · rfl
      · have e2 : b = a := just b (by rw [hq]; simp)
        subst e2
        rw [notK (by rw [hq]; simp)] at e
        cases e
    obtain ⟨mc, lim1, lim2⟩ := hlim
    have md : Mod κ.K mg (hidT s₁.heap H) := ⟨kB, nsB hns, ⟨mb, nsB hb, hbb⟩, ⟨mc, nsB lim1, lim2⟩⟩
    have e0 : Env0 P w κ.K mg (hidT s₁.heap H) callerA [] s₁ H := ⟨rfl, md, fun b o e => of_hidT e, Nat.le_of_eq (hidT_size _ _), trivial, (fun b z => nomatch z), hok, AllBare.of_eq hg⟩
    have rel : Rel κ H ([(some (V.ref a), Sl.val (.lst (ns.map .int)))] ++ []) := by
      refine ⟨H, fun _ _ e => e, fun e he => ?_, (by show ([] : List Addr).Nodup; exact List.nodup_nil)⟩
      have : e = (some (V.ref a), Sl.val (.lst (ns.map .int))) := by simpa using he
      subst this
      exact ⟨.ref a, rfl, .lst script (reps_ofI ns)⟩
    have sp : spD κ T f [.ref a] H (fun v _ => v = .bl true) fun _ _ _ => False := by
      refine ⟨[.lst (ns.map .int)], [], ?_, rfl, ?_⟩
      · rw [hio]
        exact rel
      · rw [law]
        refine ⟨by rw [hio]; rfl, fun v H' r => ?_⟩
        obtain ⟨f', rf⟩ := r
        obtain ⟨u, e, q⟩ := rf.at (ov := some v) (d := .bl true) (by simp [mkv, slotOf])
        cases e
        exact rep_bl q
    refine codeAny_mono ((F _ kB (nsB hns)).go callerA [] s₁ H ⟨[.ref a], []⟩ [.ref a] [.ref a] _ _ hr rfl e0 (hbind s₁ (.ref a)) (.cons rfl .nil) sp) fun r s' h => ?_
    rcases r with er | fl
    · obtain ⟨_, _, _, _, _, _, _, _, _, _, _, _, no⟩ := h
      exact no.elim
    · cases fl with
      | next => exact False.elim h
      | brk => exact False.elim h
      | cont => exact False.elim h
      | ret u =>
        obtain ⟨v, H', os, bare, un, hok', r', q⟩ := h
        have q' : v = .bl true := q
        subst q'
        cases r'
        refine ⟨rfl, OldK.of_keep fun b o e => ?_, os, bare⟩
        rcases hq : H b with _ | u
        · exact un.keep b o e hq (fun z => nomatch z) (fun z => nomatch z)
        · rcases only b with z | ⟨ob, xs, z⟩
          · rw [hq] at z
            cases z
          · obtain ⟨e1, _⟩ := hok b _ z
            obtain ⟨e2, _⟩ := hok' b _ (un.frzs b ob _ z)
            rw [e] at e1
            cases e1
            exact e2
  rcases hk : κ.K.lookup a with _ | o
  · refine main (fun b => if b = a then some (.frz { cls := .type "list", data := .seq vs.toArray } (.lst (ns.map V.int))) else none) (fun b => ?_) (.inl (.inr ⟨_, if_pos rfl⟩)) (fun b u z => ?_) (fun b z => ?_) fun _ => hk
    · by_cases hb : b = a
      · exact .inr ⟨_, _, if_pos hb⟩
      · exact .inl (if_neg hb)
    · by_cases hb : b = a
      · have z' := (if_pos hb).symm.trans z
        cases z'
        subst hb
        exact ⟨ha, by rw [List.length_map]; exact hl, vs, _, rv, ha⟩
      · have z' := (if_neg hb).symm.trans z
        cases z'
    · by_cases hb : b = a
      · exact hb
      · exact absurd (if_neg hb) z
  · have e := KX a o hk
    rw [ha] at e
    cases e
    exact main (fun _ => none) (fun _ => .inl rfl) (.inr ⟨vs.toArray, _, hk, by rw [List.size_toArray, lenV]; exact hl, by simpa using rv⟩) (fun b u z => nomatch z) (fun b z => absurd rfl z) fun z => absurd rfl z
/-- the goal that the head leaves -/
theorem walk_law {l : PySem.W.OpenLaw} {n k : Nat} {q : Program} {loose : List Str} {XP : (Str → Option Value) → Heap → Prop} {YP : World → Heap → Prop} {d : DefRec} {K : Params → PySem.W.Frag} {x : Str} {T : Tab} {f : Nat}
    (hn : l.most = some n) (hn2 : n ≤ sizeLine) (hdf : d.params.defaults = []) (hr : Room k callerA) (hY : ∀ (w : World) (h : Heap), YP w h → (K w.params).In h)
    (F : ∀ (w : World) (mg : Str → Option Value) (fa : Addr) (h : Heap), (K w.params).In h → h.Ns mainGlobals mg → mg d.name = some (.ref fa) →
      ∃ (fd : FuncData) (κ : Kx), κ.K = K w.params ∧ (∀ (s : Shared) (u : Value), BindsTo s fd ⟨[u], []⟩ [(x, u)]) ∧
        ∀ base : Heap, (K w.params).In base → base.Ns mainGlobals mg → Fg l.prog w κ.K mg base k fa fd [x] (spD κ T f))
    (hio : T.io f = none) (law : ∀ ns : List Int, ns.length ≤ n → T.G f [.lst (ns.map .int)] = .ok (.bl true) false none) :
    PySem.W.WalkO q loose XP YP l.row.toRowW d [] (fun f vs => PySem.call f vs) := by
  refine Att.attach_call hn hdf fun w s₀ s₁ mg mb fa o pm cd doc a vs ns G Y ho hd hcd hmg hobj hints hlen hg => ?_
  obtain ⟨fd, κ, eK, hb, hF⟩ := F w mg fa _ (hY w _ Y) G.T.g hmg
  rw [← eK] at hF
  exact top_call (κ := κ) (by rw [eK]; exact hY w _ Y) G.T.g G.T.b G.T.builtins G.T.nolimit hg hobj hints (Nat.le_trans hlen hn2) hr hF hb hio (law ns hlen)
end PyV
set_option Elab.async false
set_option linter.all false
set_option maxRecDepth 100000
set_option maxHeartbeats 2000000
namespace PyV
open PySem

/-! ## small facts that runs are made of -/
@[simp] theorem ck_non (n : Nat) : ck n .non = true := by cases n <;> rfl
@[simp] theorem ck_bl (n : Nat) (b : Bool) : ck n (.bl b) = true := by cases n <;> rfl
@[simp] theorem ck_int (n : Nat) (b : Int) : ck n (.int b) = true := by cases n <;> rfl
@[simp] theorem ck_str (n : Nat) (b : List Nat) : ck n (.str b) = true := by cases n <;> rfl
@[simp] theorem ck_lst (n : Nat) (b : List D) : ck (n + 1) (.lst b) = b.all (ck n) := rfl
@[simp] theorem ck_tup (n : Nat) (b : List D) : ck (n + 1) (.tup b) = b.all (ck n) := rfl
@[simp] theorem ck_lst8 (b : List D) : ck 8 (.lst b) = b.all (ck 7) := rfl
@[simp] theorem ck_tup8 (b : List D) : ck 8 (.tup b) = b.all (ck 7) := rfl
@[simp] theorem ck_lst7 (b : List D) : ck 7 (.lst b) = b.all (ck 6) := rfl
@[simp] theorem ck_tup7 (b : List D) : ck 7 (.tup b) = b.all (ck 6) := rfl
@[simp] theorem ck_lst6 (b : List D) : ck 6 (.lst b) = b.all (ck 5) := rfl
@[simp] theorem ck_tup6 (b : List D) : ck 6 (.tup b) = b.all (ck 5) := rfl
@[simp] theorem ck_lst5 (b : List D) : ck 5 (.lst b) = b.all (ck 4) := rfl
@[simp] theorem ck_tup5 (b : List D) : ck 5 (.tup b) = b.all (ck 4) := rfl
@[simp] theorem ck_obj (n c : Nat) (ns : List Str) (vs : List D) : ck n (.obj c ns vs) = false := by cases n <;> rfl
theorem ck_ints (n : Nat) (ns : List Int) : (ns.map D.int).all (ck n) = true := by
  rw [List.all_eq_true]
  intro d hd
  obtain ⟨i, _, rfl⟩ := List.mem_map.mp hd
  exact ck_int n i
def eqDs : List D → List D → Bool
  | [], [] => true
  | d :: ds, e :: es => eqD d e && eqDs ds es
  | _, _ => false
theorem pys_eqv : ∀ ds es : List D, PyData.eqvAll (D.pys ds) (D.pys es) = eqDs ds es
  | [], [] => rfl
  | [], _ :: _ => rfl
  | _ :: _, [] => rfl
  | d :: ds, e :: es => by
    show (PyData.eqv d.py e.py && PyData.eqvAll (D.pys ds) (D.pys es)) = _
    rw [pys_eqv ds es]
    rfl
@[simp] theorem eqD_int (i j : Int) : eqD (.int i) (.int j) = decide (i = j) := by
  show (i == j) = _
  by_cases h : i = j <;> simp [h]
@[simp] theorem eqD_bl (i j : Bool) : eqD (.bl i) (.bl j) = (i == j) := rfl
@[simp] theorem eqD_str (s t : List Nat) : eqD (.str s) (.str t) = decide (s = t) := by
  show ((⟨s.toArray⟩ : Str) == ⟨t.toArray⟩) = _
  by_cases h : s = t
  · subst h; simp
  · have : (⟨s.toArray⟩ : Str) ≠ ⟨t.toArray⟩ := fun z => h (by
      have := congrArg (fun x : Str => x.cps.toList) z
      simpa using this)
    simp [h, this]
@[simp] theorem eqD_lst (s t : List D) : eqD (.lst s) (.lst t) = eqDs s t := pys_eqv s t
@[simp] theorem eqD_tup (s t : List D) : eqD (.tup s) (.tup t) = eqDs s t := pys_eqv s t
@[simp] theorem eqD_non : eqD .non .non = true := rfl
@[simp] theorem eqD_non_int (i : Int) : eqD .non (.int i) = false := rfl
@[simp] theorem eqD_int_non (i : Int) : eqD (.int i) .non = false := rfl
@[simp] theorem eqD_str_int (s : List Nat) (i : Int) : eqD (.str s) (.int i) = false := rfl
@[simp] theorem eqD_int_str (s : List Nat) (i : Int) : eqD (.int i) (.str s) = false := rfl
@[simp] theorem eqDs_nil : eqDs [] [] = true := rfl
@[simp] theorem eqDs_cons (d e : D) (ds es : List D) : eqDs (d :: ds) (e :: es) = (eqD d e && eqDs ds es) := rfl
@[simp] theorem eqDs_nc (e : D) (es : List D) : eqDs [] (e :: es) = false := rfl
@[simp] theorem eqDs_cn (e : D) (es : List D) : eqDs (e :: es) [] = false := rfl
theorem eqDs_ints : ∀ ms ns : List Int, eqDs (ms.map D.int) (ns.map D.int) = decide (ms = ns)
  | [], [] => rfl
  | [], _ :: _ => rfl
  | _ :: _, [] => rfl
  | m :: ms, n :: ns => by
    simp only [List.map_cons, eqDs_cons, eqD_int, eqDs_ints ms ns, List.cons.injEq]
    by_cases h : m = n <;> simp [h]
mutual
theorem eqD_self : ∀ {d : D} {n : Nat}, ck n d = true → eqD d d = true
  | .non, _, _ => rfl
  | .bl b, _, _ => by simp
  | .int i, _, _ => by simp
  | .str s, _, _ => by simp
  | .lst ds, 0, h => by simp [ck] at h
  | .tup ds, 0, h => by simp [ck] at h
  | .lst ds, n + 1, h => by
    rw [eqD_lst]
    exact eqDs_self (n := n) (by simpa using h)
  | .tup ds, n + 1, h => by
    rw [eqD_tup]
    exact eqDs_self (n := n) (by simpa using h)
  | .dct _ _, n, h => by cases n <;> simp [ck] at h
  | .obj _ _ _, n, h => by simp at h
  | .exc _ _ _, n, h => by cases n <;> simp [ck] at h
theorem eqDs_self : ∀ {ds : List D} {n : Nat}, (∀ d ∈ ds, ck n d = true) → eqDs ds ds = true
  | [], _, _ => rfl
  | d :: ds, n, h => by
    rw [eqDs_cons, eqD_self (h d List.mem_cons_self), eqDs_self fun e he => h e (List.mem_cons_of_mem _ he)]
    rfl
end
@[simp] theorem flat_int (i : Int) : flat (.int i) = true := rfl
@[simp] theorem flat_str (i : List Nat) : flat (.str i) = true := rfl
@[simp] theorem flat_bl (i : Bool) : flat (.bl i) = true := rfl
@[simp] theorem flat_non : flat .non = true := rfl
@[simp] theorem inD_nil (d : D) : inD d [] = false := rfl
@[simp] theorem inD_cons (d e : D) (es : List D) : inD d (e :: es) = (eqD e d || inD d es) := rfl
theorem inD_ints (i : Int) : ∀ ns : List Int, inD (.int i) (ns.map D.int) = decide (i ∈ ns)
  | [] => by simp
  | n :: ns => by
    rw [List.map_cons, inD_cons, inD_ints i ns, eqD_int]
    by_cases h : n = i
    · subst h; simp
    · have h2 : ¬ i = n := fun z => h z.symm
      simp [h, h2]
theorem flats_ints (ns : List Int) : (ns.map D.int).all flat = true := by
  rw [List.all_eq_true]
  intro d hd
  obtain ⟨i, _, rfl⟩ := List.mem_map.mp hd
  rfl
/-! sizes -/
@[simp] theorem mulOk_l {i j : Int} (h : i.natAbs < 2 ^ 64) : mulOk i j = true := by
  unfold mulOk smallI
  simp [h]
theorem mulOk_r {i j : Int} (h : j.natAbs < 2 ^ 64) : mulOk i j = true := by
  unfold mulOk smallI
  simp [h]
theorem log2_lt {n k : Nat} (h : n < 2 ^ k) (hk : 0 < k) : n.log2 < k := by
  by_cases hn : n = 0
  · subst hn; simpa using hk
  · exact (Nat.log2_lt hn).mpr h
theorem mulOk_of {i j : Int} {a b : Nat} (hi : i.natAbs < 2 ^ a) (hj : j.natAbs < 2 ^ b) (ha : 0 < a) (hb : 0 < b) (h : a + b ≤ 1000000) : mulOk i j = true := by
  unfold mulOk
  have h1 := log2_lt hi ha
  have h2 := log2_lt hj hb
  have : i.natAbs.log2 + j.natAbs.log2 < 1000000 := by omega
  simp [this]
theorem divOk_of {j : Int} (h : 0 < j) (k : Nat) (hj : j.natAbs < 2 ^ k) (hk : k ≤ 9000) : divOk j = true := by
  unfold divOk
  have h0 : 0 < k := by
    rcases Nat.eq_zero_or_pos k with z | z
    · subst z
      have : j.natAbs < 1 := by simpa using hj
      omega
    · exact z
  have := log2_lt hj h0
  simp [h]
  omega
theorem reps_eq {α : Type} (k : Nat) (a : α) : reps k [a] = List.replicate k a := by
  unfold reps
  induction k with
  | zero => rfl
  | succ k ih => rw [List.replicate_succ, List.flatten_cons, ih, List.replicate_succ]; rfl
@[simp] theorem reps_one (k : Nat) (a : Nat) : reps k [a] = List.replicate k a := reps_eq k a
theorem asgT_v (p : Option Nat) (i : Nat) (d : D) (s : Ss) : asgT p (.v i) d s = stS p i (.val d) s := rfl
theorem asgT_t (p : Option Nat) (ts : List T) (ds : List D) (s : Ss) : asgT p (.tup ts) (.tup ds) s = asgTs p ts ds s := rfl
theorem asgTs_n (p : Option Nat) (s : Ss) : asgTs p [] [] s = some s := rfl
theorem asgTs_c (p : Option Nat) (t : T) (ts : List T) (d : D) (ds : List D) (s : Ss) : asgTs p (t :: ts) (d :: ds) s = match asgT p t d s with
    | none => none
    | some s1 => asgTs p ts ds s1 := rfl
/-- runs that go on -/
theorem evB_app {T : Tab} {p : Option Nat} {n : Nat} : ∀ {a b : List S} {s s1 : Ss}, evB T p n a s = .ok .nx s1 → evB T p n (a ++ b) s = evB T p n b s1
  | [], b, s, s1, h => by
    simp only [evB] at h
    cases h
    rfl
  | st :: a, b, s, s1, h => by
    simp only [evB, List.cons_append] at h ⊢
    cases e : evS T p n st s with
    | bad => rw [e] at h; cases h
    | ex x s2 => rw [e] at h; cases h
    | ok fl s2 =>
      rw [e] at h
      cases fl with
      | nx => exact evB_app h
      | rt d fr => cases h
      | bk => cases h
      | ct => cases h
@[simp] theorem wipeS_n (s : Ss) : wipeS [] s = s := rfl
@[simp] theorem wipeS_c (v : Nat) (vs : List Nat) (s : Ss) : wipeS (v :: vs) s = (wipeS vs s).set v .emp := rfl
@[simp] theorem restS_n (s s' : Ss) : restS s [] s' = s' := rfl
@[simp] theorem restS_c (v : Nat) (vs : List Nat) (s s' : Ss) : restS s (v :: vs) s' = (restS s vs s').set v (sl? s v) := rfl
theorem forL_nil {st : D → Ss → Option Ss} {body : Ss → R Fl} {s : Ss} : forL st body [] s = .ok .nx s := rfl
theorem forL_step {st : D → Ss → Option Ss} {body : Ss → R Fl} {d : D} {ds : List D} {s s1 s2 : Ss} (h1 : st d s = some s1) (h2 : body s1 = .ok .nx s2) : forL st body (d :: ds) s = forL st body ds s2 := by
  simp only [forL, h1, h2]
theorem forL_exit {st : D → Ss → Option Ss} {body : Ss → R Fl} {d : D} {ds : List D} {s s1 : Ss} {r : R Fl} (h1 : st d s = some s1) (h2 : body s1 = r) (h3 : match r with | .ok .nx _ => False | .ok .ct _ => False | .ok .bk _ => False | _ => True) : forL st body (d :: ds) s = r := by
  simp only [forL, h1, h2]
  cases r with
  | bad => rfl
  | ex x s => rfl
  | ok fl s => cases fl <;> first | exact h3.elim | rfl
/-- a loop that goes on to its end, by what holds ahead of each turn -/
theorem forL_inv {st : D → Ss → Option Ss} {body : Ss → R Fl} (I : Nat → Ss → Prop) : ∀ {xs : List D} {k : Nat} {s : Ss}, I k s →
    (∀ j d s, xs[j]? = some d → I (k + j) s → ∃ s1 s2, st d s = some s1 ∧ body s1 = .ok .nx s2 ∧ I (k + j + 1) s2) → ∃ s', forL st body xs s = .ok .nx s' ∧ I (k + xs.length) s'
  | [], k, s, h0, _ => ⟨s, rfl, h0⟩
  | d :: ds, k, s, h0, step => by
    obtain ⟨s1, s2, h1, h2, h3⟩ := step 0 d s rfl h0
    obtain ⟨s', e, h⟩ := forL_inv I (xs := ds) (k := k + 1) (s := s2) h3 fun j d s hd hI => by
      have := step (j + 1) d s (by simpa using hd) (by rw [show k + (j + 1) = k + 1 + j by omega]; exact hI)
      rw [show k + (j + 1) = k + 1 + j by omega] at this
      exact this
    refine ⟨s', ?_, ?_⟩
    · rw [forL_step h1 h2]
      exact e
    · rw [List.length_cons, show k + (ds.length + 1) = k + 1 + ds.length by omega]
      exact h
theorem lcL_nil {st : D → Ss → Option Ss} {cond : Ss → R Bool} {elt : Ss → R Rv} {wp : Ss → Ss} {acc : List D} {s : Ss} : lcL st cond elt wp [] acc s = .ok acc s := rfl
theorem lcL_step {st : D → Ss → Option Ss} {cond : Ss → R Bool} {elt : Ss → R Rv} {wp : Ss → Ss} {d z : D} {ds acc : List D} {s s1 s2 s3 s4 : Ss} {r : Rv} (h1 : st d s = some s1) (h2 : cond s1 = .ok true s2) (h3 : elt s2 = .ok r s3) (h4 : fz s3 r = some (z, s4)) (h5 : acc.length < 16777216) :
    lcL st cond elt wp (d :: ds) acc s = lcL st cond elt wp ds (acc ++ [z]) (wp s4) := by
  simp only [lcL, h1, h2, h3, h4, lim, h5, if_true]
theorem lcL_skip {st : D → Ss → Option Ss} {cond : Ss → R Bool} {elt : Ss → R Rv} {wp : Ss → Ss} {d : D} {ds acc : List D} {s s1 s2 : Ss} (h1 : st d s = some s1) (h2 : cond s1 = .ok false s2) :
    lcL st cond elt wp (d :: ds) acc s = lcL st cond elt wp ds acc (wp s2) := by
  simp only [lcL, h1, h2]
/-- a comprehension whose turns leave the slots as they are: the state s at each turn's start, F the items' values, P the test -/
theorem lcL_map {st : D → Ss → Option Ss} {cond : Ss → R Bool} {elt : Ss → R Rv} {wp : Ss → Ss} {s : Ss} {F : D → D} {P : D → Bool} : ∀ {xs acc : List D}, acc.length + xs.length ≤ 16777216 →
    (∀ d ∈ xs, ∃ s1, st d s = some s1 ∧ cond s1 = .ok (P d) s1 ∧ wp s1 = s ∧ (P d = true → ∃ r, elt s1 = .ok r s1 ∧ fz s1 r = some (F d, s1))) →
    lcL st cond elt wp xs acc s = .ok (acc ++ (xs.filter P).map F) s
  | [], acc, _, _ => by simp [lcL]
  | d :: ds, acc, hl, h => by
    obtain ⟨s1, h1, h2, h3, h4⟩ := h d List.mem_cons_self
    have hl' : acc.length + (ds.length + 1) ≤ 16777216 := hl
    cases hp : P d with
    | true =>
      obtain ⟨r, h5, h6⟩ := h4 hp
      rw [hp] at h2
      rw [lcL_step h1 h2 h5 h6 (by omega), h3, lcL_map (by simp; omega) fun e he => h e (List.mem_cons_of_mem _ he)]
      simp [List.filter_cons, hp]
    | false =>
      rw [hp] at h2
      rw [lcL_skip h1 h2, h3, lcL_map (by omega) fun e he => h e (List.mem_cons_of_mem _ he)]
      simp [List.filter_cons, hp]
end PyV
set_option Elab.async false
set_option linter.all false
set_option maxRecDepth 100000
set_option maxHeartbeats 2000000
namespace PyV
open PySem

/-! ## a table told by bodies alone: what a def gives is what its run gives -/
@[simp] def Tab.w (T : Tab) (G : Nat → Fn) : Tab := { T with G := G }
/-- nothing told, or the same -/
def Lq {α : Type} (r r' : R α) : Prop := r = .bad ∨ r' = r
def Lf (r r' : FR) : Prop := r = .bad ∨ r' = r
theorem Lq.rf {α : Type} {r : R α} : Lq r r := .inr rfl
theorem Lq.bad {α : Type} {r : R α} : Lq .bad r := .inl (Eq.refl _)
theorem Lq.bind {α β : Type} {r r' : R α} {f f' : α → Ss → R β} (h : Lq r r') (hf : ∀ a s, Lq (f a s) (f' a s)) : Lq (r.bind f) (r'.bind f') := by
  rcases h with h | h
  · subst h; exact .inl rfl
  · subst h
    cases r' with
    | ok a s => exact hf a s
    | ex x s => exact .inr rfl
    | bad => exact .inl rfl
section
variable {T : Tab} {G G' : Nat → Fn} {p : Option Nat} {n n' : Nat}
def Gle (G G' : Nat → Fn) : Prop := ∀ f ds, Lf (G f ds) (G' f ds)
theorem lq_call (hG : Gle G G') (f : Nat) (rs : List Rv) (s : Ss) : Lq (callD (T.w G) f rs s) (callD (T.w G') f rs s) := by
  unfold callD
  simp only [Tab.w]
  split
  · exact .inl rfl
  · rename_i ds s1 h
    split
    · rcases hG f ds with e | e
      · rw [e]; exact .inl rfl
      · rw [e]; exact .inr rfl
    · rename_i j hj
      unfold lendD
      simp only [Tab.w]
      generalize rs[j]? = q
      cases q with
      | none => exact .inl rfl
      | some r =>
        cases r with
        | val d => exact .inl rfl
        | own d =>
          simp only
          rcases hG f (ds.set j d) with e | e
          · rw [e]; exact .inl rfl
          · rw [e]; exact .inr rfl
        | ali i =>
          simp only
          generalize sl? s1 i = z
          cases z with
          | emp => exact .inl rfl
          | val d => exact .inl rfl
          | own d =>
            simp only
            rcases hG f (ds.set j d) with e | e
            · rw [e]; exact .inl rfl
            · rw [e]; exact .inr rfl
theorem lq_new (hG : Gle G G') (c : Nat) (rs : List Rv) (s : Ss) : Lq (newD (T.w G) c rs s) (newD (T.w G') c rs s) := by
  unfold newD
  simp only [Tab.w]
  split
  · exact .inl rfl
  · rename_i ds s1 h
    rcases hG (T.ini c) (.obj c [] [] :: ds) with e | e
    · rw [e]; exact .inl rfl
    · rw [e]; exact .inr rfl
theorem lq_objQ (hG : Gle G G') (d e : D) : objQ (T.w G) d e = none ∨ objQ (T.w G') d e = objQ (T.w G) d e := by
  cases d <;> first | exact .inl rfl | skip
  cases e <;> first | exact .inl rfl | skip
  rename_i c ns vs c2 ms ws
  unfold objQ
  simp only [Tab.w]
  by_cases hc : c = c2
  · rw [if_pos hc, if_pos hc]
    cases T.eqf c with
    | none => exact .inl rfl
    | some f =>
      simp only
      rcases hG f [.obj c ns vs, .obj c2 ms ws] with e | e
      · rw [e]
        left
        cases T.io f <;> rfl
      · rw [e]; exact .inr rfl
  · rw [if_neg hc]; exact .inl rfl
theorem lq_eqO (hG : Gle G G') (o : Co) (x y : Rv) (s : Ss) : Lq (eqO (T.w G) o x y s) (eqO (T.w G') o x y s) := by
  cases o <;> first | exact .inl rfl | skip
  unfold eqO
  simp only
  cases fz s x with
  | none => exact .inl rfl
  | some z =>
    obtain ⟨d, s1⟩ := z
    simp only
    cases fz s1 y with
    | none => exact .inl rfl
    | some z =>
      obtain ⟨e, s2⟩ := z
      simp only
      rcases lq_objQ (T := T) hG d e with h | h
      · rw [h]; exact .inl rfl
      · rw [h]; exact .inr rfl
theorem lq_lc {st : D → Ss → Option Ss} {cond cond' : Ss → R Bool} {elt elt' : Ss → R Rv} {wp : Ss → Ss} (hc : ∀ s, Lq (cond s) (cond' s)) (he : ∀ s, Lq (elt s) (elt' s)) : ∀ (xs acc : List D) (s : Ss), Lq (lcL st cond elt wp xs acc s) (lcL st cond' elt' wp xs acc s)
  | [], acc, s => .inr rfl
  | d :: ds, acc, s => by
    unfold lcL
    cases st d s with
    | none => exact .inl rfl
    | some s1 =>
      simp only
      rcases hc s1 with h | h
      · rw [h]; exact .inl rfl
      · rw [h]
        cases cond s1 with
        | bad => exact .inl rfl
        | ex x s => exact .inl rfl
        | ok b s2 =>
          cases b with
          | false => exact lq_lc hc he ds acc (wp s2)
          | true =>
            simp only
            rcases he s2 with h | h
            · rw [h]; exact .inl rfl
            · rw [h]
              cases elt s2 with
              | bad => exact .inl rfl
              | ex x s => exact .inl rfl
              | ok r s3 =>
                simp only
                cases fz s3 r with
                | none => exact .inl rfl
                | some z =>
                  simp only
                  split
                  · exact lq_lc hc he ds _ _
                  · exact .inl rfl
theorem lq_for {st : D → Ss → Option Ss} {b b' : Ss → R Fl} (hb : ∀ s, Lq (b s) (b' s)) : ∀ (xs : List D) (s : Ss), Lq (forL st b xs s) (forL st b' xs s)
  | [], s => .inr rfl
  | d :: ds, s => by
    unfold forL
    cases st d s with
    | none => exact .inl rfl
    | some s1 =>
      simp only
      rcases hb s1 with h | h
      · rw [h]; exact .inl rfl
      · rw [h]
        cases b s1 with
        | bad => exact .inl rfl
        | ex x s => exact .inr rfl
        | ok fl s2 =>
          cases fl with
          | nx => exact lq_for hb ds s2
          | ct => exact lq_for hb ds s2
          | bk => exact .inr rfl
          | rt d fr => exact .inr rfl
theorem lq_whl {c c' : Ss → R Bool} {b b' : Ss → R Fl} (hc : ∀ s, Lq (c s) (c' s)) (hb : ∀ s, Lq (b s) (b' s)) : ∀ (n n' : Nat), n ≤ n' → ∀ s : Ss, Lq (whlN c b n s) (whlN c' b' n' s)
  | 0, _, _, s => .inl rfl
  | n + 1, 0, h, _ => absurd h (by omega)
  | n + 1, n' + 1, hn, s => by
    unfold whlN
    rcases hc s with h | h
    · rw [h]; exact .inl rfl
    · rw [h]
      cases c s with
      | bad => exact .inl rfl
      | ex x s => exact .inr rfl
      | ok k s1 =>
        cases k with
        | false => exact .inr rfl
        | true =>
          simp only
          rcases hb s1 with h | h
          · rw [h]; exact .inl rfl
          · rw [h]
            cases b s1 with
            | bad => exact .inl rfl
            | ex x s => exact .inr rfl
            | ok fl s2 =>
              cases fl with
              | nx => exact lq_whl hc hb n n' (by omega) s2
              | ct => exact lq_whl hc hb n n' (by omega) s2
              | bk => exact .inr rfl
              | rt d fr => exact .inr rfl
mutual
theorem lq_E (hG : Gle G G') : ∀ (e : E) (s : Ss), Lq (evE (T.w G) p e s) (evE (T.w G') p e s)
  | .var i, s => by simp only [evE]; exact .inr rfl
  | .non, s => by simp only [evE]; exact .inr rfl
  | .bl b, s => by simp only [evE]; exact .inr rfl
  | .int b, s => by simp only [evE]; exact .inr rfl
  | .str b, s => by simp only [evE]; exact .inr rfl
  | .glb b, s => by simp only [evE]; exact .inr rfl
  | .nop, s => by simp only [evE]; exact .inr rfl
  | .bin o a b, s => by
    simp only [evE]
    exact (lq_E hG a s).bind fun x s1 => (lq_E hG b s1).bind fun y s2 => .inr rfl
  | .neg a, s => by
    simp only [evE]
    exact (lq_E hG a s).bind fun x s1 => .inr rfl
  | .cmp o a b, s => by
    simp only [evE]
    refine (lq_E hG a s).bind fun x s1 => (lq_E hG b s1).bind fun y s2 => ?_
    split
    · split
      · exact .inr rfl
      · exact lq_eqO hG ..
    · exact .inl rfl
  | .att a f, s => by
    simp only [evE]
    exact (lq_E hG a s).bind fun x s1 => .inr rfl
  | .ch2 a o b q c, s => by
    simp only [evE]
    refine (lq_E hG a s).bind fun x s1 => (lq_E hG b s1).bind fun y s2 => ?_
    split
    · split
      · exact (lq_E hG c s2).bind fun z s3 => .inr rfl
      · exact .inr rfl
      · exact .inl rfl
    · exact .inl rfl
  | .ch3 a o b q c r d', s => by
    simp only [evE]
    refine (lq_E hG a s).bind fun x s1 => (lq_E hG b s1).bind fun y s2 => ?_
    split
    · split
      · refine (lq_E hG c s2).bind fun z s3 => ?_
        split
        · split
          · exact (lq_E hG d' s3).bind fun w s4 => .inr rfl
          · exact .inr rfl
          · exact .inl rfl
        · exact .inl rfl
      · exact .inr rfl
      · exact .inl rfl
    · exact .inl rfl
  | .isn a, s => by
    simp only [evE]
    exact (lq_E hG a s).bind fun x s1 => .inr rfl
  | .nsn a, s => by
    simp only [evE]
    exact (lq_E hG a s).bind fun x s1 => .inr rfl
  | .and a b, s => by
    simp only [evE]
    refine (lq_E hG a s).bind fun x s1 => ?_
    split
    · exact (lq_E hG b s1).bind fun y s2 => .inr rfl
    · exact .inr rfl
    · exact .inl rfl
  | .or a b, s => by
    simp only [evE]
    refine (lq_E hG a s).bind fun x s1 => ?_
    split
    · exact (lq_E hG b s1).bind fun y s2 => .inr rfl
    · exact .inr rfl
    · exact .inl rfl
  | .not a, s => by
    simp only [evE]
    exact (lq_E hG a s).bind fun x s1 => .inr rfl
  | .ite c a b, s => by
    simp only [evE]
    refine (lq_E hG c s).bind fun x s1 => ?_
    split
    · exact lq_E hG a s1
    · exact lq_E hG b s1
    · exact .inl rfl
  | .tup es, s => by
    simp only [evE]
    exact (lq_Es hG es s).bind fun x s1 => .inr rfl
  | .lst es, s => by
    simp only [evE]
    exact (lq_Es hG es s).bind fun x s1 => .inr rfl
  | .lstS k es, s => by
    simp only [evE]
    exact (lq_Xs hG k es s).bind fun x s1 => .inr rfl
  | .sub a b, s => by
    simp only [evE]
    exact (lq_E hG a s).bind fun x s1 => (lq_E hG b s1).bind fun y s2 => .inr rfl
  | .slc a lo hi, s => by
    have ia := lq_E hG a s
    have il := fun s => lq_E hG lo s
    have ih := fun s => lq_E hG hi s
    simp only [evE]
    refine ia.bind fun x s1 => ?_
    refine Lq.bind ?_ fun l s2 => Lq.bind ?_ fun h s3 => .inr rfl
    · split
      · exact .inr rfl
      · exact (il s1).bind fun y s2 => .inr rfl
    · split
      · exact .inr rfl
      · exact (ih s2).bind fun y s2 => .inr rfl
  | .rev a, s => by
    simp only [evE]
    exact (lq_E hG a s).bind fun x s1 => .inr rfl
  | .call f es, s => by
    simp only [evE]
    exact (lq_Es hG es s).bind fun x s1 => lq_call hG ..
  | .bi b es, s => by
    simp only [evE]
    exact (lq_Es hG es s).bind fun x s1 => .inr rfl
  | .mth m a es, s => by
    simp only [evE]
    refine (lq_E hG a s).bind fun x s1 => ?_
    split
    · exact (lq_Es hG es s1).bind fun x s1 => .inr rfl
    · exact .inl rfl
  | .bits a, s => by
    simp only [evE]
    exact (lq_E hG a s).bind fun x s1 => .inr rfl
  | .prp f a, s => by
    simp only [evE]
    refine (lq_E hG a s).bind fun x s1 => ?_
    split
    · show Lq (if T.mem f _ = true then _ else _) (if T.mem f _ = true then _ else _)
      split
      · rcases lq_call (T := T) hG f [x] s1 with h | h
        · rw [h]; exact .inl rfl
        · rw [h]; exact .inr rfl
      · exact .inl rfl
    · exact .inl rfl
  | .umt f a es, s => by
    simp only [evE]
    refine (lq_E hG a s).bind fun x s1 => ?_
    split
    · rename_i c ns vs _
      show Lq (if T.mem f c = true ∧ ns.contains (T.nm f) = false then _ else _) (if T.mem f c = true ∧ ns.contains (T.nm f) = false then _ else _)
      split
      · exact (lq_Es hG es s1).bind fun x s1 => lq_call hG ..
      · exact .inl rfl
    · exact .inl rfl
  | .new c es, s => by
    simp only [evE]
    exact (lq_Es hG es s).bind fun x s1 => lq_new hG ..
  | .isi a t, s => by
    simp only [evE]
    exact (lq_E hG a s).bind fun x s1 => .inr rfl
  | .lc elt t k its c own, s => by
    have ic := fun s => lq_E hG c s
    have ie := fun s => lq_E hG elt s
    have ii := lq_Es hG its s
    have hc : ∀ s, Lq (condD (T.w G) p c s) (condD (T.w G') p c s) := fun s => by
      unfold condD
      split
      · exact .inr rfl
      · exact (ic s).bind fun y s' => .inr rfl
    rw [lc_eq, lc_eq]
    refine ii.bind fun rs s1 => ?_
    split
    · exact .inl rfl
    · rename_i ds s2 _
      split
      · exact .inl rfl
      · rename_i xs _
        split
        · rcases lq_lc (st := asgT p t) (cond := condD (T.w G) p c) (cond' := condD (T.w G') p c) (elt := evE (T.w G) p elt) (elt' := evE (T.w G') p elt) (wp := wipeS own) hc ie xs [] (wipeS own s2) with h | h
          · rw [h]; exact .inl rfl
          · rw [h]; exact .inr rfl
        · exact .inl rfl
theorem lq_Es (hG : Gle G G') : ∀ (es : List E) (s : Ss), Lq (evEs (T.w G) p es s) (evEs (T.w G') p es s)
  | [], s => by simp only [evEs]; exact .inr rfl
  | e :: es, s => by
    simp only [evEs]
    exact (lq_E hG e s).bind fun x s1 => (lq_Es hG es s1).bind fun rs s2 => .inr rfl
theorem lq_Xs (hG : Gle G G') : ∀ (k : Nat) (es : List E) (s : Ss), Lq (evXs (T.w G) p k es s) (evXs (T.w G') p k es s)
  | k, [], s => by simp only [evXs]; exact .inr rfl
  | 0, e :: es, s => by
    simp only [evXs]
    exact (lq_E hG e s).bind fun x s1 => (lq_Xs hG 0 es s1).bind fun rs s2 => .inr rfl
  | k + 1, a :: es, s => by
    simp only [evXs]
    refine (lq_E hG a s).bind fun x s1 => ?_
    split
    · exact (lq_Xs hG k es s1).bind fun rs s2 => .inr rfl
    · exact .inl rfl
end
theorem lq_tst {r r' : R Rv} (h : Lq r r') : Lq (tstR r) (tstR r') := h.bind fun _ _ => .inr rfl
mutual
theorem lq_S (hG : Gle G G') (hn : n ≤ n') : ∀ (st : S) (s : Ss), Lq (evS (T.w G) p n st s) (evS (T.w G') p n' st s)
  | .asg (.v i) e, s => by
    simp only [evS]
    exact (lq_E hG e s).bind fun x s1 => .inr rfl
  | .asg (.tup ts) e, s => by
    simp only [evS]
    exact (lq_E hG e s).bind fun x s1 => .inr rfl
  | .par is es, s => by
    simp only [evS]
    exact (lq_Es hG es s).bind fun x s1 => .inr rfl
  | .parT is es, s => by
    simp only [evS]
    exact (lq_Es hG es s).bind fun x s1 => .inr rfl
  | .aug i o e, s => by
    simp only [evS]
    split
    · exact (lq_E hG e s).bind fun x s1 => .inr rfl
    · exact .inl rfl
  | .app i e, s => by
    simp only [evS]
    split
    · exact (lq_E hG e s).bind fun x s1 => .inr rfl
    · exact .inl rfl
  | .ext i e, s => by
    simp only [evS]
    split
    · exact (lq_E hG e s).bind fun x s1 => .inr rfl
    · exact .inl rfl
  | .set i k e, s => by
    simp only [evS]
    refine (lq_E hG e s).bind fun x s1 => ?_
    split
    · split
      · exact (lq_E hG k _).bind fun x s1 => .inr rfl
      · exact .inl rfl
    · exact .inl rfl
  | .fld i f e, s => by
    simp only [evS]
    exact (lq_E hG e s).bind fun x s1 => .inr rfl
  | .exp e, s => by
    simp only [evS]
    exact (lq_E hG e s).bind fun x s1 => .inr rfl
  | .ife c a b, s => by
    simp only [evS]
    refine (lq_tst (lq_E hG c s)).bind fun k s1 => ?_
    split
    · exact lq_B hG hn a s1
    · exact lq_B hG hn b s1
  | .for_ t k its b, s => by
    have ib := fun s => lq_B hG hn b s
    simp only [evS]
    refine (lq_Es hG its s).bind fun rs s1 => ?_
    split
    · exact .inl rfl
    · split
      · exact .inl rfl
      · exact lq_for ib _ _
  | .whl c b, s => by
    have ib := fun s => lq_B hG hn b s
    simp only [evS]
    exact lq_whl (fun s => lq_tst (lq_E hG c s)) ib n n' hn s
  | .ret e, s => by
    simp only [evS]
    exact (lq_E hG e s).bind fun x s1 => .inr rfl
  | .rtn, s => by simp only [evS]; exact .inr rfl
  | .brk, s => by simp only [evS]; exact .inr rfl
  | .cnt, s => by simp only [evS]; exact .inr rfl
  | .pas, s => by simp only [evS]; exact .inr rfl
  | .rse c, s => by simp only [evS]; exact .inr rfl
  | .nev, s => by simp only [evS]; exact .inr rfl
theorem lq_B (hG : Gle G G') (hn : n ≤ n') : ∀ (b : List S) (s : Ss), Lq (evB (T.w G) p n b s) (evB (T.w G') p n' b s)
  | [], s => by simp only [evB]; exact .inr rfl
  | st :: r, s => by
    simp only [evB]
    rcases lq_S hG hn st s with h | h
    · rw [h]; exact .inl rfl
    · rw [h]
      cases evS (T.w G) p n st s with
      | bad => exact .inl rfl
      | ex x s1 => exact .inr rfl
      | ok fl s1 =>
        cases fl with
        | nx => exact lq_B hG hn r s1
        | rt d fr => exact .inr rfl
        | bk => exact .inr rfl
        | ct => exact .inr rfl
end
theorem lf_run (hG : Gle G G') (hn : n ≤ n') (f : Df) (ds : List D) : Lf (runD (T.w G) p n f ds) (runD (T.w G') p n' f ds) := by
  unfold runD
  split
  · rcases lq_B (T := T) hG hn f.body (start0 p ds ++ List.replicate (f.ns - f.np) .emp) with h | h
    · rw [h]; exact .inl rfl
    · rw [h]; exact .inr rfl
  · exact .inl rfl
end

/-! ### the least table -/
/-- what a def gives: by its body, or told (ex) -/
inductive Ev (T : Tab) (bd : Nat → Df) (ex : Nat → Option Fn) : Nat → List D → FR → Prop
  | mk (G : Nat → Fn) (h : ∀ f ds, G f ds ≠ .bad → Ev T bd ex f ds (G f ds)) (f : Nat) (ds : List D) (n : Nat) (r : FR) (e : runD (T.w G) (T.io f) n (bd f) ds = r) (hr : r ≠ .bad) (hx : ex f = none) : Ev T bd ex f ds r
  | giv (f : Nat) (ds : List D) (F : Fn) (hx : ex f = some F) (hr : F ds ≠ .bad) : Ev T bd ex f ds (F ds)
theorem Ev.one {T : Tab} {bd : Nat → Df} {ex : Nat → Option Fn} {f : Nat} {ds : List D} {r : FR} (h : Ev T bd ex f ds r) : ∀ r', Ev T bd ex f ds r' → r' = r := by
  induction h with
  | giv f ds F hx hr =>
    intro r' h'
    cases h' with
    | mk G' h' _ _ n' _ e' hr' hx' => rw [hx] at hx'; cases hx'
    | giv _ _ F' hx' hr' => rw [hx] at hx'; cases hx'; rfl
  | mk G h f ds n r e hr hx ih =>
    intro r' h'
    cases h' with
    | giv _ _ F' hx' hr' => rw [hx] at hx'; cases hx'
    | mk G' h' _ _ n' _ e' hr' hx' =>
      classical
      let J : Nat → Fn := fun f ds => if G f ds ≠ .bad then G f ds else G' f ds
      have j1 : Gle G J := fun f ds => by
        by_cases z : G f ds = .bad
        · exact .inl z
        · exact .inr (if_pos z)
      have j2 : Gle G' J := fun f ds => by
        by_cases z : G' f ds = .bad
        · exact .inl z
        · right
          show (if G f ds ≠ .bad then G f ds else G' f ds) = _
          split
          · rename_i y
            exact (ih f ds y _ (h' f ds z)).symm
          · rfl
      have q1 := lf_run (T := T) (p := T.io f) (n := n) (n' := max n n') j1 (by omega) (bd f) ds
      have q2 := lf_run (T := T) (p := T.io f) (n := n') (n' := max n n') j2 (by omega) (bd f) ds
      rcases q1 with q1 | q1
      · exact absurd (e.symm.trans q1) hr
      · rcases q2 with q2 | q2
        · exact absurd (e'.symm.trans q2) hr'
        · rw [← e, ← e', ← q1, ← q2]
open Classical in
noncomputable def Gw (T : Tab) (bd : Nat → Df) (ex : Nat → Option Fn) : Nat → Fn := fun f ds => if h : ∃ r, Ev T bd ex f ds r then h.choose else .bad
section
variable {T : Tab} {bd : Nat → Df} {ex : Nat → Option Fn} {f : Nat} {ds : List D} {r : FR}
theorem Gw.ev (h : Gw T bd ex f ds ≠ .bad) : Ev T bd ex f ds (Gw T bd ex f ds) := by
  unfold Gw at h ⊢
  split
  · rename_i z
    exact z.choose_spec
  · rename_i z
    rw [dif_neg z] at h
    exact absurd rfl h
theorem Gw.of (h : Ev T bd ex f ds r) : Gw T bd ex f ds = r := by
  unfold Gw
  rw [dif_pos ⟨r, h⟩]
  exact h.one _ (Exists.choose_spec (⟨r, h⟩ : ∃ r, Ev T bd ex f ds r))
/-- the least table of the bodies -/
noncomputable def Tab.fix (T : Tab) (bd : Nat → Df) (ex : Nat → Option Fn) : Tab := T.w (Gw T bd ex)
/-- a run that ends tells what the def gives -/
theorem fix_run (hx : ex f = none) (n : Nat) (e : runD (T.fix bd ex) (T.io f) n (bd f) ds = r) (hr : r ≠ .bad) : (T.fix bd ex).G f ds = r :=
  Gw.of (.mk (Gw T bd ex) (fun _ _ h => Gw.ev h) f ds n r e hr hx)
theorem fix_giv {F : Fn} (hx : ex f = some F) (hr : F ds ≠ .bad) : (T.fix bd ex).G f ds = F ds := Gw.of (.giv f ds F hx hr)
theorem fix_giv_known {F : Fn} (hx : ex f = some F) (h : (T.fix bd ex).G f ds ≠ .bad) : (T.fix bd ex).G f ds = F ds := by
  have ev := Gw.ev (T := T) (bd := bd) (ex := ex) (f := f) (ds := ds) h
  have go : ∀ r, Ev T bd ex f ds r → r = F ds := by
    intro r hv
    cases hv with
    | mk G hg _ _ n _ e hr hx' => rw [hx] at hx'; cases hx'
    | giv _ _ F' hx' hr' => rw [hx] at hx'; cases hx'; rfl
  exact go _ ev
theorem fix_known (hx : ex f = none) : ∀ ds, (T.fix bd ex).G f ds ≠ .bad → ∃ n, runD (T.fix bd ex) ((T.fix bd ex).io f) n (bd f) ds = (T.fix bd ex).G f ds := fun ds h => by
  have ev := Gw.ev (T := T) (bd := bd) (ex := ex) (f := f) (ds := ds) h
  have go : ∀ r, Ev T bd ex f ds r → ∃ n, runD (T.fix bd ex) (T.io f) n (bd f) ds = r := by
    intro r hv
    cases hv with
    | giv _ _ F' hx' hr' => rw [hx] at hx'; cases hx'
    | mk G hg _ _ n _ e hr hx' =>
      refine ⟨n, ?_⟩
      have j : Gle G (Gw T bd ex) := fun f ds => by
        by_cases z : G f ds = .bad
        · exact .inl z
        · exact .inr (Gw.of (hg f ds z))
      rcases lf_run (T := T) (p := T.io f) (n := n) (n' := n) j (Nat.le_refl _) (bd f) ds with q | q
      · exact absurd (e.symm.trans q) hr
      · exact q.trans e
  exact go _ ev
end
end PyV
set_option Elab.async false
set_option linter.all false
set_option maxRecDepth 100000
set_option maxHeartbeats 2000000
namespace PyV
open PySem

/-! ## small facts for what the top has left -/
theorem list6 {α : Type} {a1 a2 a3 a4 a5 a6 b1 b2 b3 b4 b5 b6 : α} (h1 : a1 = b1) (h2 : a2 = b2) (h3 : a3 = b3) (h4 : a4 = b4) (h5 : a5 = b5) (h6 : a6 = b6) : [a1, a2, a3, a4, a5, a6] = [b1, b2, b3, b4, b5, b6] := by
  rw [h1, h2, h3, h4, h5, h6]
theorem kit_self {K : PySem.W.Frag} {v : Value} (h : (v == v) = true := by first | rfl | simp) : PySem.W.kitOne K v v = some true := by
  unfold PySem.W.kitOne
  rw [if_pos h]
theorem kit_ty {K : PySem.W.Frag} {v : Value} {t : String} {b : Bool} (h : (v == Value.type t) = false) (hm : PySem.W.kitMeta t = true) (s : PySem.W.subIn K v (.type t) = some b) : PySem.W.kitOne K v (.type t) = some b := by
  unfold PySem.W.kitOne
  rw [h]
  simp only [Bool.false_eq_true, if_false]
  unfold PySem.W.kitCls
  simp only [hm, if_true]
  exact s
theorem kit_ref {K : PySem.W.Frag} {v : Value} {C : Addr} {b : Bool} (h : (v == Value.ref C) = false) (hc : PySem.W.isClsIn K C = true) (ht : PySem.W.typeIn K (.ref C) = some (.type "type")) (s : PySem.W.subIn K v (.ref C) = some b) : PySem.W.kitOne K v (.ref C) = some b := by
  unfold PySem.W.kitOne
  rw [h]
  simp only [Bool.false_eq_true, if_false]
  unfold PySem.W.kitCls
  have hc : (PySem.W.clsIn K C).isSome = true := hc
  have e : ((PySem.W.clsIn K C).isSome && PySem.W.typeIn K (.ref C) == some (.type "type")) = true := by
    rw [hc, ht]
    rfl
  simp only [e, if_true]
  exact s
theorem nok {f : Nat} (h : ([] : List Nat).contains f = true) : False := by simp at h
end PyV
set_option Elab.async false
set_option linter.all false
set_option maxRecDepth 100000
set_option maxHeartbeats 4000000
namespace PyV
open PySem
/-! ## sums over lists, ranges of ints -/
def Sg {α : Type} (l : List α) (f : α → Int) : Int := (l.map f).sum
@[simp] theorem Sg_nil {α : Type} (f : α → Int) : Sg [] f = 0 := rfl
@[simp] theorem Sg_cons {α : Type} (a : α) (l : List α) (f : α → Int) : Sg (a :: l) f = f a + Sg l f := rfl
theorem Sg_append {α : Type} (l m : List α) (f : α → Int) : Sg (l ++ m) f = Sg l f + Sg m f := by
  induction l with
  | nil => simp
  | cons a l ih => rw [List.cons_append, Sg_cons, Sg_cons, ih, Int.add_assoc]
theorem Sg_congr {α : Type} {l : List α} {f g : α → Int} (h : ∀ a ∈ l, f a = g a) : Sg l f = Sg l g := by
  induction l with
  | nil => rfl
  | cons a l ih => rw [Sg_cons, Sg_cons, h a List.mem_cons_self, ih fun b hb => h b (List.mem_cons_of_mem _ hb)]
theorem Sg_zero {α : Type} {l : List α} {f : α → Int} (h : ∀ a ∈ l, f a = 0) : Sg l f = 0 := by
  induction l with
  | nil => rfl
  | cons a l ih => rw [Sg_cons, h a List.mem_cons_self, ih fun b hb => h b (List.mem_cons_of_mem _ hb)]; rfl
theorem Sg_add {α : Type} (l : List α) (f g : α → Int) : Sg l (fun a => f a + g a) = Sg l f + Sg l g := by
  induction l with
  | nil => rfl
  | cons a l ih => rw [Sg_cons, Sg_cons, Sg_cons, ih]; omega
theorem Sg_sub {α : Type} (l : List α) (f g : α → Int) : Sg l (fun a => f a - g a) = Sg l f - Sg l g := by
  induction l with
  | nil => rfl
  | cons a l ih => rw [Sg_cons, Sg_cons, Sg_cons, ih]; omega
theorem Sg_mul {α : Type} (l : List α) (c : Int) (f : α → Int) : Sg l (fun a => c * f a) = c * Sg l f := by
  induction l with
  | nil => simp
  | cons a l ih => rw [Sg_cons, Sg_cons, ih, Int.mul_add]
theorem Sg_mulr {α : Type} (l : List α) (c : Int) (f : α → Int) : Sg l (fun a => f a * c) = Sg l f * c := by
  rw [Int.mul_comm, ← Sg_mul]
  exact Sg_congr fun a _ => Int.mul_comm _ _
theorem Sg_swap {α β : Type} (l : List α) (m : List β) (f : α → β → Int) : Sg l (fun a => Sg m (f a)) = Sg m (fun b => Sg l fun a => f a b) := by
  induction l with
  | nil => exact (Sg_zero fun _ _ => rfl).symm
  | cons a l ih =>
    rw [Sg_cons, ih, ← Sg_add]
    exact Sg_congr fun b _ => rfl
theorem Sg_prod {α β : Type} (l : List α) (m : List β) (f : α → Int) (g : β → Int) : Sg l (fun a => Sg m fun b => f a * g b) = Sg l f * Sg m g := by
  rw [← Sg_mulr]
  exact Sg_congr fun a _ => Sg_mul m (f a) g
theorem Sg_map {α β : Type} (l : List α) (h : α → β) (f : β → Int) : Sg (l.map h) f = Sg l fun a => f (h a) := by
  unfold Sg
  rw [List.map_map]
  rfl
theorem Sg_flat {α β : Type} (l : List α) (h : α → List β) (f : β → Int) : Sg (l.flatMap h) f = Sg l fun a => Sg (h a) f := by
  induction l with
  | nil => rfl
  | cons a l ih => rw [List.flatMap_cons, Sg_append, ih, Sg_cons]
theorem Sg_perm {α : Type} {l m : List α} (p : l.Perm m) (f : α → Int) : Sg l f = Sg m f := by
  induction p with
  | nil => rfl
  | cons a _ ih => rw [Sg_cons, Sg_cons, ih]
  | swap a b l => simp only [Sg_cons]; omega
  | trans _ _ h1 h2 => exact h1.trans h2
theorem Sg_one {α : Type} (l : List α) : Sg l (fun _ => 1) = l.length := by
  induction l with
  | nil => rfl
  | cons a l ih => rw [Sg_cons, ih, List.length_cons]; omega
theorem Sg_const {α : Type} (l : List α) (c : Int) : Sg l (fun _ => c) = l.length * c := by
  induction l with
  | nil => simp
  | cons a l ih => rw [Sg_cons, ih, List.length_cons, Int.natCast_add, Int.add_mul]; omega
theorem Sg_nonneg {α : Type} {l : List α} {f : α → Int} (h : ∀ a ∈ l, 0 ≤ f a) : 0 ≤ Sg l f := by
  induction l with
  | nil => exact Int.le_refl _
  | cons a l ih =>
    have h1 := h a List.mem_cons_self
    have h2 := ih fun b hb => h b (List.mem_cons_of_mem _ hb)
    rw [Sg_cons]; omega
theorem Sg_le {α : Type} {l : List α} {f g : α → Int} (h : ∀ a ∈ l, f a ≤ g a) : Sg l f ≤ Sg l g := by
  have := Sg_nonneg (l := l) (f := fun a => g a - f a) fun a ha => by have := h a ha; omega
  rw [Sg_sub] at this
  omega
theorem Sg_filter {α : Type} (l : List α) (p : α → Bool) (f : α → Int) : Sg (l.filter p) f = Sg l fun a => if p a = true then f a else 0 := by
  induction l with
  | nil => rfl
  | cons a l ih =>
    rw [List.filter_cons]
    cases h : p a <;> simp [h, ih]
/-- the number that a test holds of, as a sum -/
def b01 (b : Bool) : Int := if b = true then 1 else 0
@[simp] theorem b01_t : b01 true = 1 := rfl
@[simp] theorem b01_f : b01 false = 0 := rfl
theorem b01_and (a b : Bool) : b01 (a && b) = b01 a * b01 b := by cases a <;> cases b <;> rfl
theorem b01_nn (b : Bool) : 0 ≤ b01 b := by cases b <;> decide
theorem b01_le (b : Bool) : b01 b ≤ 1 := by cases b <;> decide
theorem Sg_count {α : Type} (l : List α) (p : α → Bool) : Sg l (fun a => b01 (p a)) = l.countP p := by
  induction l with
  | nil => rfl
  | cons a l ih =>
    rw [Sg_cons, ih, List.countP_cons]
    cases p a <;> simp [b01] <;> omega
/-- lo, lo + 1, .. : n of them -/
def rng (lo : Int) (n : Nat) : List Int := (List.range n).map fun (k : Nat) => lo + (k : Int)
@[simp] theorem rng_zero (lo : Int) : rng lo 0 = [] := rfl
theorem rng_len (lo : Int) (n : Nat) : (rng lo n).length = n := by simp [rng]
theorem rng_succ (lo : Int) (n : Nat) : rng lo (n + 1) = rng lo n ++ [lo + n] := by
  unfold rng
  rw [List.range_succ, List.map_append]
  rfl
theorem rng_cons (lo : Int) (n : Nat) : rng lo (n + 1) = lo :: rng (lo + 1) n := by
  unfold rng
  rw [List.range_succ_eq_map, List.map_cons, List.map_map]
  congr 1
  · simp
  · apply List.map_congr_left
    intro k _
    simp
    omega
theorem mem_rng {lo x : Int} {n : Nat} : x ∈ rng lo n ↔ lo ≤ x ∧ x < lo + n := by
  unfold rng
  rw [List.mem_map]
  constructor
  · rintro ⟨k, hk, rfl⟩
    rw [List.mem_range] at hk
    omega
  · rintro ⟨h1, h2⟩
    exact ⟨(x - lo).toNat, by rw [List.mem_range]; omega, by omega⟩
theorem rng_pairwise (lo : Int) (n : Nat) : (rng lo n).Pairwise (· < ·) := by
  induction n with
  | zero => exact List.Pairwise.nil
  | succ n ih =>
    rw [rng_succ, List.pairwise_append]
    refine ⟨ih, List.pairwise_singleton _ _, fun a ha b hb => ?_⟩
    have h1 := mem_rng.mp ha
    have h2 := List.mem_singleton.mp hb
    omega
theorem rng_nodup (lo : Int) (n : Nat) : (rng lo n).Nodup := (rng_pairwise lo n).imp fun h => by omega
theorem rng_append (lo : Int) (m n : Nat) : rng lo (m + n) = rng lo m ++ rng (lo + m) n := by
  induction n with
  | zero => simp
  | succ n ih => rw [← Nat.add_assoc, rng_succ, ih, rng_succ, List.append_assoc, Int.natCast_add]; congr 3; omega
theorem irange_rng (lo : Int) (n : Nat) : irange lo n 1 = (rng lo n).map D.int := by
  unfold rng
  simp only [irange, List.map_map]
  apply List.map_congr_left
  intro k _
  simp
/-- a sum over a range, parted -/
theorem Sg_rng_split {lo : Int} {n : Nat} (f : Int → Int) (m : Nat) (h : m ≤ n) : Sg (rng lo n) f = Sg (rng lo m) f + Sg (rng (lo + m) (n - m)) f := by
  rw [← Sg_append, ← rng_append]
  congr 2
  omega
/-! ### multiples -/
theorem div_succ {q : Int} (hq : 0 < q) (x : Int) : x / q - (x - 1) / q = b01 (decide (x % q = 0)) := by
  have h1 := Int.emod_add_mul_ediv x q
  have h2 := Int.emod_nonneg x (by omega : q ≠ 0)
  have h3 := Int.emod_lt_of_pos x hq
  by_cases h : x % q = 0
  · rw [h] at h1
    have e : (x - 1) / q = x / q - 1 := by
      have : x - 1 = (q - 1) + q * (x / q - 1) := by rw [Int.mul_sub]; omega
      rw [this, Int.add_mul_ediv_left _ _ (by omega), Int.ediv_eq_zero_of_lt (by omega) (by omega)]
      omega
    simp [h, e]
    omega
  · have e : (x - 1) / q = x / q := by
      have : x - 1 = (x % q - 1) + q * (x / q) := by omega
      rw [this, Int.add_mul_ediv_left _ _ (by omega), Int.ediv_eq_zero_of_lt (by omega) (by omega)]
      omega
    simp [h, e]
theorem cnt_mul {q : Int} (hq : 0 < q) (lo : Int) (n : Nat) : Sg (rng lo n) (fun x => b01 (decide (x % q = 0))) = (lo + n - 1) / q - (lo - 1) / q := by
  induction n with
  | zero =>
    have : lo + ((0 : Nat) : Int) - 1 = lo - 1 := by omega
    rw [this]
    simp
  | succ n ih =>
    rw [rng_succ, Sg_append, ih, Sg_cons, Sg_nil, ← div_succ hq]
    have e1 : lo + ((n + 1 : Nat) : Int) - 1 = lo + n := by omega
    rw [e1]
    omega
def mulsF (q lo hi : Int) : Int := if hi / q - (lo - 1) / q > 0 then hi / q - (lo - 1) / q else 0
/-- the multiples of q from lo to hi, counted over any range that holds them -/
theorem cnt_win {q : Int} (hq : 0 < q) {lo a b : Int} {n : Nat} (ha : lo ≤ a) (hb : b < lo + n) :
    Sg (rng lo n) (fun x => b01 (decide (x % q = 0) && decide (a ≤ x) && decide (x ≤ b))) = mulsF q a b := by
  unfold mulsF
  by_cases hab : b < a
  · rw [Sg_zero fun x _ => by
      have : ¬ (a ≤ x ∧ x ≤ b) := by omega
      by_cases h1 : a ≤ x
      · have h2 : ¬ x ≤ b := fun z => this ⟨h1, z⟩
        simp [h2]
      · simp [h1]]
    have : b / q ≤ (a - 1) / q := Int.ediv_le_ediv hq (by omega)
    rw [if_neg (by omega)]
  · have e1 := Sg_rng_split (lo := lo) (n := n) (fun x => b01 (decide (x % q = 0) && decide (a ≤ x) && decide (x ≤ b))) (a - lo).toNat (by omega)
    have e2 := Sg_rng_split (lo := lo + (a - lo).toNat) (n := n - (a - lo).toNat) (fun x => b01 (decide (x % q = 0) && decide (a ≤ x) && decide (x ≤ b))) (b - a + 1).toNat (by omega)
    have z1 : Sg (rng lo (a - lo).toNat) (fun x => b01 (decide (x % q = 0) && decide (a ≤ x) && decide (x ≤ b))) = 0 := Sg_zero fun x hx => by
      have := mem_rng.mp hx
      have h1 : ¬ a ≤ x := by omega
      simp [h1]
    have z2 : Sg (rng (lo + (a - lo).toNat + (b - a + 1).toNat) (n - (a - lo).toNat - (b - a + 1).toNat)) (fun x => b01 (decide (x % q = 0) && decide (a ≤ x) && decide (x ≤ b))) = 0 := Sg_zero fun x hx => by
      have := mem_rng.mp hx
      have h1 : ¬ x ≤ b := by omega
      simp [h1]
    have z3 : Sg (rng (lo + (a - lo).toNat) (b - a + 1).toNat) (fun x => b01 (decide (x % q = 0) && decide (a ≤ x) && decide (x ≤ b))) = Sg (rng (lo + (a - lo).toNat) (b - a + 1).toNat) (fun x => b01 (decide (x % q = 0))) := Sg_congr fun x hx => by
      have := mem_rng.mp hx
      have h1 : x ≤ b := by omega
      have h2 : a ≤ x := by omega
      simp [h1, h2]
    rw [e1, e2, z1, z2, z3, cnt_mul hq]
    have e3 : lo + ((a - lo).toNat : Int) = a := by omega
    have e4 : a + ((b - a + 1).toNat : Int) - 1 = b := by omega
    rw [e3, e4]
    have : (a - 1) / q ≤ b / q := Int.ediv_le_ediv hq (by omega)
    split <;> omega
end PyV
set_option Elab.async false
set_option linter.all false
set_option maxRecDepth 100000
set_option maxHeartbeats 4000000
namespace PyV
open PySem
/-! ## keys: which letter a key ends with, the cell ahead -/
def kF : List Nat → Int → Int → Int
  | [], _, _ => 0
  | c :: r, x, y => if c = 120 then x % 2 + 2 * kF r (x / 2) y else y % 2 + 2 * kF r x (y / 2)
def feetN : List Nat → Nat → Nat → List (Nat × Nat × Nat)
  | [], _, _ => []
  | c :: r, i, j => (c, i, j) :: (if c = 120 then feetN r (i + 1) j else feetN r i (j + 1))
theorem feetN_sx : ∀ (l : List Nat) (i j : Nat), feetN l (i + 1) j = (feetN l i j).map fun f => (f.1, f.2.1 + 1, f.2.2)
  | [], _, _ => rfl
  | c :: r, i, j => by
    rw [feetN, feetN]
    split
    · rw [List.map_cons, feetN_sx r (i + 1) j]
    · rw [List.map_cons, feetN_sx r i (j + 1)]
theorem feetN_sy : ∀ (l : List Nat) (i j : Nat), feetN l i (j + 1) = (feetN l i j).map fun f => (f.1, f.2.1, f.2.2 + 1)
  | [], _, _ => rfl
  | c :: r, i, j => by
    rw [feetN, feetN]
    split
    · rw [List.map_cons, feetN_sy r (i + 1) j]
    · rw [List.map_cons, feetN_sy r i (j + 1)]
theorem feetN_len : ∀ (l : List Nat) (i j : Nat), (feetN l i j).length = l.length
  | [], _, _ => rfl
  | c :: r, i, j => by
    rw [feetN]
    split <;> simp [feetN_len r]
theorem kF_nn : ∀ (l : List Nat) (x y : Int), 0 ≤ kF l x y
  | [], _, _ => Int.le_refl _
  | c :: r, x, y => by
    unfold kF
    have h1 := kF_nn r (x / 2) y
    have h2 := kF_nn r x (y / 2)
    split <;> omega
theorem kF_lt : ∀ (l : List Nat) (x y : Int), kF l x y < 2 ^ l.length
  | [], _, _ => by simp [kF]
  | c :: l, x, y => by
    have h1 := kF_lt l (x / 2) y
    have h2 := kF_lt l x (y / 2)
    rw [List.length_cons, Int.pow_succ, kF]
    split <;> omega
/-- letters x and y alone -/
def Wd (l : List Nat) : Prop := ∀ c ∈ l, c = 120 ∨ c = 121
/-- a cell of the grid -/
def Gd (l : List Nat) (x y : Int) : Prop := 0 ≤ x ∧ x < 2 ^ l.count 120 ∧ 0 ≤ y ∧ y < 2 ^ l.count 121
theorem Wd.tl {c : Nat} {l : List Nat} (h : Wd (c :: l)) : Wd l := fun z hz => h z (List.mem_cons_of_mem _ hz)
theorem Gd.x {l : List Nat} {x y : Int} (h : Gd (120 :: l) x y) : Gd l (x / 2) y := by
  obtain ⟨h1, h2, h3, h4⟩ := h
  rw [List.count_cons_self, Int.pow_succ] at h2
  rw [List.count_cons_of_ne (by decide)] at h4
  exact ⟨by omega, by omega, h3, h4⟩
theorem Gd.y {l : List Nat} {x y : Int} (h : Gd (121 :: l) x y) : Gd l x (y / 2) := by
  obtain ⟨h1, h2, h3, h4⟩ := h
  rw [List.count_cons_of_ne (by decide)] at h2
  rw [List.count_cons_self, Int.pow_succ] at h4
  exact ⟨h1, h2, by omega, by omega⟩
theorem Gd.ofx {l : List Nat} {u y : Int} (h : Gd l u y) (b : Int) (h0 : 0 ≤ b) (h1 : b ≤ 1) : Gd (120 :: l) (2 * u + b) y := by
  obtain ⟨h1, h2, h3, h4⟩ := h
  refine ⟨by omega, ?_, h3, ?_⟩
  · rw [List.count_cons_self, Int.pow_succ]; omega
  · rw [List.count_cons_of_ne (by decide)]; exact h4
theorem Gd.ofy {l : List Nat} {x v : Int} (h : Gd l x v) (b : Int) (h0 : 0 ≤ b) (h1 : b ≤ 1) : Gd (121 :: l) x (2 * v + b) := by
  obtain ⟨h1, h2, h3, h4⟩ := h
  refine ⟨h1, ?_, by omega, ?_⟩
  · rw [List.count_cons_of_ne (by decide)]; exact h2
  · rw [List.count_cons_self, Int.pow_succ]; omega
/-- unlike cells have unlike keys -/
theorem kF_inj : ∀ {l : List Nat} {x y u v : Int}, Wd l → Gd l x y → Gd l u v → kF l x y = kF l u v → x = u ∧ y = v
  | [], x, y, u, v, _, h, g, _ => by
    obtain ⟨h1, h2, h3, h4⟩ := h
    obtain ⟨g1, g2, g3, g4⟩ := g
    simp at h2 h4 g2 g4
    omega
  | c :: l, x, y, u, v, w, h, g, e => by
    rcases w c List.mem_cons_self with rfl | rfl
    · rw [kF, kF, if_pos rfl, if_pos rfl] at e
      have := kF_inj w.tl h.x g.x (by omega)
      omega
    · rw [kF, kF, if_neg (by decide), if_neg (by decide)] at e
      have := kF_inj w.tl h.y g.y (by omega)
      omega
/-- a key's last digit 1 is the letter's with this foot -/
def hit (f : Nat × Nat × Nat) (x y : Int) : Bool := decide (x % 2 ^ f.2.1 = 0) && decide (y % 2 ^ f.2.2 = 0) && (if f.1 = 120 then decide (x / 2 ^ f.2.1 % 2 = 1) else decide (y / 2 ^ f.2.2 % 2 = 1))
/-- the cell of the key ahead -/
def prd (f : Nat × Nat × Nat) (x y : Int) : Int × Int := if f.1 = 120 then (x - 1, y + 2 ^ f.2.2 - 1) else (x + 2 ^ f.2.1 - 1, y - 1)
theorem p2 (a : Nat) : (0 : Int) < 2 ^ a := Int.pow_pos (by decide)
theorem mod_even {x : Int} (a : Nat) (h : x % 2 = 0) : x % 2 ^ (a + 1) = 2 * (x / 2 % 2 ^ a) := by
  have e : x = 2 * (x / 2) := by omega
  have : (2 : Int) ^ (a + 1) = 2 * 2 ^ a := by rw [Int.pow_succ, Int.mul_comm]
  rw [this]
  conv => lhs; rw [e]
  rw [Int.mul_emod_mul_of_pos _ _ (by decide)]
theorem mod_odd {x : Int} (a : Nat) (h : x % 2 = 1) : x % 2 ^ (a + 1) ≠ 0 := by
  intro z
  have : (2 : Int) ∣ x := by
    have h1 : (2 : Int) ^ (a + 1) ∣ x := Int.dvd_of_emod_eq_zero z
    exact Int.dvd_trans ⟨2 ^ a, by rw [Int.pow_succ, Int.mul_comm]⟩ h1
  omega
theorem div_two (x : Int) (a : Nat) : x / 2 ^ (a + 1) = x / 2 / 2 ^ a := by
  rw [Int.ediv_ediv_of_nonneg (by decide), Int.pow_succ, Int.mul_comm]
theorem hit_sx (f : Nat × Nat × Nat) (x y : Int) : hit (f.1, f.2.1 + 1, f.2.2) x y = (decide (x % 2 = 0) && hit f (x / 2) y) := by
  unfold hit
  simp only
  by_cases h : x % 2 = 0
  · rw [mod_even _ h, div_two]
    have : (2 * (x / 2 % 2 ^ f.2.1) = 0) ↔ (x / 2 % 2 ^ f.2.1 = 0) := by omega
    simp [h, this]
  · have h1 := mod_odd (x := x) f.2.1 (by omega)
    simp [h, h1]
theorem hit_sy (f : Nat × Nat × Nat) (x y : Int) : hit (f.1, f.2.1, f.2.2 + 1) x y = (decide (y % 2 = 0) && hit f x (y / 2)) := by
  unfold hit
  simp only
  by_cases h : y % 2 = 0
  · rw [mod_even _ h, div_two]
    have : (2 * (y / 2 % 2 ^ f.2.2) = 0) ↔ (y / 2 % 2 ^ f.2.2 = 0) := by omega
    simp [h, this]
  · have h1 := mod_odd (x := y) f.2.2 (by omega)
    simp [h, h1]
theorem prd_sx (f : Nat × Nat × Nat) {x y : Int} (h : x % 2 = 0) : prd (f.1, f.2.1 + 1, f.2.2) x y = (2 * (prd f (x / 2) y).1 + 1, (prd f (x / 2) y).2) := by
  unfold prd
  simp only
  split
  · simp; omega
  · simp only [Int.pow_succ]
    congr 1
    omega
theorem prd_sy (f : Nat × Nat × Nat) {x y : Int} (h : y % 2 = 0) : prd (f.1, f.2.1, f.2.2 + 1) x y = ((prd f x (y / 2)).1, 2 * (prd f x (y / 2)).2 + 1) := by
  unfold prd
  simp only
  split
  · simp only [Int.pow_succ]
    congr 1
    omega
  · simp; omega
theorem hit_x0 (x y : Int) : hit (120, 0, 0) x y = decide (x % 2 = 1) := by
  unfold hit
  simp [Int.emod_one]
theorem hit_y0 (x y : Int) : hit (121, 0, 0) x y = decide (y % 2 = 1) := by
  unfold hit
  simp [Int.emod_one]
theorem prd_x0 (x y : Int) : prd (120, 0, 0) x y = (x - 1, y) := by
  unfold prd
  simp
theorem prd_y0 (x y : Int) : prd (121, 0, 0) x y = (x, y - 1) := by
  unfold prd
  simp
/-- the key of the cell ahead is less by one -/
theorem hit_key : ∀ {l : List Nat} {f : Nat × Nat × Nat} {x y : Int}, Wd l → Gd l x y → f ∈ feetN l 0 0 → hit f x y = true → kF l (prd f x y).1 (prd f x y).2 = kF l x y - 1 ∧ Gd l (prd f x y).1 (prd f x y).2
  | [], f, x, y, _, _, h, _ => by simp [feetN] at h
  | c :: l, f, x, y, w, g, h, t => by
    rcases w c List.mem_cons_self with rfl | rfl
    · rw [feetN, if_pos rfl, feetN_sx] at h
      rcases List.mem_cons.mp h with rfl | h
      · rw [hit_x0] at t
        have t := of_decide_eq_true t
        rw [prd_x0]
        refine ⟨?_, ?_⟩
        · simp only [kF, if_true]
          have e1 : (x - 1) / 2 = x / 2 := by omega
          rw [e1]
          omega
        · have := Gd.ofx g.x 0 (by decide) (by decide)
          rw [show 2 * (x / 2) + 0 = x - 1 by omega] at this
          exact this
      · obtain ⟨f', hf, rfl⟩ := List.mem_map.mp h
        rw [hit_sx] at t
        simp only [Bool.and_eq_true, decide_eq_true_eq] at t
        obtain ⟨t1, t2⟩ := t
        have ⟨q1, q2⟩ := hit_key w.tl g.x hf t2
        rw [prd_sx f' t1]
        generalize prd f' (x / 2) y = p at q1 q2
        refine ⟨?_, Gd.ofx q2 1 (by decide) (by decide)⟩
        simp only [kF, if_true]
        rw [show (2 * p.1 + 1) / 2 = p.1 by omega, q1]
        omega
    · rw [feetN, if_neg (by decide), feetN_sy] at h
      rcases List.mem_cons.mp h with rfl | h
      · rw [hit_y0] at t
        have t := of_decide_eq_true t
        rw [prd_y0]
        refine ⟨?_, ?_⟩
        · simp only [kF, show ¬ ((121 : Nat) = 120) by decide, if_false]
          have e1 : (y - 1) / 2 = y / 2 := by omega
          rw [e1]
          omega
        · have := Gd.ofy g.y 0 (by decide) (by decide)
          rw [show 2 * (y / 2) + 0 = y - 1 by omega] at this
          exact this
      · obtain ⟨f', hf, rfl⟩ := List.mem_map.mp h
        rw [hit_sy] at t
        simp only [Bool.and_eq_true, decide_eq_true_eq] at t
        obtain ⟨t1, t2⟩ := t
        have ⟨q1, q2⟩ := hit_key w.tl g.y hf t2
        rw [prd_sy f' t1]
        generalize prd f' x (y / 2) = p at q1 q2
        refine ⟨?_, Gd.ofy q2 1 (by decide) (by decide)⟩
        simp only [kF, show ¬ ((121 : Nat) = 120) by decide, if_false]
        rw [show (2 * p.2 + 1) / 2 = p.2 by omega, q1]
        omega
/-- just one letter is hit, but for the key 0 -/
theorem hit_sum : ∀ {l : List Nat} (x y : Int), Wd l → Sg (feetN l 0 0) (fun f => b01 (hit f x y)) = if kF l x y = 0 then 0 else 1
  | [], x, y, _ => by simp [feetN, kF]
  | c :: l, x, y, w => by
    rcases w c List.mem_cons_self with rfl | rfl
    · rw [feetN, if_pos rfl, feetN_sx, Sg_cons, Sg_map, hit_x0]
      have nn := kF_nn l (x / 2) y
      simp only [kF, if_true, hit_sx, b01_and]
      rw [Sg_mul, hit_sum (x / 2) y w.tl]
      by_cases h : x % 2 = 0
      · by_cases h2 : kF l (x / 2) y = 0
        · simp [h, h2]
        · have : ¬ 2 * kF l (x / 2) y = 0 := by omega
          simp [h, h2, this]
      · have h1 : x % 2 = 1 := by omega
        have : ¬ 1 + 2 * kF l (x / 2) y = 0 := by omega
        simp [h1, this]
    · rw [feetN, if_neg (by decide), feetN_sy, Sg_cons, Sg_map, hit_y0]
      have nn := kF_nn l x (y / 2)
      simp only [kF, show ¬ ((121 : Nat) = 120) by decide, if_false, hit_sy, b01_and]
      rw [Sg_mul, hit_sum x (y / 2) w.tl]
      by_cases h : y % 2 = 0
      · by_cases h2 : kF l x (y / 2) = 0
        · simp [h, h2]
        · have : ¬ 2 * kF l x (y / 2) = 0 := by omega
          simp [h, h2, this]
      · have h1 : y % 2 = 1 := by omega
        have : ¬ 1 + 2 * kF l x (y / 2) = 0 := by omega
        simp [h1, this]
/-- the letters that are hit with a cell ahead of a kind: one if there is such a cell -/
theorem hit_B {l : List Nat} {x y : Int} (w : Wd l) (g : Gd l x y) (B : Int → Int → Bool) (hB : ∀ u v, B u v = true → Gd l u v) (v : Bool) (hv : v = true ↔ ∃ a b, B a b = true ∧ kF l a b = kF l x y - 1) :
    Sg (feetN l 0 0) (fun f => b01 (hit f x y && B (prd f x y).1 (prd f x y).2)) = b01 v := by
  have e : Sg (feetN l 0 0) (fun f => b01 (hit f x y && B (prd f x y).1 (prd f x y).2)) = Sg (feetN l 0 0) (fun f => b01 (hit f x y) * b01 v) := Sg_congr fun f hf => by
    rw [← b01_and]
    cases t : hit f x y with
    | false => rfl
    | true =>
      obtain ⟨q1, q2⟩ := hit_key w g hf t
      congr 1
      rw [Bool.true_and, Bool.true_and, Bool.eq_iff_iff, hv]
      constructor
      · intro h
        exact ⟨_, _, h, q1⟩
      · rintro ⟨a, b, h1, h2⟩
        obtain ⟨e1, e2⟩ := kF_inj w (hB a b h1) q2 (h2.trans q1.symm)
        rw [← e1, ← e2]
        exact h1
  rw [e, Sg_mulr, hit_sum x y w]
  split
  · rename_i h0
    cases v with
    | false => rfl
    | true =>
      obtain ⟨a, b, _, h2⟩ := hv.mp rfl
      have := kF_nn l a b
      omega
  · rw [Int.one_mul]
end PyV
set_option Elab.async false
set_option linter.all false
set_option maxRecDepth 100000
set_option maxHeartbeats 4000000
namespace PyV
open PySem
/-! ## runs: what the letters save -/
structure Bx where
  x1 : Int
  y1 : Int
  x2 : Int
  y2 : Int
def Bx.ok (b : Bx) (l : List Nat) : Prop := 0 ≤ b.x1 ∧ b.x1 ≤ b.x2 ∧ b.x2 < 2 ^ l.count 120 ∧ 0 ≤ b.y1 ∧ b.y1 ≤ b.y2 ∧ b.y2 < 2 ^ l.count 121
def Bx.area (b : Bx) : Int := (b.x2 - b.x1 + 1) * (b.y2 - b.y1 + 1)
def Bx.has (b : Bx) (x y : Int) : Bool := decide (b.x1 ≤ x) && decide (x ≤ b.x2) && decide (b.y1 ≤ y) && decide (y ≤ b.y2)
def Bx.xs (b : Bx) : List Int := rng b.x1 (b.x2 - b.x1 + 1).toNat
def Bx.ys (b : Bx) : List Int := rng b.y1 (b.y2 - b.y1 + 1).toNat
/-- the keys, column by column -/
def keysF (l : List Nat) (b : Bx) : List Int := b.xs.flatMap fun x => b.ys.map fun y => kF l x y
theorem Bx.mem_xs {b : Bx} {x : Int} : x ∈ b.xs ↔ b.x1 ≤ x ∧ x ≤ b.x2 := by
  unfold Bx.xs
  rw [mem_rng]
  omega
theorem Bx.mem_ys {b : Bx} {y : Int} : y ∈ b.ys ↔ b.y1 ≤ y ∧ y ≤ b.y2 := by
  unfold Bx.ys
  rw [mem_rng]
  omega
theorem Bx.has_iff {b : Bx} {x y : Int} : b.has x y = true ↔ (b.x1 ≤ x ∧ x ≤ b.x2) ∧ b.y1 ≤ y ∧ y ≤ b.y2 := by
  unfold Bx.has
  simp only [Bool.and_eq_true, decide_eq_true_eq]
  omega
theorem Bx.gd {b : Bx} {l : List Nat} (h : b.ok l) {x y : Int} (t : b.has x y = true) : Gd l x y := by
  obtain ⟨h1, h2, h3, h4, h5, h6⟩ := h
  obtain ⟨⟨t1, t2⟩, t3, t4⟩ := Bx.has_iff.mp t
  exact ⟨by omega, by omega, by omega, by omega⟩
theorem mem_keysF {l : List Nat} {b : Bx} {k : Int} : k ∈ keysF l b ↔ ∃ x y, b.has x y = true ∧ kF l x y = k := by
  unfold keysF
  simp only [List.mem_flatMap, List.mem_map, Bx.has_iff, Bx.mem_xs, Bx.mem_ys]
  constructor
  · rintro ⟨x, hx, y, hy, e⟩
    exact ⟨x, y, ⟨hx, hy⟩, e⟩
  · rintro ⟨x, y, ⟨hx, hy⟩, e⟩
    exact ⟨x, hx, y, hy, e⟩
theorem Sg_keys (l : List Nat) (b : Bx) (f : Int → Int) : Sg (keysF l b) f = Sg b.xs fun x => Sg b.ys fun y => f (kF l x y) := by
  unfold keysF
  rw [Sg_flat]
  exact Sg_congr fun x _ => Sg_map ..
theorem keysF_len {l : List Nat} {b : Bx} (h : b.ok l) : ((keysF l b).length : Int) = b.area := by
  obtain ⟨h1, h2, h3, h4, h5, h6⟩ := h
  rw [← Sg_one, Sg_keys]
  simp only [Sg_const]
  unfold Bx.area Bx.xs Bx.ys
  rw [rng_len, rng_len, Int.mul_one]
  congr 1 <;> omega
/-- what a letter saves -/
def oddsF (i : Nat) (lo hi : Int) : Int := mulsF (2 ^ i) (lo + 1) hi - mulsF (2 ^ (i + 1)) (lo + 1) hi
def algnF (j : Nat) (lo hi : Int) : Int := mulsF (2 ^ j) lo (hi - 2 ^ j + 1)
def savF (b : Bx) (f : Nat × Nat × Nat) : Int := if f.1 = 120 then oddsF f.2.1 b.x1 b.x2 * algnF f.2.2 b.y1 b.y2 else oddsF f.2.2 b.y1 b.y2 * algnF f.2.1 b.x1 b.x2
theorem odd_iff (x : Int) (i : Nat) : b01 (decide (x % 2 ^ i = 0) && decide (x / 2 ^ i % 2 = 1)) = b01 (decide (x % 2 ^ i = 0)) - b01 (decide (x % 2 ^ (i + 1) = 0)) := by
  have hq := p2 i
  have e : (2 : Int) ^ (i + 1) = 2 ^ i * 2 := by rw [Int.pow_succ]
  have h1 := Int.emod_add_mul_ediv x (2 ^ i)
  rw [e]
  generalize (2 : Int) ^ i = q at *
  have hm : x % (q * 2) = x % q + q * (x / q % 2) := by
    have h2 := Int.emod_add_mul_ediv (x / q) 2
    have e2 : x = (x % q + q * (x / q % 2)) + q * 2 * (x / q / 2) := by
      rw [Int.mul_assoc, Int.add_assoc, ← Int.mul_add, h2]
      exact h1.symm
    have b1 := Int.emod_nonneg x (by omega : q ≠ 0)
    have b2 := Int.emod_lt_of_pos x hq
    have b3 : x / q % 2 = 0 ∨ x / q % 2 = 1 := by omega
    have e3 : (x % q + q * (x / q % 2) + q * 2 * (x / q / 2)) % (q * 2) = x % q + q * (x / q % 2) := by
      rw [Int.add_mul_emod_self_left, Int.emod_eq_of_lt]
      · rcases b3 with z | z <;> rw [z] <;> omega
      · rcases b3 with z | z <;> rw [z] <;> omega
    rw [← e2] at e3
    exact e3
  rw [hm]
  by_cases hx : x % q = 0
  · have b3 : x / q % 2 = 0 ∨ x / q % 2 = 1 := by omega
    rcases b3 with z | z
    · simp [hx, z]
    · have : ¬ q = 0 := by omega
      simp [hx, z, this]
  · have b1 := Int.emod_nonneg x (by omega : q ≠ 0)
    have : ¬ x % q + q * (x / q % 2) = 0 := by
      have b3 : x / q % 2 = 0 ∨ x / q % 2 = 1 := by omega
      rcases b3 with z | z <;> rw [z] <;> omega
    simp [hx, this]
theorem cnt_odd {i : Nat} {lo hi : Int} (h : lo ≤ hi) : Sg (rng lo (hi - lo + 1).toNat) (fun x => b01 (decide (x % 2 ^ i = 0) && decide (x / 2 ^ i % 2 = 1) && decide (lo + 1 ≤ x))) = oddsF i lo hi := by
  have e : ∀ x ∈ rng lo (hi - lo + 1).toNat, b01 (decide (x % 2 ^ i = 0) && decide (x / 2 ^ i % 2 = 1) && decide (lo + 1 ≤ x)) = b01 (decide (x % 2 ^ i = 0) && decide (lo + 1 ≤ x) && decide (x ≤ hi)) - b01 (decide (x % 2 ^ (i + 1) = 0) && decide (lo + 1 ≤ x) && decide (x ≤ hi)) := fun x hx => by
    have := mem_rng.mp hx
    have h1 : x ≤ hi := by omega
    have := odd_iff x i
    by_cases h2 : lo + 1 ≤ x
    · simp [h1, h2] at this ⊢
      exact this
    · simp [h2]
  rw [Sg_congr e, Sg_sub, cnt_win (p2 i) (by omega) (by omega), cnt_win (p2 (i + 1)) (by omega) (by omega)]
  rfl
theorem cnt_algn {j : Nat} {lo hi : Int} (h : lo ≤ hi) : Sg (rng lo (hi - lo + 1).toNat) (fun y => b01 (decide (y % 2 ^ j = 0) && decide (y + 2 ^ j - 1 ≤ hi))) = algnF j lo hi := by
  have hq := p2 j
  have e : ∀ y ∈ rng lo (hi - lo + 1).toNat, b01 (decide (y % 2 ^ j = 0) && decide (y + 2 ^ j - 1 ≤ hi)) = b01 (decide (y % 2 ^ j = 0) && decide (lo ≤ y) && decide (y ≤ hi - 2 ^ j + 1)) := fun y hy => by
    have := mem_rng.mp hy
    have h1 : lo ≤ y := by omega
    have h2 : (y + 2 ^ j - 1 ≤ hi) ↔ (y ≤ hi - 2 ^ j + 1) := by omega
    simp [h1, h2]
  rw [Sg_congr e, cnt_win hq (by omega) (by omega)]
  rfl
/-- what one letter saves in a box -/
theorem sav_cells {l : List Nat} {b : Bx} (hb : b.ok l) (f : Nat × Nat × Nat) : Sg b.xs (fun x => Sg b.ys fun y => b01 (hit f x y && b.has (prd f x y).1 (prd f x y).2)) = savF b f := by
  obtain ⟨h1, h2, h3, h4, h5, h6⟩ := hb
  have q1 := p2 f.2.1
  have q2 := p2 f.2.2
  unfold savF
  by_cases hc : f.1 = 120
  · rw [if_pos hc, ← cnt_odd h2, ← cnt_algn h5, ← Sg_prod]
    refine Sg_congr fun x hx => Sg_congr fun y hy => ?_
    have a1 := Bx.mem_xs.mp hx
    have a2 := Bx.mem_ys.mp hy
    rw [← b01_and]
    congr 1
    unfold hit prd
    rw [if_pos hc, if_pos hc]
    rw [Bool.eq_iff_iff]
    simp only [Bool.and_eq_true, decide_eq_true_eq, Bx.has_iff]
    omega
  · rw [if_neg hc, ← cnt_odd h5, ← cnt_algn h2, Int.mul_comm, ← Sg_prod]
    refine Sg_congr fun x hx => Sg_congr fun y hy => ?_
    have a1 := Bx.mem_xs.mp hx
    have a2 := Bx.mem_ys.mp hy
    rw [← b01_and]
    congr 1
    unfold hit prd
    rw [if_neg hc, if_neg hc]
    rw [Bool.eq_iff_iff]
    simp only [Bool.and_eq_true, decide_eq_true_eq, Bx.has_iff]
    omega
theorem sav_keys {l : List Nat} {b : Bx} (w : Wd l) (hb : b.ok l) : Sg (keysF l b) (fun k => b01 (decide (k - 1 ∈ keysF l b))) = Sg (feetN l 0 0) (savF b) := by
  have e : Sg (feetN l 0 0) (savF b) = Sg (feetN l 0 0) fun f => Sg b.xs fun x => Sg b.ys fun y => b01 (hit f x y && b.has (prd f x y).1 (prd f x y).2) := Sg_congr fun f _ => (sav_cells hb f).symm
  rw [e, Sg_keys, Sg_swap (feetN l 0 0) b.xs]
  refine Sg_congr fun x hx => ?_
  rw [Sg_swap (feetN l 0 0) b.ys]
  refine Sg_congr fun y hy => ?_
  have hh : b.has x y = true := Bx.has_iff.mpr ⟨Bx.mem_xs.mp hx, Bx.mem_ys.mp hy⟩
  symm
  refine hit_B w (Bx.gd hb hh) b.has (fun u v t => Bx.gd hb t) _ ?_
  rw [decide_eq_true_eq, mem_keysF]
theorem keysF_nodup {l : List Nat} {b : Bx} (w : Wd l) (hb : b.ok l) : (keysF l b).Nodup := by
  have key : ∀ (xs : List Int), xs.Nodup → (∀ x ∈ xs, b.x1 ≤ x ∧ x ≤ b.x2) → (xs.flatMap fun x => b.ys.map fun y => kF l x y).Nodup := by
    intro xs
    induction xs with
    | nil => intro _ _; exact List.nodup_nil
    | cons x xs ih =>
      intro hn hm
      rw [List.flatMap_cons, List.nodup_append]
      have hx := hm x List.mem_cons_self
      refine ⟨?_, ih (List.nodup_cons.mp hn).2 fun z hz => hm z (List.mem_cons_of_mem _ hz), ?_⟩
      · unfold List.Nodup
        rw [List.pairwise_map]
        have hy : b.ys.Nodup := rng_nodup _ _
        refine List.Pairwise.imp_of_mem ?_ hy
        intro y z h1 h2 hne e
        have t1 : b.has x y = true := Bx.has_iff.mpr ⟨hx, Bx.mem_ys.mp h1⟩
        have t2 : b.has x z = true := Bx.has_iff.mpr ⟨hx, Bx.mem_ys.mp h2⟩
        exact hne (kF_inj w (Bx.gd hb t1) (Bx.gd hb t2) e).2
      · intro k hk k' hk' e
        subst e
        obtain ⟨y, hy, rfl⟩ := List.mem_map.mp hk
        obtain ⟨u, hu, hk2⟩ := List.mem_flatMap.mp hk'
        obtain ⟨v, hv, e⟩ := List.mem_map.mp hk2
        have t1 : b.has x y = true := Bx.has_iff.mpr ⟨hx, Bx.mem_ys.mp hy⟩
        have t2 : b.has u v = true := Bx.has_iff.mpr ⟨hm u (List.mem_cons_of_mem _ hu), Bx.mem_ys.mp hv⟩
        have := (kF_inj w (Bx.gd hb t2) (Bx.gd hb t1) e).1
        subst this
        exact (List.nodup_cons.mp hn).1 hu
  exact key b.xs (rng_nodup _ _) fun x hx => Bx.mem_xs.mp hx
/-! ### stretches of an ascending list -/
def brk : Int → List Int → Nat
  | _, [] => 0
  | p, k :: ks => (if p = k - 1 then 0 else 1) + brk k ks
def nStr : List Int → Nat
  | [] => 0
  | k :: ks => 1 + brk k ks
theorem nStr_saved : ∀ {s : List Int}, s.Pairwise (· < ·) → (s.length : Int) = nStr s + Sg s (fun k => b01 (decide (k - 1 ∈ s)))
  | [], _ => rfl
  | [k], _ => by
    have : ¬ k - 1 = k := by omega
    simp [nStr, brk, this]
  | k :: k' :: ks, h => by
    obtain ⟨h1, h2⟩ := List.pairwise_cons.mp h
    have ih := nStr_saved h2
    have h3 := (List.pairwise_cons.mp h2).1
    have hk : k < k' := h1 k' List.mem_cons_self
    have z0 : ¬ k - 1 ∈ k :: k' :: ks := fun z => by
      rcases List.mem_cons.mp z with z | z
      · omega
      · have := h1 _ z; omega
    have zk : ¬ k' - 1 ∈ k' :: ks := fun z => by
      rcases List.mem_cons.mp z with z | z
      · omega
      · have := h3 _ z; omega
    have zr : ∀ z ∈ ks, decide (z - 1 ∈ k :: k' :: ks) = decide (z - 1 ∈ k' :: ks) := fun z hz => by
      have := h3 z hz
      have ne : ¬ z - 1 = k := by omega
      simp [ne]
    have e1 : Sg (k :: k' :: ks) (fun z => b01 (decide (z - 1 ∈ k :: k' :: ks))) = b01 (decide (k = k' - 1)) + Sg ks (fun z => b01 (decide (z - 1 ∈ k' :: ks))) := by
      rw [Sg_cons, Sg_cons]
      have : decide (k' - 1 ∈ k :: k' :: ks) = decide (k = k' - 1) := by
        rw [Bool.eq_iff_iff, decide_eq_true_eq, decide_eq_true_eq]
        constructor
        · intro z
          rcases List.mem_cons.mp z with z | z
          · exact z.symm
          · exact absurd z zk
        · intro z
          rw [z]
          exact List.mem_cons_self
      rw [this, Sg_congr (g := fun z => b01 (decide (z - 1 ∈ k' :: ks))) fun z hz => by rw [zr z hz]]
      simp only [z0, decide_false, b01_f]
      omega
    have e2 : Sg (k' :: ks) (fun z => b01 (decide (z - 1 ∈ k' :: ks))) = Sg ks (fun z => b01 (decide (z - 1 ∈ k' :: ks))) := by
      rw [Sg_cons]
      simp only [zk, decide_false, b01_f]
      omega
    rw [e1]
    rw [e2] at ih
    simp only [List.length_cons, nStr, brk] at ih ⊢
    by_cases hq : k = k' - 1
    · simp only [hq, if_true, decide_true, b01_t]
      omega
    · simp only [hq, if_false, decide_false, b01_f]
      omega
theorem sortI_lt {l : List Int} (h : l.Nodup) : (sortI l).Pairwise (· < ·) := by
  have h1 : (sortI l).Pairwise (fun a b => decide (a ≤ b) = true) := List.pairwise_mergeSort (fun a b c h1 h2 => by
    simp only [decide_eq_true_eq] at *
    omega) (fun a b => by
    simp only [Bool.or_eq_true, decide_eq_true_eq]
    omega) l
  have h2 : (sortI l).Nodup := (sortI_perm l).nodup_iff.mpr h
  exact (h1.and h2).imp fun ⟨a, b⟩ => by
    have := of_decide_eq_true a
    have hne : _ ≠ _ := b
    omega
/-- the runs of a box: its area less what the letters save -/
def runsF (l : List Nat) (b : Bx) : Int := b.area - Sg (feetN l 0 0) (savF b)
theorem runs_listed {l : List Nat} {b : Bx} (w : Wd l) (hb : b.ok l) : (nStr (sortI (keysF l b)) : Int) = runsF l b := by
  have h1 := nStr_saved (sortI_lt (keysF_nodup w hb))
  have p := sortI_perm (keysF l b)
  rw [p.length_eq, keysF_len hb, Sg_perm p, Sg_congr (g := fun k => b01 (decide (k - 1 ∈ keysF l b))) fun k _ => by
    congr 1
    rw [Bool.eq_iff_iff, decide_eq_true_eq, decide_eq_true_eq, p.mem_iff], sav_keys w hb] at h1
  unfold runsF
  omega
end PyV
set_option Elab.async false
set_option linter.all false
set_option maxRecDepth 100000
set_option maxHeartbeats 4000000
namespace PyV
open PySem
/-! ## corners, whole grids -/
theorem kF_mono : ∀ {l : List Nat} {x y u v : Int}, Wd l → Gd l x y → Gd l u v → x ≤ u → y ≤ v → kF l x y ≤ kF l u v
  | [], _, _, _, _, _, _, _, _, _ => Int.le_refl _
  | c :: l, x, y, u, v, w, g, h, h1, h2 => by
    rcases w c List.mem_cons_self with rfl | rfl
    · have ih := kF_mono w.tl g.x h.x (by omega) h2
      simp only [kF, if_true]
      by_cases e : kF l (x / 2) y = kF l (u / 2) v
      · have := (kF_inj w.tl g.x h.x e).1
        omega
      · omega
    · have ih := kF_mono w.tl g.y h.y h1 (by omega)
      simp only [kF, show ¬ ((121 : Nat) = 120) by decide, if_false]
      by_cases e : kF l x (y / 2) = kF l u (v / 2)
      · have := (kF_inj w.tl g.y h.y e).2
        omega
      · omega
theorem kF_zero : ∀ (l : List Nat), kF l 0 0 = 0
  | [] => rfl
  | c :: l => by
    have := kF_zero l
    unfold kF
    simp [this]
theorem kF_top : ∀ {l : List Nat}, Wd l → kF l (2 ^ l.count 120 - 1) (2 ^ l.count 121 - 1) = 2 ^ l.length - 1
  | [], _ => rfl
  | c :: l, w => by
    have ih := kF_top w.tl
    have p := p2 (l.count 120)
    have q := p2 (l.count 121)
    rcases w c List.mem_cons_self with rfl | rfl
    · rw [List.count_cons_self, List.count_cons_of_ne (by decide), List.length_cons, Int.pow_succ, Int.pow_succ, kF, if_pos rfl]
      have e1 : (2 ^ l.count 120 * 2 - 1 : Int) / 2 = 2 ^ l.count 120 - 1 := by omega
      rw [e1, ih]
      omega
    · rw [List.count_cons_self, List.count_cons_of_ne (by decide), List.length_cons, Int.pow_succ, Int.pow_succ, kF, if_neg (by decide)]
      have e1 : (2 ^ l.count 121 * 2 - 1 : Int) / 2 = 2 ^ l.count 121 - 1 := by omega
      rw [e1, ih]
      omega
theorem Bx.ok.has1 {b : Bx} {l : List Nat} (h : b.ok l) : b.has b.x1 b.y1 = true := by
  obtain ⟨h1, h2, h3, h4, h5, h6⟩ := h
  exact Bx.has_iff.mpr ⟨⟨Int.le_refl _, h2⟩, Int.le_refl _, h5⟩
theorem Bx.ok.has2 {b : Bx} {l : List Nat} (h : b.ok l) : b.has b.x2 b.y2 = true := by
  obtain ⟨h1, h2, h3, h4, h5, h6⟩ := h
  exact Bx.has_iff.mpr ⟨⟨h2, Int.le_refl _⟩, h5, Int.le_refl _⟩
theorem keys_lo {l : List Nat} {b : Bx} (w : Wd l) (hb : b.ok l) {k : Int} (h : k ∈ keysF l b) : kF l b.x1 b.y1 ≤ k := by
  obtain ⟨x, y, t, rfl⟩ := mem_keysF.mp h
  have := Bx.has_iff.mp t
  exact kF_mono w (Bx.gd hb hb.has1) (Bx.gd hb t) this.1.1 this.2.1
theorem keys_hi {l : List Nat} {b : Bx} (w : Wd l) (hb : b.ok l) {k : Int} (h : k ∈ keysF l b) : k ≤ kF l b.x2 b.y2 := by
  obtain ⟨x, y, t, rfl⟩ := mem_keysF.mp h
  have := Bx.has_iff.mp t
  exact kF_mono w (Bx.gd hb t) (Bx.gd hb hb.has2) this.1.2 this.2.2
/-- the first and the last one of the ascending keys -/
theorem sort_ends {l : List Nat} {b : Bx} (w : Wd l) (hb : b.ok l) : ∃ ks, sortI (keysF l b) = ks ∧ ks ≠ [] ∧ ks.head? = some (kF l b.x1 b.y1) ∧ ks.getLast? = some (kF l b.x2 b.y2) := by
  have p := sortI_perm (keysF l b)
  have s := sortI_lt (keysF_nodup w hb)
  have m1 : kF l b.x1 b.y1 ∈ sortI (keysF l b) := p.mem_iff.mpr (mem_keysF.mpr ⟨_, _, hb.has1, rfl⟩)
  have m2 : kF l b.x2 b.y2 ∈ sortI (keysF l b) := p.mem_iff.mpr (mem_keysF.mpr ⟨_, _, hb.has2, rfl⟩)
  have lo : ∀ k ∈ sortI (keysF l b), kF l b.x1 b.y1 ≤ k := fun k hk => keys_lo w hb (p.mem_iff.mp hk)
  have hi : ∀ k ∈ sortI (keysF l b), k ≤ kF l b.x2 b.y2 := fun k hk => keys_hi w hb (p.mem_iff.mp hk)
  generalize sortI (keysF l b) = ks at *
  refine ⟨ks, rfl, List.ne_nil_of_mem m1, ?_, ?_⟩
  · cases ks with
    | nil => simp at m1
    | cons a ks =>
      rcases List.mem_cons.mp m1 with z | z
      · rw [z]; rfl
      · have := (List.pairwise_cons.mp s).1 _ z
        have := lo a List.mem_cons_self
        omega
  · obtain ⟨u, v, e⟩ : ∃ u v, ks = u ++ [v] := ⟨ks.dropLast, ks.getLast (List.ne_nil_of_mem m1), (List.dropLast_concat_getLast _).symm⟩
    subst e
    rw [List.getLast?_append]
    simp only [List.getLast?_singleton, Option.some_or]
    rcases List.mem_append.mp m2 with z | z
    · have := (List.pairwise_append.mp s).2.2 _ z v (by simp)
      have := hi v (by simp)
      omega
    · simp at z
      rw [z]
theorem count_one {α : Type} [BEq α] [LawfulBEq α] {a : α} : ∀ {l : List α}, l.Nodup → a ∈ l → l.count a = 1
  | [], _, h => by simp at h
  | b :: l, n, h => by
    obtain ⟨n1, n2⟩ := List.nodup_cons.mp n
    by_cases e : b = a
    · subst e
      rw [List.count_cons_self, List.count_eq_zero_of_not_mem n1]
    · have := count_one n2 ((List.mem_cons.mp h).resolve_left fun z => e z.symm)
      rw [List.count_cons_of_ne e, this]
def whole (l : List Nat) : Bx := ⟨0, 0, 2 ^ l.count 120 - 1, 2 ^ l.count 121 - 1⟩
theorem whole_ok (l : List Nat) : (whole l).ok l := by
  have p := p2 (l.count 120)
  have q := p2 (l.count 121)
  unfold whole Bx.ok
  simp only
  omega
theorem whole_has {l : List Nat} {x y : Int} (h : Gd l x y) : (whole l).has x y = true := by
  obtain ⟨h1, h2, h3, h4⟩ := h
  refine Bx.has_iff.mpr ?_
  unfold whole
  simp only
  omega
/-- a whole grid is one run -/
theorem runs_whole {l : List Nat} (w : Wd l) : runsF l (whole l) = 1 := by
  have hb := whole_ok l
  unfold runsF
  rw [← sav_keys w hb, ← keysF_len hb, ← Sg_one, ← Sg_sub]
  have m0 : (0 : Int) ∈ keysF l (whole l) := mem_keysF.mpr ⟨0, 0, whole_has ⟨by decide, p2 _, by decide, p2 _⟩, kF_zero l⟩
  have e : Sg (keysF l (whole l)) (fun k => 1 - b01 (decide (k - 1 ∈ keysF l (whole l)))) = Sg (keysF l (whole l)) fun k => b01 (k == 0) := Sg_congr fun k hk => by
    obtain ⟨x, y, t, rfl⟩ := mem_keysF.mp hk
    have g := Bx.gd hb t
    have nn := kF_nn l x y
    by_cases z : kF l x y = 0
    · have : ¬ kF l x y - 1 ∈ keysF l (whole l) := fun q => by
        obtain ⟨u, v, _, e⟩ := mem_keysF.mp q
        have := kF_nn l u v
        omega
      rw [z] at this
      simp at this
      simp [z, this]
    · have hs := hit_sum x y w
      rw [if_neg z] at hs
      have hB := hit_B w g (whole l).has (fun u v t => Bx.gd hb t) (decide (kF l x y - 1 ∈ keysF l (whole l))) (by rw [decide_eq_true_eq, mem_keysF])
      have e2 : Sg (feetN l 0 0) (fun f => b01 (hit f x y && (whole l).has (prd f x y).1 (prd f x y).2)) = Sg (feetN l 0 0) fun f => b01 (hit f x y) := Sg_congr fun f hf => by
        cases h : hit f x y with
        | false => rfl
        | true =>
          rw [whole_has (hit_key w g hf h).2]
          rfl
      rw [e2, hs] at hB
      rw [← hB]
      have : (kF l x y == 0) = false := by simpa using z
      rw [this]
      rfl
  rw [e, Sg_count, ← List.count_eq_countP, count_one (keysF_nodup w hb) m0]
  rfl
end PyV
set_option Elab.async false
set_option linter.all false
set_option maxRecDepth 100000
set_option maxHeartbeats 4000000
namespace PyV
open PySem
def ow : Str := Str.ofString "own_word"
@[reducible] def lay (w : List Nat) : D := .obj 0 [ow] [.str w]
def b_Layout___eq : Df := ⟨2, 2, [.ret (.and (.isi (.var 1) (.cls 0)) (.cmp .eq (.att (.var 0) (Str.ofString "own_word")) (.att (.var 1) (Str.ofString "own_word"))))]⟩
@[simp] def G_Layout___eq : Fn
  | [.obj 0 [f] [.str w], .obj 0 [g] [.str v]] => if f = ow ∧ g = ow then .ok (.bl (decide (w = v))) false none else .bad
  | _ => .bad
theorem r_Layout___eq (T : Tab) : ∀ ds, G_Layout___eq ds ≠ .bad → ∃ n, runD T none n b_Layout___eq ds = G_Layout___eq ds := fun ds h => ⟨0, by
  unfold G_Layout___eq at h ⊢
  split at h
  · split at h
    · rename_i hp
      rw [if_pos hp]
      obtain ⟨rfl, rfl⟩ := hp
      simp [runD, evB, evS, evE, evEs, evXs, asgT_v, asgT_t, asgTs_n, asgTs_c, atD, placeD, b_Layout___eq, ow]
    · exact absurd rfl h
  · exact absurd rfl h⟩
end PyV
set_option Elab.async false
set_option linter.all false
set_option maxRecDepth 100000
set_option maxHeartbeats 4000000
namespace PyV
open PySem
def b_is_int : Df := ⟨1, 1, [.ret (.and (.isi (.var 0) .tint) (.not (.isi (.var 0) .tbool)))]⟩
def b_is_whole : Df := ⟨3, 3, [.ret (.and (.call 1 [.var 0]) (.ch2 (.var 1) .le (.var 0) .le (.var 2)))]⟩
def b_require_bits : Df := ⟨2, 2, [.ife (.or (.not (.call 2 [.var 0, .int 0, .glb 2])) (.not (.call 2 [.var 1, .bi .int [.cmp .eq (.var 0) (.int 0)], .glb 2]))) [.nev] []]⟩
def c_require_cell_1 : E := .call 1 [.var 3]
def b_require_cell : Df := ⟨3, 4, [.ife (.or (.not (.isi (.var 2) .ttuple)) (.or (.cmp .ne (.bi .len [.var 2]) (.int 2)) (.not (.bi .all [.lc c_require_cell_1 (.v 3) .plain [.var 2] .nop [3]])))) [.nev] [], .ife (.or (.not (.ch2 (.int 0) .le (.sub (.var 2) (.int 0)) .lt (.bin .shl (.int 1) (.var 0)))) (.not (.ch2 (.int 0) .le (.sub (.var 2) (.int 1)) .lt (.bin .shl (.int 1) (.var 1))))) [.nev] []]⟩
def l_choices_1 : List S := [.asg (.v 2) (.bin .fdiv (.bin .mul (.var 2) (.bin .sub (.var 0) (.var 3))) (.bin .add (.var 3) (.int 1)))]
def b_choices : Df := ⟨2, 4, [.asg (.v 2) (.int 1), .for_ (.v 3) .rng [.var 1] l_choices_1, .ret (.var 2)]⟩
def l_words_with_x_ahead_1 : List S := [.asg (.v 6) (.bin .sub (.bin .sub (.var 0) (.var 2)) (.int 1)), .aug 4 .add (.bin .mul (.call 209 [.bin .add (.var 2) (.var 5), .var 2]) (.call 209 [.bin .sub (.bin .add (.var 6) (.var 1)) (.var 5), .var 6]))]
def b_words_with_x_ahead : Df := ⟨4, 7, [.asg (.v 4) (.int 0), .for_ (.v 5) .rng [.bin .add (.var 3) (.int 1), .bin .add (.var 1) (.int 1)] l_words_with_x_ahead_1, .ret (.var 4)]⟩
def b_count_ahead : Df := ⟨4, 6, [.exp (.call 24 [.var 0, .var 1]), .exp (.call 3 [.var 0, .var 1, .var 2]), .exp (.call 3 [.var 0, .var 1, .var 3]), .asg (.v 4) (.call 209 [.bin .add (.var 0) (.var 1), .var 0]), .ife (.or (.cmp .eq (.var 2) (.var 3)) (.and (.cmp .le (.sub (.var 3) (.int 0)) (.sub (.var 2) (.int 0))) (.cmp .le (.sub (.var 3) (.int 1)) (.sub (.var 2) (.int 1))))) [.ret (.int 0)] [], .ife (.and (.cmp .le (.sub (.var 2) (.int 0)) (.sub (.var 3) (.int 0))) (.cmp .le (.sub (.var 2) (.int 1)) (.sub (.var 3) (.int 1)))) [.ret (.var 4)] [], .asg (.v 5) (.call 210 [.var 0, .var 1, .bin .sub (.bits (.bin .bxor (.sub (.var 2) (.int 0)) (.sub (.var 3) (.int 0)))) (.int 1), .bin .sub (.bits (.bin .bxor (.sub (.var 2) (.int 1)) (.sub (.var 3) (.int 1)))) (.int 1)]), .ret (.ite (.cmp .lt (.sub (.var 2) (.int 0)) (.sub (.var 3) (.int 0))) (.var 5) (.bin .sub (.var 4) (.var 5)))]⟩
def b_law_bag : Df := ⟨1, 1, [.ret (.lst [.bi .max [.int 0, .bin .sub (.var 0) (.bin .pow (.int 10) (.int 18))], .var 0, .int 0])]⟩
def b_law_pick : Df := ⟨2, 8, [.set 0 (.int 2) (.bin .add (.sub (.var 0) (.int 2)) (.int 1)), .ife (.cmp .gt (.sub (.var 0) (.int 0)) (.int 0)) [.asg (.v 5) (.bin .mod (.bi .int [.sub (.var 0) (.int 0)]) (.var 1)), .set 0 (.int 0) (.bin .fdiv (.bi .int [.sub (.var 0) (.int 0)]) (.var 1)), .ret (.var 5)] [], .par [6, 7] [.bi .int [.sub (.var 0) (.int 1)], .bi .int [.sub (.var 0) (.int 2)]], .asg (.v 2) (.bin .mod (.bi .int [.bin .add (.bin .add (.bin .mul (.bin .mod (.var 6) (.int 2147483629)) (.int 48271)) (.bin .mul (.var 7) (.int 69621))) (.int 12345)]) (.int 2147483647)), .asg (.v 3) (.bin .mod (.bi .int [.bin .add (.bin .mul (.var 2) (.var 2)) (.bin .mul (.var 7) (.int 40692))]) (.int 2147483587)), .asg (.v 4) (.bin .fdiv (.bi .int [.bin .add (.bin .mul (.var 2) (.int 2147483587)) (.var 3)]) (.int 32)), .ife (.cmp .gt (.var 1) (.bin .pow (.int 10) (.int 15))) [.asg (.v 4) (.bin .add (.bin .pow (.var 4) (.int 8)) (.var 3))] [], .ret (.bin .mod (.bi .int [.var 4]) (.var 1))]⟩
def l_law_key_1 : List S := [.ife (.cmp .eq (.var 3) (.str [120])) [.asg (.v 5) (.bin .sub (.var 5) (.int 1)), .asg (.v 4) (.bin .add (.bin .mul (.int 2) (.var 4)) (.bin .band (.bin .shr (.var 1) (.var 5)) (.int 1)))] [.asg (.v 6) (.bin .sub (.var 6) (.int 1)), .asg (.v 4) (.bin .add (.bin .mul (.int 2) (.var 4)) (.bin .band (.bin .shr (.var 2) (.var 6)) (.int 1)))]]
def b_law_key : Df := ⟨3, 7, [.par [4, 5, 6] [.int 0, .mth .count (.var 0) [.str [120]], .mth .count (.var 0) [.str [121]]], .for_ (.v 3) .plain [.var 0] l_law_key_1, .ret (.var 4)]⟩
def l_law_cell_1 : List S := [.ife (.cmp .eq (.var 7) (.str [120])) [.par [2, 4] [.bin .add (.var 2) (.bin .shl (.bin .band (.bin .shr (.var 1) (.var 6)) (.int 1)) (.var 4)), .bin .add (.var 4) (.int 1)]] [.par [3, 5] [.bin .add (.var 3) (.bin .shl (.bin .band (.bin .shr (.var 1) (.var 6)) (.int 1)) (.var 5)), .bin .add (.var 5) (.int 1)]]]
def b_law_cell : Df := ⟨2, 8, [.asg (.tup [.v 2, .v 3, .v 4, .v 5]) (.tup [.int 0, .int 0, .int 0, .int 0]), .for_ (.tup [.v 6, .v 7]) .enm [.rev (.var 0)] l_law_cell_1, .ret (.tup [.var 2, .var 3])]⟩
def c_law_words_1 : E := .bin .add (.var 5) (.str [120])
def c_law_words_2 : E := .cmp .lt (.mth .count (.var 5) [.str [120]]) (.var 0)
def c_law_words_3 : E := .bin .add (.var 5) (.str [121])
def c_law_words_4 : E := .cmp .lt (.mth .count (.var 5) [.str [121]]) (.var 1)
def l_law_words_1 : List S := [.asg (.v 4) (.lc c_law_words_1 (.v 5) .plain [.var 2] c_law_words_2 [5]), .asg (.v 2) (.bin .add (.var 4) (.lc c_law_words_3 (.v 5) .plain [.var 2] c_law_words_4 [5]))]
def b_law_words : Df := ⟨2, 6, [.asg (.v 2) (.lst [.str []]), .for_ (.v 3) .rng [.bin .add (.var 0) (.var 1)] l_law_words_1, .ret (.var 2)]⟩
def l_law_right_25_1 : List S := [.asg (.v 4) (.bin .add (.var 4) (.bi .int [.cmp .lt (.call 136 [.var 5, .sub (.var 2) (.int 0), .sub (.var 2) (.int 1)]) (.call 136 [.var 5, .sub (.var 3) (.int 0), .sub (.var 3) (.int 1)])]))]
def b_law_right_25 : Df := ⟨4, 6, [.asg (.v 4) (.int 0), .for_ (.v 5) .plain [.call 212 [.var 0, .var 1]] l_law_right_25_1, .ret (.cmp .eq (.bi .repr [.call 211 [.var 0, .var 1, .var 2, .var 3]]) (.bi .repr [.var 4]))]⟩
def b_law_some_cell : Df := ⟨3, 3, [.ret (.tup [.call 133 [.var 0, .bin .shl (.int 1) (.var 1)], .call 133 [.var 0, .bin .shl (.int 1) (.var 2)]])]⟩
def l_law_24_1 : List S := [.par [8, 9] [.call 133 [.var 4, .bin .add (.var 5) (.int 1)], .bin .add (.int 1) (.call 133 [.var 4, .var 5])], .par [10, 11] [.call 214 [.var 4, .var 8, .var 9], .call 214 [.var 4, .var 8, .var 9]], .ife (.or (.not (.call 213 [.var 8, .var 9, .var 10, .var 11])) (.not (.call 213 [.var 8, .var 9, .var 10, .var 10]))) [.ret (.bl false)] [], .ife (.not (.call 213 [.var 9, .var 8, .rev (.var 10), .rev (.var 11)])) [.ret (.bl false)] []]
def l_law_24_2 : List S := [.asg (.v 4) (.call 132 [.var 3]), .asg (.v 5) (.bin .add (.int 3) (.bi .int [.cmp .eq (.var 2) (.int 0)])), .for_ (.v 6) .rng [.int 8] l_law_24_1]
def c_law_24_1 : E := .call 211 [.int 2, .int 2, .tup [.int 1, .int 0], .var 7]
def b_law_24 : Df := ⟨1, 12, [.for_ (.tup [.v 2, .v 3]) .enm [.bin .add (.slc (.var 0) .nop (.int 6)) (.lst [.int 0])] l_law_24_2, .asg (.v 1) (.lc c_law_24_1 (.v 7) .plain [.tup [.tup [.int 0, .int 1], .tup [.int 0, .int 2], .tup [.int 3, .int 0]]] .nop [7]), .ret (.cmp .eq (.var 1) (.lst [.int 3, .int 5, .int 6]))]⟩
def b_require_key : Df := ⟨3, 3, [.ife (.not (.call 2 [.var 2, .int 0, .bin .sub (.bin .shl (.int 1) (.bin .add (.var 0) (.var 1))) (.int 1)])) [.nev] []]⟩
def l_feet_of_1 : List S := [.app 2 (.tup [.var 1, .var 3, .var 4]), .ife (.cmp .eq (.var 1) (.str [120])) [.aug 3 .add (.int 1)] [.aug 4 .add (.int 1)]]
def b_feet_of : Df := ⟨1, 5, [.par [2, 3, 4] [.lst [], .int 0, .int 0], .for_ (.v 1) .plain [.rev (.var 0)] l_feet_of_1, .ret (.var 2)]⟩
def l_key_of_1 : List S := [.asg (.v 5) (.ite (.cmp .eq (.var 6) (.str [120])) (.bin .band (.bin .shr (.var 1) (.var 7)) (.int 1)) (.bin .band (.bin .shr (.var 2) (.var 8)) (.int 1))), .aug 3 .bor (.bin .shl (.var 5) (.var 4))]
def b_key_of : Df := ⟨3, 9, [.asg (.v 3) (.int 0), .for_ (.tup [.v 4, .tup [.v 6, .v 7, .v 8]]) .enm [.call 5 [.var 0]] l_key_of_1, .ret (.var 3)]⟩
def l_cell_of_1 : List S := [.asg (.v 5) (.bin .band (.bin .shr (.var 1) (.var 4)) (.int 1)), .ife (.cmp .eq (.var 6) (.str [120])) [.aug 2 .bor (.bin .shl (.var 5) (.var 7))] [.aug 3 .bor (.bin .shl (.var 5) (.var 8))]]
def b_cell_of : Df := ⟨2, 9, [.asg (.tup [.v 2, .v 3]) (.tup [.int 0, .int 0]), .for_ (.tup [.v 4, .tup [.v 6, .v 7, .v 8]]) .enm [.call 5 [.var 0]] l_cell_of_1, .ret (.tup [.var 2, .var 3])]⟩
def c_Layout___init_1 : E := .cmp .inn (.var 2) (.tup [.str [120], .str [121]])
def b_Layout___init : Df := ⟨2, 3, [.ife (.or (.not (.isi (.var 1) .tstr)) (.or (.cmp .eq (.var 1) (.str [])) (.not (.bi .all [.lc c_Layout___init_1 (.v 2) .plain [.var 1] .nop [2]])))) [.nev] [], .ife (.or (.cmp .gt (.mth .count (.var 1) [.str [120]]) (.glb 2)) (.cmp .gt (.mth .count (.var 1) [.str [121]]) (.glb 2))) [.nev] [], .fld 0 (Str.ofString "own_word") (.var 1)]⟩
def b_Layout_word : Df := ⟨1, 1, [.ret (.att (.var 0) (Str.ofString "own_word"))]⟩
def b_Layout_x_bits : Df := ⟨1, 1, [.ret (.mth .count (.att (.var 0) (Str.ofString "own_word")) [.str [120]])]⟩
def b_Layout_y_bits : Df := ⟨1, 1, [.ret (.mth .count (.att (.var 0) (Str.ofString "own_word")) [.str [121]])]⟩
def b_Layout_key : Df := ⟨2, 2, [.exp (.call 3 [.prp 10 (.var 0), .prp 11 (.var 0), .var 1]), .ret (.call 6 [.att (.var 0) (Str.ofString "own_word"), .sub (.var 1) (.int 0), .sub (.var 1) (.int 1)])]⟩
def b_Layout_cell : Df := ⟨2, 2, [.exp (.call 4 [.prp 10 (.var 0), .prp 11 (.var 0), .var 1]), .ret (.call 7 [.att (.var 0) (Str.ofString "own_word"), .var 1])]⟩
def b_law_wound : Df := ⟨2, 3, [.asg (.v 2) (.int 0), .ife (.cmp .lt (.var 1) (.bi .len [.var 0])) [.asg (.v 2) (.sub (.var 0) (.var 1))] [], .ret (.lst [.bi .max [.int 0, .bin .sub (.var 2) (.bin .pow (.int 10) (.int 18))], .bin .add (.bin .add (.bin .mul (.bin .mod (.bi .int [.var 2]) (.bin .add (.bin .pow (.int 10) (.int 38)) (.int 133))) (.int 67)) (.bin .mul (.int 141650939) (.var 1))) (.int 23), .int 0])]⟩
def b_law_spin : Df := ⟨2, 4, [.ife (.cmp .gt (.sub (.var 0) (.int 0)) (.int 0)) [.asg (.v 3) (.bin .mod (.bi .int [.sub (.var 0) (.int 0)]) (.var 1)), .set 0 (.int 0) (.bin .fdiv (.sub (.var 0) (.int 0)) (.var 1)), .ret (.var 3)] [], .set 0 (.int 2) (.bin .add (.sub (.var 0) (.int 2)) (.int 1)), .asg (.v 2) (.bin .mod (.bi .int [.bin .pow (.bin .add (.sub (.var 0) (.int 1)) (.bin .mul (.int 86028121) (.sub (.var 0) (.int 2)))) (.int 3)]) (.bin .add (.bin .pow (.int 10) (.int 42)) (.int 63))), .asg (.v 2) (.bin .mod (.bi .int [.bin .pow (.bin .add (.var 2) (.bin .mul (.int 67867967) (.sub (.var 0) (.int 2)))) (.int 3)]) (.bin .add (.bin .pow (.int 10) (.int 44)) (.int 57))), .ret (.bin .mod (.bi .int [.bin .fdiv (.var 2) (.int 655331)]) (.var 1))]⟩
def c_law_drawn_word_1 : E := .cmp .ne (.var 4) (.lst [.int 0, .int 0])
def l_law_drawn_word_1 : List S := [.asg (.v 6) (.sub (.lst [.call 16 [.var 0, .int 2], .bin .mod (.bi .len [.var 5]) (.int 2), .call 16 [.var 0, .int 2]]) (.var 3)), .ife (.cmp .eq (.sub (.var 4) (.var 6)) (.int 0)) [.asg (.v 6) (.bin .sub (.int 1) (.var 6))] [], .asg (.v 7) (.sub (.lst [.int 1, .int 1, .bin .add (.int 1) (.call 16 [.var 0, .sub (.var 4) (.var 6)])]) (.var 3)), .asg (.v 5) (.bin .add (.var 5) (.bin .mul (.sub (.str [120, 121]) (.var 6)) (.var 7))), .set 4 (.var 6) (.bin .sub (.sub (.var 4) (.var 6)) (.var 7))]
def b_law_drawn_word : Df := ⟨3, 8, [.par [4, 5] [.lst [.call 16 [.var 0, .bin .add (.var 1) (.int 1)], .call 16 [.var 0, .bin .add (.var 2) (.int 1)]], .str []], .ife (.cmp .eq (.var 4) (.lst [.int 0, .int 0])) [.asg (.v 4) (.lst [.int 1, .int 0])] [], .asg (.v 3) (.call 16 [.var 0, .int 3]), .whl c_law_drawn_word_1 l_law_drawn_word_1, .ret (.var 5)]⟩
def l_law_power_1 : List S := [.asg (.v 1) (.bin .mul (.int 2) (.var 1))]
def b_law_power : Df := ⟨1, 3, [.asg (.v 1) (.int 1), .for_ (.v 2) .rng [.var 0] l_law_power_1, .ret (.var 1)]⟩
def l_law_key_of_1 : List S := [.ife (.cmp .eq (.var 3) (.str [120])) [.par [4, 1] [.bin .add (.var 4) (.bin .mul (.var 5) (.bin .mod (.bi .int [.var 1]) (.int 2))), .bin .fdiv (.var 1) (.int 2)]] [.par [4, 2] [.bin .add (.var 4) (.bin .mul (.var 5) (.bin .mod (.bi .int [.var 2]) (.int 2))), .bin .fdiv (.var 2) (.int 2)]], .asg (.v 5) (.bin .mul (.int 2) (.var 5))]
def b_law_key_of : Df := ⟨3, 6, [.asg (.tup [.v 4, .v 5]) (.tup [.int 0, .int 1]), .for_ (.v 3) .plain [.rev (.var 0)] l_law_key_of_1, .ret (.var 4)]⟩
def b_law_digit : Df := ⟨2, 2, [.ret (.bin .mod (.bi .int [.bin .fdiv (.var 0) (.call 18 [.var 1])]) (.int 2))]⟩
def c_law_right_1 : E := .tup [.call 16 [.var 0, .var 9], .call 16 [.var 0, .var 10]]
def l_law_right_1 : List S := [.asg (.v 4) (.call 19 [.var 2, .var 11, .var 12]), .ife (.or (.cmp .ne (.bi .repr [.umt 13 (.var 6) [.tup [.var 11, .var 12]]]) (.bi .repr [.var 4])) (.cmp .ne (.bi .repr [.umt 14 (.var 6) [.var 4]]) (.bi .repr [.tup [.var 11, .var 12]]))) [.ret (.bl false)] []]
def l_law_right_2 : List S := [.asg (.v 15) (.bi .int [.cmp .eq (.var 14) (.str [121])]), .ife (.cmp .ne (.call 20 [.sub (.lst [.var 11, .var 12]) (.var 15), .sub (.var 5) (.var 15)]) (.call 20 [.var 4, .var 13])) [.ret (.bl false)] [], .set 5 (.var 15) (.bin .add (.sub (.var 5) (.var 15)) (.int 1))]
def c_law_right_2 : E := .var 17
def c_law_right_3 : E := .cmp .eq (.var 6) (.var 17)
def b_law_right : Df := ⟨2, 18, [.asg (.v 2) (.call 17 [.var 0, .var 1, .sub (.lst [.var 1, .int 2]) (.call 16 [.var 0, .int 2])]), .parT [6, 7, 8] [.new 0 [.var 2], .mth .count (.var 2) [.str [120]], .mth .count (.var 2) [.str [121]]], .ife (.cmp .ne (.bi .repr [.lst [.prp 9 (.var 6), .prp 10 (.var 6), .prp 11 (.var 6)]]) (.bi .repr [.lst [.var 2, .var 7, .var 8]])) [.ret (.bl false)] [], .parT [9, 10] [.call 18 [.var 7], .call 18 [.var 8]], .asg (.v 3) (.lst [.tup [.int 0, .int 0], .tup [.bin .sub (.var 9) (.int 1), .bin .sub (.var 10) (.int 1)], .tup [.bin .sub (.var 9) (.int 1), .int 0], .tup [.int 0, .bin .sub (.var 10) (.int 1)]]), .asg (.v 3) (.bin .add (.var 3) (.lc c_law_right_1 (.v 16) .rng [.int 4] .nop [16])), .for_ (.tup [.v 11, .v 12]) .plain [.var 3] l_law_right_1, .asg (.v 4) (.call 16 [.var 0, .bin .mul (.var 9) (.var 10)]), .asg (.tup [.v 11, .v 12]) (.umt 14 (.var 6) [.var 4]), .asg (.v 5) (.lst [.int 0, .int 0]), .for_ (.tup [.v 13, .v 14]) .enm [.rev (.var 2)] l_law_right_2, .ife (.or (.not (.ch2 (.int 0) .le (.var 11) .lt (.var 9))) (.or (.not (.ch2 (.int 0) .le (.var 12) .lt (.var 10))) (.cmp .ne (.umt 13 (.var 6) [.tup [.var 11, .var 12]]) (.var 4)))) [.ret (.bl false)] [], .ife (.or (.not (.cmp .eq (.var 6) (.new 0 [.var 2]))) (.or (.cmp .ne (.var 6) (.new 0 [.var 2])) (.cmp .ne (.cmp .eq (.var 6) (.new 0 [.rev (.var 2)])) (.cmp .eq (.var 2) (.rev (.var 2)))))) [.ret (.bl false)] [], .ife (.and (.cmp .lt (.mth .count (.var 2) [.str [120]]) (.int 100)) (.cmp .eq (.var 6) (.new 0 [.bin .add (.var 2) (.str [120])]))) [.ret (.bl false)] [], .ret (.cmp .eq (.lc c_law_right_2 (.v 17) .plain [.tup [.non, .var 2, .int 0, .lst [.var 6], .tup [.var 2]]] c_law_right_3 [17]) (.lst []))]⟩
def b_law_all_right : Df := ⟨0, 0, []⟩ -- UNSUPPORTED call range
def l_law_1 : List S := [.ife (.not (.call 21 [.var 3, .var 4])) [.ret (.bl false)] []]
def l_law_2 : List S := [.asg (.v 3) (.call 15 [.var 0, .var 1]), .for_ (.v 4) .plain [.lst [.int 3, .int 10, .sub (.lst [.int 20, .int 100]) (.bi .int [.cmp .eq (.var 1) (.int 0)])]] l_law_1, .ife (.not (.call 22 [.var 3])) [.ret (.bl false)] []]
def b_law : Df := ⟨1, 5, [.for_ (.v 1) .rng [.bi .max [.int 1, .bi .min [.int 6, .bi .len [.var 0]]]] l_law_2, .asg (.v 2) (.new 0 [.str [121, 120, 121, 120]]), .ret (.cmp .eq (.lst [.umt 13 (.var 2) [.tup [.int 2, .int 1]], .umt 14 (.var 2) [.int 9], .umt 13 (.new 0 [.str [120]]) [.tup [.int 1, .int 0]], .umt 14 (.new 0 [.str [121, 121, 121]]) [.int 5]]) (.lst [.int 6, .tup [.int 1, .int 2], .int 1, .tup [.int 0, .int 5]]))]⟩
def b_rows : Df := ⟨2, 2, [.exp (.call 24 [.var 0, .var 1]), .ret (.new 0 [.bin .add (.bin .mul (.str [121]) (.var 1)) (.bin .mul (.str [120]) (.var 0))])]⟩
def b_columns : Df := ⟨2, 2, [.exp (.call 24 [.var 0, .var 1]), .ret (.new 0 [.bin .add (.bin .mul (.str [120]) (.var 0)) (.bin .mul (.str [121]) (.var 1))])]⟩
def b_laced : Df := ⟨2, 3, [.exp (.call 24 [.var 0, .var 1]), .asg (.v 2) (.bi .min [.var 0, .var 1]), .ret (.new 0 [.bin .add (.bin .add (.bin .mul (.str [120]) (.bin .sub (.var 0) (.var 2))) (.bin .mul (.str [121]) (.bin .sub (.var 1) (.var 2)))) (.bin .mul (.str [121, 120]) (.var 2))])]⟩
def b_tiled : Df := ⟨4, 4, [.exp (.call 24 [.var 0, .var 1]), .ife (.or (.not (.call 2 [.var 2, .int 0, .var 0])) (.not (.call 2 [.var 3, .int 0, .var 1]))) [.nev] [], .ret (.new 0 [.bin .add (.bin .add (.bin .add (.bin .mul (.str [121]) (.bin .sub (.var 1) (.var 3))) (.bin .mul (.str [120]) (.bin .sub (.var 0) (.var 2)))) (.bin .mul (.str [121]) (.var 3))) (.bin .mul (.str [120]) (.var 2))])]⟩
def l_law_right_2_1 : List S := [.asg (.v 3) (.bin .add (.var 3) (.str [121, 120]))]
def b_law_right_2 : Df := ⟨2, 23, [.par [8, 9] [.call 16 [.var 0, .bin .add (.var 1) (.int 1)], .call 16 [.var 0, .bin .add (.var 1) (.int 1)]], .ife (.cmp .eq (.bin .add (.var 8) (.var 9)) (.int 0)) [.asg (.v 8) (.int 1)] [], .par [10, 11] [.call 25 [.var 8, .var 9], .call 26 [.var 8, .var 9]], .ife (.cmp .ne (.bi .repr [.lst [.prp 9 (.var 10), .prp 9 (.var 11)]]) (.bi .repr [.lst [.bin .add (.bin .mul (.str [121]) (.var 9)) (.bin .mul (.str [120]) (.var 8)), .bin .add (.bin .mul (.str [120]) (.var 8)) (.bin .mul (.str [121]) (.var 9))]])) [.ret (.bl false)] [], .par [12, 13] [.call 18 [.var 8], .call 18 [.var 9]], .par [14, 15] [.call 16 [.var 0, .var 12], .call 16 [.var 0, .var 13]], .ife (.or (.cmp .ne (.umt 13 (.var 10) [.tup [.var 14, .var 15]]) (.bin .add (.bin .mul (.var 15) (.var 12)) (.var 14))) (.cmp .ne (.umt 13 (.var 11) [.tup [.var 14, .var 15]]) (.bin .add (.bin .mul (.var 14) (.var 13)) (.var 15)))) [.ret (.bl false)] [], .par [3, 16] [.str [], .lst [.var 8, .var 9]], .for_ (.v 2) .rng [.bi .min [.var 8, .var 9]] l_law_right_2_1, .asg (.v 3) (.bin .add (.bin .add (.bin .mul (.str [120]) (.bin .sub (.var 8) (.bi .min [.var 16]))) (.bin .mul (.str [121]) (.bin .sub (.var 9) (.bi .min [.var 16])))) (.var 3)), .ife (.or (.cmp .ne (.prp 9 (.call 27 [.var 8, .var 9])) (.var 3)) (.not (.isi (.call 27 [.var 8, .var 9]) (.cls 0)))) [.ret (.bl false)] [], .par [17, 18] [.call 16 [.var 0, .bin .add (.var 8) (.int 1)], .call 16 [.var 0, .bin .add (.var 9) (.int 1)]], .asg (.v 4) (.call 28 [.var 8, .var 9, .var 17, .var 18]), .asg (.v 5) (.lst [.bin .mul (.str [121]) (.bin .sub (.var 9) (.var 18)), .bin .mul (.str [120]) (.bin .sub (.var 8) (.var 17)), .bin .mul (.str [121]) (.var 18), .bin .mul (.str [120]) (.var 17)]), .ife (.cmp .ne (.prp 9 (.var 4)) (.mth .join (.str []) [.var 5])) [.ret (.bl false)] [], .par [19, 20] [.call 18 [.bin .add (.var 17) (.var 18)], .call 18 [.bin .sub (.var 8) (.var 17)]], .asg (.v 6) (.bin .add (.bin .mul (.bin .fdiv (.var 15) (.call 18 [.var 18])) (.var 20)) (.bin .fdiv (.var 14) (.call 18 [.var 17]))), .par [21, 22] [.bin .mod (.bi .int [.var 15]) (.call 18 [.var 18]), .bin .mod (.bi .int [.var 14]) (.call 18 [.var 17])], .asg (.v 7) (.bin .add (.bin .mul (.var 21) (.call 18 [.var 17])) (.var 22)), .ife (.or (.cmp .ne (.umt 13 (.var 4) [.tup [.var 14, .var 15]]) (.bin .add (.bin .mul (.var 6) (.var 19)) (.var 7))) (.cmp .ne (.umt 14 (.var 4) [.bin .add (.bin .mul (.var 6) (.var 19)) (.var 7)]) (.tup [.var 14, .var 15]))) [.ret (.bl false)] [], .ret (.and (.cmp .eq (.call 28 [.var 8, .var 9, .int 0, .int 0]) (.var 10)) (.cmp .eq (.call 28 [.var 8, .var 9, .var 8, .var 9]) (.var 10)))]⟩
def l_law_2_1 : List S := [.ife (.not (.call 29 [.var 3, .var 4])) [.ret (.bl false)] []]
def l_law_2_2 : List S := [.asg (.v 3) (.call 15 [.var 0, .var 1]), .for_ (.v 4) .plain [.lst [.int 1, .int 3, .int 10, .int 100]] l_law_2_1]
def b_law_2 : Df := ⟨1, 5, [.for_ (.v 1) .rng [.bi .max [.int 1, .bi .min [.int 6, .bi .len [.var 0]]]] l_law_2_2, .asg (.v 2) (.lst [.prp 9 (.call 25 [.int 2, .int 2]), .prp 9 (.call 26 [.int 1, .int 2]), .prp 9 (.call 27 [.int 2, .int 3]), .prp 9 (.call 27 [.int 3, .int 1]), .prp 9 (.call 28 [.int 3, .int 3, .int 1, .int 1])]), .ret (.and (.cmp .eq (.var 2) (.lst [.str [121, 121, 120, 120], .str [120, 121, 121], .str [121, 121, 120, 121, 120], .str [120, 120, 121, 120], .str [121, 121, 120, 120, 121, 120]])) (.cmp .eq (.prp 9 (.call 27 [.int 0, .int 2])) (.str [121, 121])))]⟩
def c_is_box_1 : E := .call 1 [.var 7]
def b_is_box : Df := ⟨3, 8, [.ife (.or (.not (.isi (.var 0) .ttuple)) (.or (.cmp .ne (.bi .len [.var 0]) (.int 4)) (.not (.bi .all [.lc c_is_box_1 (.v 7) .plain [.var 0] .nop [7]])))) [.ret (.bl false)] [], .asg (.tup [.v 3, .v 4, .v 5, .v 6]) (.var 0), .ret (.and (.ch3 (.int 0) .le (.var 3) .le (.var 5) .lt (.bin .shl (.int 1) (.var 1))) (.ch3 (.int 0) .le (.var 4) .le (.var 6) .lt (.bin .shl (.int 1) (.var 2))))]⟩
def b_require_layout : Df := ⟨1, 1, [.ife (.not (.isi (.var 0) (.cls 0))) [.nev] []]⟩
def b_require_box : Df := ⟨3, 3, [.ife (.not (.call 44 [.var 2, .var 0, .var 1])) [.nev] []]⟩
def b_area_of : Df := ⟨1, 1, [.ret (.bin .mul (.bin .add (.bin .sub (.sub (.var 0) (.int 2)) (.sub (.var 0) (.int 0))) (.int 1)) (.bin .add (.bin .sub (.sub (.var 0) (.int 3)) (.sub (.var 0) (.int 1))) (.int 1)))]⟩
def b_multiples : Df := ⟨3, 3, [.ret (.bi .max [.int 0, .bin .sub (.bin .shr (.var 2) (.var 0)) (.bin .shr (.bin .sub (.var 1) (.int 1)) (.var 0))])]⟩
def b_odd_multiples : Df := ⟨3, 3, [.ret (.bin .sub (.call 48 [.var 0, .var 1, .var 2]) (.call 48 [.bin .add (.var 0) (.int 1), .var 1, .var 2]))]⟩
def b_aligned : Df := ⟨3, 3, [.ret (.call 48 [.var 0, .var 1, .bin .add (.bin .sub (.var 2) (.bin .shl (.int 1) (.var 0))) (.int 1)])]⟩
def b_inner_odd : Df := ⟨3, 3, [.ret (.call 49 [.var 0, .bin .add (.var 1) (.int 1), .var 2])]⟩
def b_box_saves : Df := ⟨4, 4, [.ife (.cmp .eq (.var 1) (.str [120])) [.ret (.bin .mul (.call 51 [.var 2, .sub (.var 0) (.int 0), .sub (.var 0) (.int 2)]) (.call 50 [.var 3, .sub (.var 0) (.int 1), .sub (.var 0) (.int 3)]))] [], .ret (.bin .mul (.call 51 [.var 3, .sub (.var 0) (.int 1), .sub (.var 0) (.int 3)]) (.call 50 [.var 2, .sub (.var 0) (.int 0), .sub (.var 0) (.int 2)]))]⟩
def c_runs_in_1 : E := .call 52 [.var 1, .var 2, .var 3, .var 4]
def b_runs_in : Df := ⟨2, 5, [.ret (.bin .sub (.call 47 [.var 1]) (.bi .sum [.lc c_runs_in_1 (.tup [.v 2, .v 3, .v 4]) .plain [.call 5 [.var 0]] .nop [2, 3, 4]]))]⟩
def b_count_runs : Df := ⟨2, 2, [.exp (.call 45 [.var 0]), .exp (.call 46 [.prp 10 (.var 0), .prp 11 (.var 0), .var 1]), .ret (.call 53 [.prp 9 (.var 0), .var 1])]⟩
def b_ends : Df := ⟨2, 2, [.exp (.call 45 [.var 0]), .exp (.call 46 [.prp 10 (.var 0), .prp 11 (.var 0), .var 1]), .ret (.tup [.call 6 [.prp 9 (.var 0), .sub (.var 1) (.int 0), .sub (.var 1) (.int 1)], .call 6 [.prp 9 (.var 0), .sub (.var 1) (.int 2), .sub (.var 1) (.int 3)]])]⟩
def l_law_drawn_box_1 : List S := [.asg (.v 4) (.call 18 [.mth .count (.var 1) [.var 3]]), .asg (.v 5) (.sub (.lst [.call 16 [.var 0, .var 4], .int 0]) (.bi .int [.cmp .eq (.call 16 [.var 0, .int 4]) (.int 0)])), .asg (.v 6) (.bi .min [.bin .sub (.var 4) (.int 1), .bin .add (.var 5) (.call 16 [.var 0, .int 4])]), .app 2 (.tup [.var 5, .sub (.lst [.bin .add (.var 5) (.call 16 [.var 0, .bin .sub (.var 4) (.var 5)]), .bin .sub (.var 4) (.int 1), .var 5, .var 6]) (.call 16 [.var 0, .int 4])])]
def b_law_drawn_box : Df := ⟨2, 7, [.asg (.v 2) (.lst []), .for_ (.v 3) .plain [.str [120, 121]] l_law_drawn_box_1, .ret (.tup [.sub (.sub (.var 2) (.int 0)) (.int 0), .sub (.sub (.var 2) (.int 1)) (.int 0), .sub (.sub (.var 2) (.int 0)) (.int 1), .sub (.sub (.var 2) (.int 1)) (.int 1)])]⟩
def c_law_listed_keys_1 : E := .call 19 [.var 0, .var 3, .var 4]
def l_law_listed_keys_1 : List S := [.asg (.v 2) (.bin .add (.var 2) (.lc c_law_listed_keys_1 (.v 4) .rng [.sub (.var 1) (.int 1), .bin .add (.sub (.var 1) (.int 3)) (.int 1)] .nop [4]))]
def b_law_listed_keys : Df := ⟨2, 5, [.asg (.v 2) (.lst []), .for_ (.v 3) .rng [.sub (.var 1) (.int 0), .bin .add (.sub (.var 1) (.int 2)) (.int 1)] l_law_listed_keys_1, .ret (.bi .sorted [.var 2])]⟩
def l_law_stretches_1 : List S := [.ife (.and (.cmp .ne (.var 1) (.lst [])) (.cmp .eq (.sub (.sub (.var 1) (.neg (.int 1))) (.int 1)) (.bin .sub (.var 2) (.int 1)))) [.set 1 (.neg (.int 1)) (.tup [.sub (.sub (.var 1) (.neg (.int 1))) (.int 0), .var 2])] [.app 1 (.tup [.var 2, .var 2])]]
def b_law_stretches : Df := ⟨1, 3, [.asg (.v 1) (.lst []), .for_ (.v 2) .plain [.var 0] l_law_stretches_1, .ret (.var 1)]⟩
def l_law_right_3_1 : List S := [.asg (.v 6) (.call 56 [.var 0, .var 2]), .asg (.v 7) (.call 57 [.var 2, .var 6]), .ife (.cmp .ne (.bi .repr [.call 54 [.var 3, .var 6]]) (.bi .repr [.bi .len [.call 58 [.var 7]]])) [.ret (.bl false)] [], .ife (.cmp .ne (.bi .repr [.call 55 [.var 3, .var 6]]) (.bi .repr [.tup [.sub (.var 7) (.int 0), .sub (.var 7) (.neg (.int 1))]])) [.ret (.bl false)] []]
def b_law_right_3 : Df := ⟨2, 8, [.asg (.v 2) (.call 17 [.var 0, .var 1, .sub (.lst [.var 1, .int 3]) (.call 16 [.var 0, .int 2])]), .asg (.v 3) (.new 0 [.var 2]), .for_ (.v 4) .rng [.int 4] l_law_right_3_1, .asg (.v 5) (.tup [.int 0, .int 0, .bin .sub (.call 18 [.mth .count (.var 2) [.str [120]]]) (.int 1), .bin .sub (.call 18 [.mth .count (.var 2) [.str [121]]]) (.int 1)]), .ret (.and (.cmp .eq (.call 54 [.var 3, .var 5]) (.int 1)) (.cmp .eq (.call 55 [.var 3, .var 5]) (.tup [.int 0, .bin .sub (.call 18 [.bi .len [.var 2]]) (.int 1)])))]⟩
def l_law_4_1 : List S := [.ife (.not (.call 59 [.var 3, .var 4])) [.ret (.bl false)] []]
def l_law_4_2 : List S := [.asg (.v 3) (.call 15 [.var 0, .var 1]), .for_ (.v 4) .plain [.lst [.int 2, .int 3, .int 4]] l_law_4_1]
def b_law_4 : Df := ⟨1, 8, [.for_ (.v 1) .rng [.bi .max [.int 1, .bi .min [.int 6, .bi .len [.var 0]]]] l_law_4_2, .par [5, 6, 7] [.new 0 [.str [121, 120, 121, 120]], .tup [.int 0, .int 0, .int 2, .int 2], .tup [.int 1, .int 0, .int 2, .int 3]], .asg (.v 2) (.lst [.call 54 [.var 5, .var 6], .call 55 [.var 5, .var 6], .call 54 [.var 5, .var 7], .call 54 [.new 0 [.str [121, 121, 120, 120]], .var 7]]), .ret (.and (.cmp .eq (.var 2) (.lst [.int 4, .tup [.int 0, .int 12], .int 6, .int 4])) (.cmp .eq (.call 54 [.new 0 [.str [120, 120, 121, 121]], .var 7]) (.int 1)))]⟩
def c_saved_1 : E := .call 52 [.var 1, .var 2, .var 3, .var 4]
def b_saved : Df := ⟨2, 5, [.exp (.call 45 [.var 0]), .exp (.call 46 [.prp 10 (.var 0), .prp 11 (.var 0), .var 1]), .ret (.lc c_saved_1 (.tup [.v 2, .v 3, .v 4]) .plain [.rev (.call 5 [.prp 9 (.var 0)])] .nop [2, 3, 4])]⟩
def c_law_rank_1 : E := .cmp .eq (.bin .mod (.bi .int [.var 0]) (.int 2)) (.int 0)
def l_law_rank_1 : List S := [.par [0, 1] [.bin .fdiv (.var 0) (.int 2), .bin .add (.var 1) (.int 1)]]
def b_law_rank : Df := ⟨1, 2, [.asg (.v 1) (.int 0), .whl c_law_rank_1 l_law_rank_1, .ret (.var 1)]⟩
def l_law_right_4_1 : List S := [.ife (.cmp .eq (.var 9) (.bin .sub (.var 10) (.int 1))) [.asg (.v 11) (.bin .sub (.bin .sub (.bi .len [.var 2]) (.int 1)) (.call 62 [.var 10])), .set 8 (.var 11) (.bin .add (.sub (.var 8) (.var 11)) (.int 1))] []]
def l_law_right_4_2 : List S := [.asg (.v 5) (.call 56 [.var 0, .var 2]), .par [7, 8] [.call 57 [.var 2, .var 5], .bin .mul (.lst [.int 0]) (.bi .len [.var 2])], .for_ (.tup [.v 9, .v 10]) .zip [.var 7, .slc (.var 7) (.int 1) .nop] l_law_right_4_1, .asg (.v 6) (.call 61 [.var 3, .var 5]), .ife (.or (.cmp .ne (.bi .repr [.var 6]) (.bi .repr [.var 8])) (.cmp .ne (.bin .sub (.bi .len [.var 7]) (.bi .sum [.var 6])) (.call 54 [.var 3, .var 5]))) [.ret (.bl false)] [], .app 6 (.int 1), .ife (.cmp .ne (.call 61 [.var 3, .var 5]) (.var 8)) [.ret (.bl false)] []]
def b_law_right_4 : Df := ⟨2, 12, [.asg (.v 2) (.call 17 [.var 0, .var 1, .sub (.lst [.var 1, .int 3]) (.call 16 [.var 0, .int 2])]), .asg (.v 3) (.new 0 [.var 2]), .for_ (.v 4) .rng [.int 3] l_law_right_4_2, .ret (.bl true)]⟩
def l_law_5_1 : List S := [.ife (.not (.call 63 [.var 3, .var 4])) [.ret (.bl false)] []]
def l_law_5_2 : List S := [.asg (.v 3) (.call 15 [.var 0, .var 1]), .for_ (.v 4) .plain [.lst [.int 2, .int 3, .int 4]] l_law_5_1]
def b_law_5 : Df := ⟨1, 5, [.for_ (.v 1) .rng [.bi .max [.int 1, .bi .min [.int 6, .bi .len [.var 0]]]] l_law_5_2, .asg (.v 2) (.new 0 [.str [121, 120, 121, 120]]), .ret (.and (.cmp .eq (.call 61 [.var 2, .tup [.int 0, .int 0, .int 2, .int 2]]) (.lst [.int 0, .int 1, .int 1, .int 3])) (.cmp .eq (.call 61 [.var 2, .tup [.int 1, .int 0, .int 2, .int 3]]) (.lst [.int 0, .int 2, .int 0, .int 0])))]⟩
def b_law_multiples : Df := ⟨3, 4, [.ife (.cmp .lt (.var 2) (.var 1)) [.ret (.int 0)] [], .asg (.v 3) (.call 18 [.var 0]), .ret (.bin .sub (.bin .fdiv (.var 2) (.var 3)) (.bin .fdiv (.bin .sub (.var 1) (.int 1)) (.var 3)))]⟩
def l_law_saved_1 : List S := [.ife (.cmp .eq (.var 2) (.str [120])) [.asg (.v 6) (.bin .sub (.call 65 [.var 4, .bin .add (.sub (.var 1) (.int 0)) (.int 1), .sub (.var 1) (.int 2)]) (.call 65 [.bin .add (.var 4) (.int 1), .bin .add (.sub (.var 1) (.int 0)) (.int 1), .sub (.var 1) (.int 2)])), .par [3, 4] [.bin .add (.var 3) (.lst [.bin .mul (.var 6) (.call 65 [.var 5, .sub (.var 1) (.int 1), .bin .add (.bin .sub (.sub (.var 1) (.int 3)) (.call 18 [.var 5])) (.int 1)])]), .bin .add (.var 4) (.int 1)]] [.asg (.v 6) (.bin .sub (.call 65 [.var 5, .bin .add (.sub (.var 1) (.int 1)) (.int 1), .sub (.var 1) (.int 3)]) (.call 65 [.bin .add (.var 5) (.int 1), .bin .add (.sub (.var 1) (.int 1)) (.int 1), .sub (.var 1) (.int 3)])), .par [3, 5] [.bin .add (.var 3) (.lst [.bin .mul (.var 6) (.call 65 [.var 4, .sub (.var 1) (.int 0), .bin .add (.bin .sub (.sub (.var 1) (.int 2)) (.call 18 [.var 4])) (.int 1)])]), .bin .add (.var 5) (.int 1)]]]
def b_law_saved : Df := ⟨2, 7, [.par [3, 4, 5] [.lst [], .int 0, .int 0], .for_ (.v 2) .plain [.rev (.var 0)] l_law_saved_1, .ret (.rev (.var 3))]⟩
def l_law_near_box_1 : List S := [.asg (.v 4) (.mth .count (.var 1) [.var 3]), .par [7, 8] [.call 18 [.var 4], .call 18 [.call 16 [.var 0, .bin .add (.var 4) (.int 1)]]], .asg (.v 5) (.bi .min [.bin .sub (.var 7) (.int 1), .bin .mul (.var 8) (.call 16 [.var 0, .bi .max [.int 1, .bin .fdiv (.var 7) (.var 8)]])]), .asg (.v 6) (.bi .max [.int 0, .bin .sub (.var 5) (.call 16 [.var 0, .int 9])]), .app 2 (.tup [.var 6, .bi .min [.bin .sub (.var 7) (.int 1), .bin .add (.var 5) (.call 16 [.var 0, .int 9])]])]
def b_law_near_box : Df := ⟨2, 9, [.asg (.v 2) (.lst []), .for_ (.v 3) .plain [.str [120, 121]] l_law_near_box_1, .ret (.tup [.sub (.sub (.var 2) (.int 0)) (.int 0), .sub (.sub (.var 2) (.int 1)) (.int 0), .sub (.sub (.var 2) (.int 0)) (.int 1), .sub (.sub (.var 2) (.int 1)) (.int 1)])]⟩
def c_law_cut_right_1 : E := .call 54 [.var 1, .var 7]
def b_law_cut_right : Df := ⟨4, 8, [.ife (.cmp .eq (.sub (.var 2) (.int 2)) (.sub (.var 2) (.int 0))) [.ret (.bl true)] [], .asg (.v 4) (.bin .add (.sub (.var 2) (.int 0)) (.call 16 [.var 0, .bin .sub (.sub (.var 2) (.int 2)) (.sub (.var 2) (.int 0))])), .asg (.v 5) (.lst [.tup [.sub (.var 2) (.int 0), .sub (.var 2) (.int 1), .var 4, .sub (.var 2) (.int 3)], .tup [.bin .add (.var 4) (.int 1), .sub (.var 2) (.int 1), .sub (.var 2) (.int 2), .sub (.var 2) (.int 3)]]), .asg (.v 6) (.bi .sum [.lc c_law_cut_right_1 (.v 7) .plain [.var 5] .nop [7]]), .ret (.ch2 (.var 3) .le (.var 6) .le (.bin .add (.var 3) (.bin .mul (.int 2) (.bin .add (.bin .sub (.sub (.var 2) (.int 3)) (.sub (.var 2) (.int 1))) (.int 1)))))]⟩
def l_law_right_5_1 : List S := [.asg (.v 5) (.sub (.lst [.call 56 [.var 0, .var 2], .call 67 [.var 0, .var 2]]) (.call 16 [.var 0, .int 2])), .par [9, 10] [.call 54 [.var 3, .var 5], .call 66 [.var 2, .var 5]], .asg (.v 6) (.bin .mul (.bin .add (.bin .sub (.sub (.var 5) (.int 2)) (.sub (.var 5) (.int 0))) (.int 1)) (.bin .add (.bin .sub (.sub (.var 5) (.int 3)) (.sub (.var 5) (.int 1))) (.int 1))), .ife (.or (.cmp .ne (.var 9) (.bin .sub (.var 6) (.bi .sum [.var 10]))) (.cmp .ne (.bi .repr [.call 61 [.var 3, .var 5]]) (.bi .repr [.var 10]))) [.ret (.bl false)] [], .ife (.cmp .ne (.call 55 [.var 3, .var 5]) (.tup [.umt 13 (.var 3) [.tup [.sub (.var 5) (.int 0), .sub (.var 5) (.int 1)]], .umt 13 (.var 3) [.tup [.sub (.var 5) (.int 2), .sub (.var 5) (.int 3)]]])) [.ret (.bl false)] [], .ife (.or (.not (.ch2 (.int 1) .le (.var 9) .le (.var 6))) (.not (.call 68 [.var 0, .var 3, .var 5, .var 9]))) [.ret (.bl false)] [], .par [11, 12] [.mth .count (.var 2) [.str [120]], .mth .count (.var 2) [.str [121]]], .asg (.v 7) (.cmp .eq (.bin .add (.bin .sub (.sub (.var 5) (.int 2)) (.sub (.var 5) (.int 0))) (.int 1)) (.call 18 [.var 11])), .ife (.cmp .ne (.call 54 [.call 25 [.var 11, .var 12], .var 5]) (.ite (.var 7) (.int 1) (.bin .add (.bin .sub (.sub (.var 5) (.int 3)) (.sub (.var 5) (.int 1))) (.int 1)))) [.ret (.bl false)] [], .asg (.v 8) (.cmp .eq (.bin .add (.bin .sub (.sub (.var 5) (.int 3)) (.sub (.var 5) (.int 1))) (.int 1)) (.call 18 [.var 12])), .ife (.cmp .ne (.call 54 [.call 26 [.var 11, .var 12], .var 5]) (.ite (.var 8) (.int 1) (.bin .add (.bin .sub (.sub (.var 5) (.int 2)) (.sub (.var 5) (.int 0))) (.int 1)))) [.ret (.bl false)] []]
def b_law_right_5 : Df := ⟨2, 13, [.asg (.v 2) (.call 17 [.var 0, .var 1, .var 1]), .asg (.v 3) (.new 0 [.var 2]), .for_ (.v 4) .rng [.int 4] l_law_right_5_1, .ret (.bl true)]⟩
def l_law_6_1 : List S := [.ife (.not (.call 69 [.var 5, .var 6])) [.ret (.bl false)] []]
def l_law_6_2 : List S := [.asg (.v 5) (.call 15 [.var 0, .var 1]), .for_ (.v 6) .plain [.lst [.int 4, .int 30, .int 100]] l_law_6_1]
def b_law_6 : Df := ⟨1, 7, [.for_ (.v 1) .rng [.bi .max [.int 1, .bi .min [.int 6, .bi .len [.var 0]]]] l_law_6_2, .asg (.v 2) (.new 0 [.bin .mul (.str [121, 120]) (.int 100)]), .asg (.v 3) (.bin .mul (.bin .pow (.int 2) (.int 64)) (.bin .pow (.int 2) (.int 35))), .asg (.v 4) (.lst [.call 54 [.var 2, .tup [.int 0, .int 0, .bin .sub (.var 3) (.int 1), .bin .sub (.var 3) (.int 1)]], .call 54 [.var 2, .tup [.bin .sub (.var 3) (.int 1), .bin .sub (.var 3) (.int 1), .var 3, .var 3]]]), .ife (.cmp .ne (.call 61 [.call 25 [.int 8, .int 1], .tup [.int 1, .int 0, .int 2, .int 1]]) (.lst [.int 0, .int 0, .int 0, .int 0, .int 0, .int 0, .int 0, .int 2, .int 0])) [.ret (.bl false)] [], .ret (.and (.cmp .eq (.var 4) (.lst [.int 1, .int 4])) (.cmp .eq (.call 54 [.var 2, .tup [.int 0, .int 0, .bin .sub (.var 3) (.int 1), .int 0]]) (.bin .fdiv (.var 3) (.int 2))))]⟩
def b_require_cell_of : Df := ⟨4, 4, [.exp (.call 3 [.var 0, .var 1, .var 3]), .ife (.or (.not (.ch2 (.sub (.var 2) (.int 0)) .le (.sub (.var 3) (.int 0)) .le (.sub (.var 2) (.int 2)))) (.not (.ch2 (.sub (.var 2) (.int 1)) .le (.sub (.var 3) (.int 1)) .le (.sub (.var 2) (.int 3))))) [.nev] []]⟩
def c_forms_of_1 : E := .tup [.var 2, .var 3]
def b_forms_of : Df := ⟨1, 4, [.ret (.lstS 1 [.lc c_forms_of_1 (.tup [.v 1, .v 2, .v 3]) .plain [.call 5 [.var 0]] .nop [1, 2, 3], .tup [.mth .count (.var 0) [.str [120]], .mth .count (.var 0) [.str [121]]]])]⟩
def c_blocks_within_1 : E := .bin .mul (.call 50 [.var 2, .sub (.var 1) (.int 0), .sub (.var 1) (.int 2)]) (.call 50 [.var 3, .sub (.var 1) (.int 1), .sub (.var 1) (.int 3)])
def b_blocks_within : Df := ⟨2, 4, [.ret (.lc c_blocks_within_1 (.tup [.v 2, .v 3]) .plain [.call 125 [.var 0]] .nop [2, 3])]⟩
def b_blocks_in : Df := ⟨2, 3, [.asg (.v 2) (.call 126 [.var 0, .var 1]), .ret (.bin .sub (.sub (.var 2) (.int 0)) (.bi .sum [.slc (.var 2) (.int 1) .nop]))]⟩
def b_require_layout_and_box : Df := ⟨2, 2, [.exp (.call 45 [.var 0]), .exp (.call 46 [.prp 10 (.var 0), .prp 11 (.var 0), .var 1])]⟩
def b_count_blocks : Df := ⟨2, 2, [.exp (.call 128 [.var 0, .var 1]), .ret (.call 127 [.prp 9 (.var 0), .var 1])]⟩
def b_is_within : Df := ⟨5, 7, [.par [5, 6] [.bin .shl (.bin .shr (.var 1) (.var 3)) (.var 3), .bin .shl (.bin .shr (.var 2) (.var 4)) (.var 4)], .ife (.or (.cmp .lt (.var 5) (.sub (.var 0) (.int 0))) (.cmp .lt (.var 6) (.sub (.var 0) (.int 1)))) [.ret (.bl false)] [], .ret (.and (.cmp .le (.bin .sub (.bin .add (.var 5) (.bin .shl (.int 1) (.var 3))) (.int 1)) (.sub (.var 0) (.int 2))) (.cmp .le (.bin .sub (.bin .add (.var 6) (.bin .shl (.int 1) (.var 4))) (.int 1)) (.sub (.var 0) (.int 3))))]⟩
def l_block_of_1 : List S := [.ife (.call 130 [.var 1, .sub (.var 2) (.int 0), .sub (.var 2) (.int 1), .var 6, .var 7]) [.asg (.v 3) (.var 5)] []]
def b_block_of : Df := ⟨3, 8, [.exp (.call 128 [.var 0, .var 1]), .exp (.call 93 [.prp 10 (.var 0), .prp 11 (.var 0), .var 1, .var 2]), .asg (.v 3) (.int 0), .for_ (.tup [.v 5, .tup [.v 6, .v 7]]) .enm [.call 125 [.prp 9 (.var 0)]] l_block_of_1, .asg (.v 4) (.bin .shl (.bin .shr (.call 6 [.prp 9 (.var 0), .sub (.var 2) (.int 0), .sub (.var 2) (.int 1)]) (.var 3)) (.var 3)), .ret (.tup [.var 4, .bin .sub (.bin .add (.var 4) (.bin .shl (.int 1) (.var 3))) (.int 1)])]⟩
def c_law_word_1 : E := .cmp .gt (.bi .sum [.var 4]) (.int 0)
def l_law_word_1 : List S := [.ife (.cmp .eq (.var 3) (.int 0)) [.asg (.v 7) (.bi .int [.cmp .ge (.call 133 [.var 0, .bi .sum [.var 4]]) (.sub (.var 4) (.int 0))])] [.ife (.cmp .eq (.var 3) (.int 1)) [.asg (.v 7) (.bi .int [.cmp .ge (.sub (.var 4) (.int 1)) (.sub (.var 4) (.int 0))])] [.asg (.v 7) (.call 133 [.var 0, .int 2])]], .asg (.v 6) (.bi .min [.sub (.var 4) (.var 7), .bin .add (.int 1) (.bin .mul (.call 133 [.var 0, .int 60]) (.bi .int [.cmp .eq (.var 3) (.int 2)]))]), .asg (.v 5) (.bin .add (.var 5) (.bin .mul (.sub (.str [120, 121]) (.var 7)) (.var 6))), .set 4 (.var 7) (.bin .sub (.sub (.var 4) (.var 7)) (.var 6))]
def b_law_word : Df := ⟨3, 8, [.par [3, 4, 5] [.call 133 [.var 0, .int 3], .lst [.var 1, .var 2], .str []], .whl c_law_word_1 l_law_word_1, .ret (.var 5)]⟩
def b_law_bits : Df := ⟨2, 4, [.par [2, 3] [.call 133 [.var 0, .bin .add (.var 1) (.int 1)], .call 133 [.var 0, .bin .add (.var 1) (.int 1)]], .ret (.ite (.cmp .gt (.bin .add (.var 2) (.var 3)) (.int 0)) (.tup [.var 2, .var 3]) (.tup [.int 1, .var 1]))]⟩
def b_law_side : Df := ⟨2, 8, [.asg (.v 2) (.bin .sub (.bin .shl (.int 1) (.var 1)) (.int 1)), .par [3, 4] [.call 133 [.var 0, .bin .add (.var 2) (.int 1)], .call 133 [.var 0, .bin .add (.var 2) (.int 1)]], .par [5, 6] [.call 133 [.var 0, .int 5], .bin .shl (.int 1) (.call 133 [.var 0, .bin .add (.var 1) (.int 1)])], .ife (.cmp .eq (.var 5) (.int 0)) [.ret (.tup [.int 0, .var 2])] [], .ife (.cmp .eq (.var 5) (.int 1)) [.ret (.tup [.var 3, .bi .min [.var 2, .bin .add (.var 3) (.call 133 [.var 0, .int 4])]])] [], .ife (.cmp .eq (.var 5) (.int 2)) [.asg (.v 7) (.bin .mul (.bin .fdiv (.var 3) (.var 6)) (.var 6)), .ret (.tup [.var 7, .bi .min [.var 2, .bin .sub (.bin .add (.var 7) (.bin .mul (.var 6) (.bin .add (.int 1) (.call 133 [.var 0, .int 4])))) (.int 1)]])] [], .ret (.tup [.bi .min [.var 3, .var 4], .bi .max [.var 3, .var 4]])]⟩
def b_law_box : Df := ⟨3, 5, [.par [3, 4] [.call 138 [.var 0, .var 1], .call 138 [.var 0, .var 2]], .ret (.tup [.sub (.var 3) (.int 0), .sub (.var 4) (.int 0), .sub (.var 3) (.int 1), .sub (.var 4) (.int 1)])]⟩
def c_law_keys_1 : E := .call 136 [.var 0, .var 4, .var 3]
def l_law_keys_1 : List S := [.ext 2 (.lc c_law_keys_1 (.v 4) .rng [.sub (.var 1) (.int 0), .bin .add (.sub (.var 1) (.int 2)) (.int 1)] .nop [4])]
def b_law_keys : Df := ⟨2, 5, [.asg (.v 2) (.lst []), .for_ (.v 3) .rng [.sub (.var 1) (.int 1), .bin .add (.sub (.var 1) (.int 3)) (.int 1)] l_law_keys_1, .ret (.bi .sorted [.var 2])]⟩
def b_law_stretches_2 : Df := ⟨3, 5, [.asg (.v 3) (.slc (.var 0) (.var 1) (.bin .add (.var 1) (.bin .shl (.int 1) (.var 2)))), .ife (.cmp .nin (.bl false) (.var 3)) [.ret (.lst [.tup [.var 1, .var 2]])] [], .ife (.cmp .nin (.bl true) (.var 3)) [.ret (.lst [])] [], .asg (.v 4) (.bin .shl (.int 1) (.bin .sub (.var 2) (.int 1))), .ret (.bin .add (.call 141 [.var 0, .var 1, .bin .sub (.var 2) (.int 1)]) (.call 141 [.var 0, .bin .add (.var 1) (.var 4), .bin .sub (.var 2) (.int 1)]))]⟩
def l_law_right_14_1 : List S := [.set 1 (.var 2) (.bl true)]
def c_law_right_14_1 : E := .tup [.var 12, .bin .sub (.bin .add (.var 12) (.bin .shl (.int 1) (.var 13))) (.int 1)]
def c_law_right_14_2 : E := .ch2 (.var 12) .le (.var 2) .lt (.bin .add (.var 12) (.bin .shl (.int 1) (.var 13)))
def l_law_right_14_2 : List S := [.asg (.v 10) (.tup [.bin .add (.sub (.var 7) (.int 0)) (.call 133 [.var 0, .bin .add (.bin .sub (.sub (.var 7) (.int 2)) (.sub (.var 7) (.int 0))) (.int 1)]), .bin .add (.sub (.var 7) (.int 1)) (.call 133 [.var 0, .bin .add (.bin .sub (.sub (.var 7) (.int 3)) (.sub (.var 7) (.int 1))) (.int 1)])]), .asg (.v 2) (.call 136 [.var 6, .sub (.var 10) (.int 0), .sub (.var 10) (.int 1)]), .asg (.v 11) (.lc c_law_right_14_1 (.tup [.v 12, .v 13]) .plain [.var 8] c_law_right_14_2 [12, 13]), .ife (.cmp .ne (.bi .repr [.call 131 [.var 9, .var 7, .var 10]]) (.bi .repr [.sub (.var 11) (.int 0)])) [.ret (.bl false)] []]
def b_law_right_14 : Df := ⟨1, 14, [.asg (.tup [.v 4, .v 5]) (.call 135 [.var 0, .int 4]), .par [6, 7] [.call 134 [.var 0, .var 4, .var 5], .call 139 [.var 0, .var 4, .var 5]], .asg (.v 1) (.bin .mul (.lst [.bl false]) (.bin .shl (.int 1) (.bin .add (.var 4) (.var 5)))), .for_ (.v 2) .plain [.call 140 [.var 6, .var 7]] l_law_right_14_1, .par [8, 9] [.call 141 [.var 1, .int 0, .bin .add (.var 4) (.var 5)], .new 0 [.var 6]], .ife (.cmp .ne (.bi .repr [.call 129 [.var 9, .var 7]]) (.bi .repr [.bi .len [.var 8]])) [.ret (.bl false)] [], .for_ (.v 3) .rng [.int 6] l_law_right_14_2, .ret (.cmp .eq (.prp 9 (.var 9)) (.var 6))]⟩
def l_law_14_1 : List S := [.ife (.not (.call 142 [.var 3])) [.ret (.bl false)] []]
def l_law_14_2 : List S := [.asg (.v 3) (.call 132 [.var 1]), .for_ (.v 4) .rng [.int 4] l_law_14_1]
def b_law_14 : Df := ⟨1, 5, [.for_ (.v 1) .plain [.bin .add (.slc (.var 0) .nop (.int 6)) (.lst [.int 0])] l_law_14_2, .asg (.v 2) (.new 0 [.str [121, 120, 121, 120]]), .ret (.cmp .eq (.lst [.call 129 [.var 2, .tup [.int 0, .int 0, .int 2, .int 2]], .call 131 [.var 2, .tup [.int 0, .int 0, .int 2, .int 2], .tup [.int 1, .int 2]]]) (.lst [.int 5, .tup [.int 8, .int 9]]))]⟩
def b_pages_in : Df := ⟨2, 4, [.asg (.tup [.v 2, .v 3]) (.var 0), .ret (.bin .mul (.bin .add (.bin .sub (.bin .shr (.sub (.var 1) (.int 2)) (.var 2)) (.bin .shr (.sub (.var 1) (.int 0)) (.var 2))) (.int 1)) (.bin .add (.bin .sub (.bin .shr (.sub (.var 1) (.int 3)) (.var 3)) (.bin .shr (.sub (.var 1) (.int 1)) (.var 3))) (.int 1)))]⟩
def c_block_sizes_1 : E := .tup [.var 4, .bin .sub (.sub (.var 2) (.var 4)) (.bin .mul (.int 2) (.sub (.var 2) (.bin .add (.var 4) (.int 1))))]
def c_block_sizes_2 : E := .tup [.var 4, .var 5]
def c_block_sizes_3 : E := .cmp .gt (.var 5) (.int 0)
def b_block_sizes : Df := ⟨2, 6, [.exp (.call 128 [.var 0, .var 1]), .asg (.v 2) (.lstS 1 [.call 126 [.prp 9 (.var 0), .var 1], .int 0]), .asg (.v 3) (.lc c_block_sizes_1 (.v 4) .rng [.bin .sub (.bi .len [.var 2]) (.int 1)] .nop [4]), .ret (.lc c_block_sizes_2 (.tup [.v 4, .v 5]) .plain [.var 3] c_block_sizes_3 [4, 5])]⟩
def b_count_pages : Df := ⟨3, 3, [.exp (.call 128 [.var 0, .var 1]), .ife (.not (.call 2 [.var 2, .int 0, .bi .len [.prp 9 (.var 0)]])) [.nev] [], .ret (.call 144 [.sub (.call 125 [.prp 9 (.var 0)]) (.var 2), .var 1])]⟩
def l_law_sizes_1 : List S := [.ife (.and (.cmp .eq (.bin .mod (.bi .int [.var 6]) (.int 2)) (.int 0)) (.cmp .inn (.bin .add (.var 6) (.int 1)) (.var 4))) [.app 5 (.bin .fdiv (.var 6) (.int 2))] []]
def l_law_sizes_2 : List S := [.asg (.v 5) (.lst []), .for_ (.v 6) .plain [.var 4] l_law_sizes_1, .ife (.cmp .gt (.bi .len [.var 4]) (.bin .mul (.int 2) (.bi .len [.var 5]))) [.app 3 (.tup [.var 2, .bin .sub (.bi .len [.var 4]) (.bin .mul (.int 2) (.bi .len [.var 5]))])] [], .asg (.v 4) (.var 5)]
def b_law_sizes : Df := ⟨2, 7, [.par [3, 4] [.lst [], .bi .sorted [.bi .set [.var 0]]], .for_ (.v 2) .rng [.bin .add (.var 1) (.int 1)] l_law_sizes_2, .ret (.var 3)]⟩
def c_law_right_15_1 : E := .bin .shr (.var 10) (.var 2)
def l_law_right_15_1 : List S := [.ife (.cmp .ne (.bi .repr [.call 146 [.var 8, .var 6, .var 2]]) (.bi .repr [.bi .len [.bi .set [.lc c_law_right_15_1 (.v 10) .plain [.var 7] .nop [10]]]])) [.ret (.bl false)] []]
def b_law_right_15 : Df := ⟨1, 11, [.asg (.tup [.v 3, .v 4]) (.call 135 [.var 0, .int 4]), .par [5, 6] [.call 134 [.var 0, .var 3, .var 4], .call 139 [.var 0, .var 3, .var 4]], .par [7, 8, 9] [.call 140 [.var 5, .var 6], .new 0 [.var 5], .bin .add (.var 3) (.var 4)], .asg (.v 1) (.call 145 [.var 8, .var 6]), .ife (.cmp .ne (.bi .repr [.var 1]) (.bi .repr [.call 147 [.var 7, .var 9]])) [.ret (.bl false)] [], .app 1 (.tup [.int 0, .int 0]), .for_ (.v 2) .rng [.bin .add (.var 9) (.int 1)] l_law_right_15_1, .ret (.cmp .eq (.call 145 [.var 8, .var 6]) (.slc (.var 1) .nop (.neg (.int 1))))]⟩
def l_law_15_1 : List S := [.ife (.not (.call 148 [.var 2])) [.ret (.bl false)] []]
def l_law_15_2 : List S := [.asg (.v 2) (.call 132 [.var 1]), .for_ (.v 3) .rng [.int 3] l_law_15_1]
def c_law_15_1 : E := .call 146 [.var 4, .var 5, .var 6]
def b_law_15 : Df := ⟨1, 7, [.for_ (.v 1) .plain [.bin .add (.slc (.var 0) .nop (.int 6)) (.lst [.int 0])] l_law_15_2, .parT [4, 5] [.new 0 [.str [121, 120, 121, 120]], .tup [.int 0, .int 0, .int 2, .int 2]], .ife (.cmp .ne (.call 145 [.var 4, .var 5]) (.lst [.tup [.int 0, .int 3], .tup [.int 1, .int 1], .tup [.int 2, .int 1]])) [.ret (.bl false)] [], .ret (.cmp .eq (.lc c_law_15_1 (.v 6) .rng [.int 5] .nop [6]) (.lst [.int 9, .int 6, .int 4, .int 2, .int 1]))]⟩
def b_law_within : Df := ⟨2, 2, [.ret (.and (.ch2 (.sub (.var 0) (.int 0)) .le (.sub (.var 1) (.int 0)) .le (.sub (.var 0) (.int 2))) (.ch2 (.sub (.var 0) (.int 1)) .le (.sub (.var 1) (.int 1)) .le (.sub (.var 0) (.int 3))))]⟩
def c_law_block_right_1 : E := .var 11
def c_law_block_right_2 : E := .cmp .eq (.bin .shl (.int 1) (.var 11)) (.var 6)
def b_law_block_right : Df := ⟨5, 13, [.asg (.v 5) (.call 136 [.var 0, .sub (.var 3) (.int 0), .sub (.var 3) (.int 1)]), .asg (.tup [.v 9, .v 10]) (.call 131 [.var 1, .var 2, .var 3]), .asg (.v 6) (.bin .add (.bin .sub (.var 10) (.var 9)) (.int 1)), .asg (.v 7) (.lc c_law_block_right_1 (.tup [.v 11, .v 12]) .plain [.var 4] c_law_block_right_2 [11, 12]), .ife (.or (.cmp .ne (.bi .len [.var 7]) (.int 1)) (.or (.not (.ch2 (.var 9) .le (.var 5) .le (.var 10))) (.cmp .ne (.var 9) (.bin .mul (.bin .fdiv (.var 5) (.var 6)) (.var 6))))) [.ret (.bl false)] [], .ife (.or (.not (.call 150 [.var 2, .call 137 [.var 0, .var 9]])) (.not (.call 150 [.var 2, .call 137 [.var 0, .var 10]]))) [.ret (.bl false)] [], .ife (.cmp .eq (.var 6) (.bin .shl (.int 1) (.bi .len [.var 0]))) [.ret (.bl true)] [], .asg (.v 8) (.bin .mul (.bin .mul (.bin .fdiv (.var 5) (.bin .mul (.int 2) (.var 6))) (.int 2)) (.var 6)), .ret (.or (.not (.call 150 [.var 2, .call 137 [.var 0, .var 8]])) (.not (.call 150 [.var 2, .call 137 [.var 0, .bin .sub (.bin .add (.var 8) (.bin .mul (.int 2) (.var 6))) (.int 1)]])))]⟩
def l_law_due_1 : List S := [.asg (.v 7) (.bi .max [.int 0, .bin .sub (.bin .shr (.bin .add (.sub (.var 1) (.int 2)) (.int 1)) (.var 5)) (.bin .shr (.bin .sub (.bin .add (.sub (.var 1) (.int 0)) (.bin .shl (.int 1) (.var 5))) (.int 1)) (.var 5))]), .app 4 (.bin .mul (.var 7) (.bi .max [.int 0, .bin .sub (.bin .shr (.bin .add (.sub (.var 1) (.int 3)) (.int 1)) (.var 6)) (.bin .shr (.bin .sub (.bin .add (.sub (.var 1) (.int 1)) (.bin .shl (.int 1) (.var 6))) (.int 1)) (.var 6))])), .ife (.cmp .eq (.var 2) (.str [120])) [.asg (.v 5) (.bin .add (.var 5) (.int 1))] [.asg (.v 6) (.bin .add (.var 6) (.int 1))]]
def l_law_due_2 : List S := [.asg (.v 10) (.ite (.cmp .lt (.bin .add (.var 8) (.int 1)) (.bi .len [.var 4])) (.bin .sub (.var 9) (.bin .mul (.int 2) (.sub (.var 4) (.bin .add (.var 8) (.int 1))))) (.var 9)), .ife (.cmp .gt (.var 10) (.int 0)) [.app 3 (.tup [.var 8, .var 10])] []]
def b_law_due : Df := ⟨2, 11, [.par [4, 5, 6] [.lst [], .int 0, .int 0], .for_ (.v 2) .plain [.bin .add (.rev (.var 0)) (.str [45])] l_law_due_1, .asg (.v 3) (.lst []), .for_ (.tup [.v 8, .v 9]) .enm [.var 4] l_law_due_2, .ret (.var 3)]⟩
def c_law_pages_right_1 : E := .var 12
def c_law_pages_right_2 : E := .cmp .eq (.var 11) (.var 5)
def b_law_pages_right : Df := ⟨5, 13, [.asg (.v 5) (.call 133 [.var 0, .bin .add (.bi .len [.var 1]) (.int 1)]), .asg (.v 6) (.slc (.var 1) (.bin .sub (.bi .len [.var 1]) (.var 5)) .nop), .par [9, 10] [.mth .count (.var 6) [.str [120]], .mth .count (.var 6) [.str [121]]], .asg (.v 7) (.bin .add (.bin .sub (.bin .fdiv (.sub (.var 3) (.int 2)) (.bin .shl (.int 1) (.var 9))) (.bin .fdiv (.sub (.var 3) (.int 0)) (.bin .shl (.int 1) (.var 9)))) (.int 1)), .asg (.v 8) (.bin .mul (.var 7) (.bin .add (.bin .sub (.bin .fdiv (.sub (.var 3) (.int 3)) (.bin .shl (.int 1) (.var 10))) (.bin .fdiv (.sub (.var 3) (.int 1)) (.bin .shl (.int 1) (.var 10)))) (.int 1))), .ife (.cmp .ne (.bi .repr [.call 146 [.var 2, .var 3, .var 5]]) (.bi .repr [.var 8])) [.ret (.bl false)] [], .ife (.cmp .lt (.var 8) (.bi .sum [.lc c_law_pages_right_1 (.tup [.v 11, .v 12]) .plain [.var 4] c_law_pages_right_2 [11, 12]])) [.ret (.bl false)] [], .ret (.or (.cmp .eq (.var 5) (.int 0)) (.ch2 (.var 8) .le (.call 146 [.var 2, .var 3, .bin .sub (.var 5) (.int 1)]) .le (.bin .mul (.int 2) (.var 8))))]⟩
def c_law_right_16_1 : E := .bin .shl (.var 16) (.var 15)
def c_law_right_16_2 : E := .var 16
def c_law_right_16_3 : E := .var 16
def l_law_right_16_1 : List S := [.asg (.v 13) (.tup [.bin .add (.sub (.var 10) (.int 0)) (.call 133 [.var 0, .bin .add (.bin .sub (.sub (.var 10) (.int 2)) (.sub (.var 10) (.int 0))) (.int 1)]), .bin .add (.sub (.var 10) (.int 1)) (.call 133 [.var 0, .bin .add (.bin .sub (.sub (.var 10) (.int 3)) (.sub (.var 10) (.int 1))) (.int 1)])]), .ife (.or (.not (.call 151 [.var 9, .var 2, .var 10, .var 13, .var 11])) (.not (.call 153 [.var 0, .var 9, .var 2, .var 10, .var 11]))) [.ret (.bl false)] []]
def c_law_right_16_4 : E := .call 129 [.var 2, .var 14]
def b_law_right_16 : Df := ⟨2, 17, [.asg (.tup [.v 7, .v 8]) (.call 135 [.var 0, .var 1]), .par [9, 10] [.call 134 [.var 0, .var 7, .var 8], .call 139 [.var 0, .var 7, .var 8]], .asg (.v 2) (.new 0 [.var 9]), .par [11, 12] [.call 145 [.var 2, .var 10], .bin .mul (.bin .add (.bin .sub (.sub (.var 10) (.int 2)) (.sub (.var 10) (.int 0))) (.int 1)) (.bin .add (.bin .sub (.sub (.var 10) (.int 3)) (.sub (.var 10) (.int 1))) (.int 1))], .ife (.cmp .ne (.bi .repr [.var 11]) (.bi .repr [.call 152 [.var 9, .var 10]])) [.ret (.bl false)] [], .asg (.v 3) (.call 145 [.var 2, .var 10]), .app 3 (.tup [.int 0, .int 0]), .ife (.cmp .ne (.call 145 [.var 2, .var 10]) (.var 11)) [.ret (.bl false)] [], .ife (.or (.cmp .ne (.bi .sum [.lc c_law_right_16_1 (.tup [.v 15, .v 16]) .plain [.var 11] .nop [15, 16]]) (.var 12)) (.cmp .lt (.bi .min [.lc c_law_right_16_2 (.tup [.v 15, .v 16]) .plain [.var 11] .nop [15, 16]]) (.int 1))) [.ret (.bl false)] [], .ife (.or (.cmp .ne (.bi .sum [.lc c_law_right_16_3 (.tup [.v 15, .v 16]) .plain [.var 11] .nop [15, 16]]) (.call 129 [.var 2, .var 10])) (.cmp .ne (.var 11) (.bi .sorted [.var 11]))) [.ret (.bl false)] [], .for_ (.v 4) .rng [.int 4] l_law_right_16_1, .ife (.cmp .eq (.sub (.var 10) (.int 0)) (.sub (.var 10) (.int 2))) [.ret (.bl true)] [], .asg (.v 5) (.bin .add (.sub (.var 10) (.int 0)) (.call 133 [.var 0, .bin .sub (.sub (.var 10) (.int 2)) (.sub (.var 10) (.int 0))])), .asg (.v 6) (.lst [.tup [.sub (.var 10) (.int 0), .sub (.var 10) (.int 1), .var 5, .sub (.var 10) (.int 3)], .tup [.bin .add (.var 5) (.int 1), .sub (.var 10) (.int 1), .sub (.var 10) (.int 2), .sub (.var 10) (.int 3)]]), .ret (.cmp .ge (.bi .sum [.lc c_law_right_16_4 (.v 14) .plain [.var 6] .nop [14]]) (.call 129 [.var 2, .var 10]))]⟩
def l_law_16_1 : List S := [.ife (.not (.call 154 [.var 3, .var 4])) [.ret (.bl false)] []]
def l_law_16_2 : List S := [.asg (.v 3) (.call 132 [.var 1]), .for_ (.v 4) .plain [.tup [.int 6, .int 30, .int 100]] l_law_16_1]
def b_law_16 : Df := ⟨1, 5, [.for_ (.v 1) .plain [.bin .add (.slc (.var 0) .nop (.int 6)) (.lst [.int 0])] l_law_16_2, .asg (.v 2) (.new 0 [.bin .add (.bin .mul (.str [120]) (.int 100)) (.bin .mul (.str [121]) (.int 100))]), .ret (.cmp .eq (.call 145 [.var 2, .tup [.int 0, .int 0, .bin .sub (.bin .shl (.int 1) (.int 100)) (.int 1), .bin .sub (.bin .shl (.int 1) (.int 100)) (.int 1)]]) (.lst [.tup [.int 200, .int 1]]))]⟩
def b_common : Df := ⟨4, 4, [.ret (.bi .max [.int 0, .bin .add (.bin .sub (.bi .min [.var 1, .var 3]) (.bi .max [.var 0, .var 2])) (.int 1)])]⟩
def b_cells_in : Df := ⟨5, 6, [.asg (.v 5) (.call 164 [.sub (.var 0) (.int 0), .sub (.var 0) (.int 2), .var 1, .bin .sub (.bin .add (.var 1) (.bin .shl (.int 1) (.var 3))) (.int 1)]), .ret (.bin .mul (.var 5) (.call 164 [.sub (.var 0) (.int 1), .sub (.var 0) (.int 3), .var 2, .bin .sub (.bin .add (.var 2) (.bin .shl (.int 1) (.var 4))) (.int 1)]))]⟩
def l_rank_in_1 : List S := [.asg (.tup [.v 8, .v 9, .v 10]) (.sub (.var 7) (.var 3)), .ife (.cmp .eq (.bin .band (.bin .shr (.var 2) (.var 3)) (.int 1)) (.int 1)) [.aug 4 .add (.call 165 [.var 1, .var 5, .var 6, .var 9, .var 10]), .ife (.cmp .eq (.var 8) (.str [120])) [.aug 5 .add (.bin .shl (.int 1) (.var 9))] [.aug 6 .add (.bin .shl (.int 1) (.var 10))]] []]
def b_rank_in : Df := ⟨3, 11, [.parT [4, 5, 6, 7] [.int 0, .int 0, .int 0, .call 5 [.var 0]], .for_ (.v 3) .rng [.bin .sub (.bi .len [.var 7]) (.int 1), .neg (.int 1), .neg (.int 1)] l_rank_in_1, .ret (.var 4)]⟩
def l_cell_in_1 : List S := [.asg (.tup [.v 9, .v 10, .v 11]) (.sub (.var 7) (.var 3)), .asg (.v 8) (.call 165 [.var 1, .var 5, .var 6, .var 10, .var 11]), .ife (.cmp .ge (.var 4) (.var 8)) [.aug 4 .sub (.var 8), .ife (.cmp .eq (.var 9) (.str [120])) [.aug 5 .add (.bin .shl (.int 1) (.var 10))] [.aug 6 .add (.bin .shl (.int 1) (.var 11))]] []]
def b_cell_in : Df := ⟨3, 12, [.parT [4, 5, 6, 7] [.var 2, .int 0, .int 0, .call 5 [.var 0]], .for_ (.v 3) .rng [.bin .sub (.bi .len [.var 7]) (.int 1), .neg (.int 1), .neg (.int 1)] l_cell_in_1, .ret (.tup [.var 5, .var 6])]⟩
def b_require_place_in : Df := ⟨3, 3, [.exp (.call 128 [.var 0, .var 1]), .exp (.call 4 [.prp 10 (.var 0), .prp 11 (.var 0), .var 2])]⟩
def b_rank : Df := ⟨3, 3, [.exp (.call 168 [.var 0, .var 1, .var 2]), .ret (.call 166 [.prp 9 (.var 0), .var 1, .var 2])]⟩
def b_cell_at : Df := ⟨3, 3, [.exp (.call 128 [.var 0, .var 1]), .ife (.not (.call 2 [.var 2, .int 0, .bin .sub (.call 47 [.var 1]) (.int 1)])) [.nev] [], .ret (.call 167 [.prp 9 (.var 0), .var 1, .var 2])]⟩
def l_law_right_18_1 : List S := [.app 9 (.var 10), .asg (.v 10) (.bin .add (.var 10) (.bi .int [.and (.cmp .lt (.var 10) (.bi .len [.var 7])) (.cmp .eq (.sub (.var 7) (.var 10)) (.var 1))]))]
def c_law_right_18_1 : E := .call 169 [.var 8, .var 6, .var 1]
def c_law_right_18_2 : E := .call 170 [.var 8, .var 6, .var 11]
def c_law_right_18_3 : E := .call 137 [.var 5, .var 1]
def b_law_right_18 : Df := ⟨1, 12, [.asg (.tup [.v 3, .v 4]) (.call 135 [.var 0, .int 4]), .parT [5, 6] [.call 134 [.var 0, .var 3, .var 4], .call 139 [.var 0, .var 3, .var 4]], .parT [7, 8, 9, 10] [.call 140 [.var 5, .var 6], .new 0 [.var 5], .lst [], .int 0], .for_ (.v 1) .rng [.bin .shl (.int 1) (.bin .add (.var 3) (.var 4))] l_law_right_18_1, .ife (.cmp .ne (.bi .repr [.lc c_law_right_18_1 (.v 1) .rng [.bin .shl (.int 1) (.bin .add (.var 3) (.var 4))] .nop [1]]) (.bi .repr [.var 9])) [.ret (.bl false)] [], .asg (.v 2) (.lc c_law_right_18_2 (.v 11) .rng [.bi .len [.var 7]] .nop [11]), .ret (.cmp .eq (.bi .repr [.var 2]) (.bi .repr [.lc c_law_right_18_3 (.v 1) .plain [.var 7] .nop [1]]))]⟩
def l_law_18_1 : List S := [.ife (.not (.call 171 [.var 3])) [.ret (.bl false)] []]
def l_law_18_2 : List S := [.asg (.v 3) (.call 132 [.var 1]), .for_ (.v 4) .rng [.int 3] l_law_18_1]
def b_law_18 : Df := ⟨1, 5, [.for_ (.v 1) .plain [.bin .add (.slc (.var 0) .nop (.int 6)) (.lst [.int 0])] l_law_18_2, .asg (.v 2) (.new 0 [.str [121, 120, 121, 120]]), .ret (.cmp .eq (.lst [.call 169 [.var 2, .tup [.int 1, .int 0, .int 2, .int 3], .int 9], .call 170 [.var 2, .tup [.int 1, .int 0, .int 2, .int 3], .int 4]]) (.lst [.int 4, .tup [.int 1, .int 2]]))]⟩
def b_next_cell : Df := ⟨3, 4, [.exp (.call 168 [.var 0, .var 1, .var 2]), .asg (.v 3) (.call 166 [.prp 9 (.var 0), .var 1, .var 2]), .ret (.ite (.cmp .lt (.var 3) (.call 47 [.var 1])) (.call 167 [.prp 9 (.var 0), .var 1, .var 3]) .non)]⟩
def b_last_cell : Df := ⟨3, 6, [.exp (.call 168 [.var 0, .var 1, .var 2]), .asg (.tup [.v 4, .v 5]) (.call 7 [.prp 9 (.var 0), .var 2]), .asg (.v 3) (.bin .add (.bin .sub (.call 166 [.prp 9 (.var 0), .var 1, .var 2]) (.int 1)) (.call 165 [.var 1, .var 4, .var 5, .int 0, .int 0])), .ret (.ite (.cmp .ge (.var 3) (.int 0)) (.call 167 [.prp 9 (.var 0), .var 1, .var 3]) .non)]⟩
def c_law_small_right_1 : E := .var 11
def c_law_small_right_2 : E := .cmp .ge (.var 11) (.var 1)
def c_law_small_right_3 : E := .var 11
def c_law_small_right_4 : E := .cmp .le (.var 11) (.var 1)
def l_law_small_right_1 : List S := [.par [9, 10] [.lc c_law_small_right_1 (.v 11) .plain [.var 6] c_law_small_right_2 [11], .lc c_law_small_right_3 (.v 11) .plain [.var 6] c_law_small_right_4 [11]], .asg (.v 8) (.ite (.cmp .ne (.var 9) (.lst [])) (.call 137 [.var 4, .sub (.var 9) (.int 0)]) .non), .ife (.cmp .ne (.bi .repr [.call 173 [.var 7, .var 5, .var 1]]) (.bi .repr [.var 8])) [.ret (.bl false)] [], .asg (.v 8) (.ite (.cmp .ne (.var 10) (.lst [])) (.call 137 [.var 4, .sub (.var 10) (.neg (.int 1))]) .non), .ife (.cmp .ne (.bi .repr [.call 174 [.var 7, .var 5, .var 1]]) (.bi .repr [.var 8])) [.ret (.bl false)] []]
def b_law_small_right : Df := ⟨1, 12, [.asg (.tup [.v 2, .v 3]) (.call 135 [.var 0, .int 4]), .par [4, 5] [.call 134 [.var 0, .var 2, .var 3], .call 139 [.var 0, .var 2, .var 3]], .par [6, 7] [.call 140 [.var 4, .var 5], .new 0 [.var 4]], .for_ (.v 1) .rng [.bin .shl (.int 1) (.bin .add (.var 2) (.var 3))] l_law_small_right_1, .ret (.bl true)]⟩
def l_law_great_right_1 : List S := [.par [11, 12] [.call 169 [.var 8, .var 7, .var 3], .lst [.call 173 [.var 8, .var 7, .var 3], .call 174 [.var 8, .var 7, .var 3]]], .asg (.v 10) (.bi .int [.call 150 [.var 7, .call 137 [.var 6, .var 3]]]), .ife (.or (.cmp .ne (.isn (.sub (.var 12) (.int 0))) (.cmp .eq (.var 11) (.var 2))) (.cmp .ne (.isn (.sub (.var 12) (.int 1))) (.cmp .eq (.bin .add (.var 11) (.var 10)) (.int 0)))) [.ret (.bl false)] [], .ife (.nsn (.sub (.var 12) (.int 0))) [.asg (.v 13) (.call 136 [.var 6, .sub (.sub (.var 12) (.int 0)) (.int 0), .sub (.sub (.var 12) (.int 0)) (.int 1)]), .ife (.or (.not (.call 150 [.var 7, .sub (.var 12) (.int 0)])) (.or (.cmp .lt (.var 13) (.var 3)) (.cmp .ne (.call 169 [.var 8, .var 7, .var 13]) (.var 11)))) [.ret (.bl false)] []] [], .ife (.nsn (.sub (.var 12) (.int 1))) [.asg (.v 13) (.call 136 [.var 6, .sub (.sub (.var 12) (.int 1)) (.int 0), .sub (.sub (.var 12) (.int 1)) (.int 1)]), .ife (.or (.not (.call 150 [.var 7, .sub (.var 12) (.int 1)])) (.or (.cmp .gt (.var 13) (.var 3)) (.cmp .ne (.call 169 [.var 8, .var 7, .var 13]) (.bin .sub (.bin .add (.var 11) (.var 10)) (.int 1))))) [.ret (.bl false)] []] []]
def b_law_great_right : Df := ⟨1, 14, [.asg (.tup [.v 4, .v 5]) (.call 135 [.var 0, .int 100]), .par [6, 7] [.call 134 [.var 0, .var 4, .var 5], .call 139 [.var 0, .var 4, .var 5]], .par [8, 9] [.new 0 [.var 6], .bin .sub (.bin .shl (.int 1) (.bin .add (.var 4) (.var 5))) (.int 1)], .asg (.v 1) (.call 136 [.var 6, .bin .add (.sub (.var 7) (.int 0)) (.call 133 [.var 0, .bin .add (.bin .sub (.sub (.var 7) (.int 2)) (.sub (.var 7) (.int 0))) (.int 1)]), .sub (.var 7) (.int 3)]), .asg (.v 2) (.bin .mul (.bin .add (.bin .sub (.sub (.var 7) (.int 2)) (.sub (.var 7) (.int 0))) (.int 1)) (.bin .add (.bin .sub (.sub (.var 7) (.int 3)) (.sub (.var 7) (.int 1))) (.int 1))), .for_ (.v 3) .plain [.lst [.int 0, .var 9, .call 133 [.var 0, .bin .add (.var 9) (.int 1)], .var 1, .bi .min [.var 9, .bin .add (.var 1) (.int 1)], .bi .max [.int 0, .bin .sub (.var 1) (.int 1)]]] l_law_great_right_1, .ret (.bl true)]⟩
def l_law_19_1 : List S := [.asg (.v 2) (.call 132 [.var 1]), .ife (.or (.not (.call 175 [.var 2])) (.or (.not (.call 176 [.var 2])) (.not (.call 176 [.var 2])))) [.ret (.bl false)] []]
def b_law_19 : Df := ⟨1, 5, [.for_ (.v 1) .plain [.bin .add (.slc (.var 0) .nop (.int 6)) (.lst [.int 0])] l_law_19_1, .par [3, 4] [.new 0 [.str [121, 120, 121, 120]], .tup [.int 1, .int 0, .int 2, .int 3]], .ret (.cmp .eq (.lst [.call 173 [.var 3, .var 4, .int 7], .call 174 [.var 3, .var 4, .int 8], .call 174 [.var 3, .var 4, .int 0]]) (.lst [.tup [.int 1, .int 2], .tup [.int 2, .int 1], .non]))]⟩
def b_law_stretch : Df := ⟨4, 4, [.ret (.bi .max [.int 0, .bin .add (.bin .sub (.bi .min [.var 1, .bin .sub (.bin .add (.var 2) (.var 3)) (.int 1)]) (.bi .max [.var 0, .var 2])) (.int 1)])]⟩
def l_law_rank_2_1 : List S := [.ife (.cmp .eq (.bin .band (.bin .shr (.var 2) (.var 4)) (.int 1)) (.int 1)) [.asg (.tup [.v 7, .v 8]) (.call 137 [.var 0, .bin .shl (.bin .shr (.var 2) (.bin .add (.var 4) (.int 1))) (.bin .add (.var 4) (.int 1))]), .asg (.v 5) (.slc (.var 0) (.bin .sub (.bi .len [.var 0]) (.var 4)) .nop), .asg (.v 6) (.call 178 [.sub (.var 1) (.int 0), .sub (.var 1) (.int 2), .var 7, .bin .shl (.int 1) (.mth .count (.var 5) [.str [120]])]), .asg (.v 3) (.bin .add (.var 3) (.bin .mul (.var 6) (.call 178 [.sub (.var 1) (.int 1), .sub (.var 1) (.int 3), .var 8, .bin .shl (.int 1) (.mth .count (.var 5) [.str [121]])])))] []]
def b_law_rank_2 : Df := ⟨3, 9, [.asg (.v 3) (.int 0), .for_ (.v 4) .rng [.bi .len [.var 0]] l_law_rank_2_1, .ret (.var 3)]⟩
def l_law_right_19_1 : List S := [.asg (.tup [.v 15, .v 16]) (.call 170 [.var 10, .var 9, .var 4]), .asg (.v 5) (.call 136 [.var 8, .var 15, .var 16]), .ife (.or (.not (.ch2 (.sub (.var 9) (.int 0)) .le (.var 15) .le (.sub (.var 9) (.int 2)))) (.or (.not (.ch2 (.sub (.var 9) (.int 1)) .le (.var 16) .le (.sub (.var 9) (.int 3)))) (.cmp .ne (.bi .repr [.call 169 [.var 10, .var 9, .var 5]]) (.bi .repr [.var 4])))) [.ret (.bl false)] [], .ife (.or (.cmp .lt (.var 5) (.var 13)) (.and (.cmp .lt (.var 4) (.bin .sub (.var 3) (.int 1))) (.cmp .ne (.call 169 [.var 10, .var 9, .bin .add (.var 5) (.int 1)]) (.bin .add (.var 4) (.int 1))))) [.ret (.bl false)] [], .asg (.v 13) (.var 5)]
def c_law_right_19_1 : E := .call 170 [.var 10, .var 9, .var 4]
def c_law_right_19_2 : E := .call 169 [.var 10, .var 19, .var 5]
def l_law_right_19_2 : List S := [.asg (.v 14) (.call 179 [.var 8, .var 9, .var 5]), .ife (.or (.cmp .ne (.call 169 [.var 10, .var 9, .var 5]) (.var 14)) (.cmp .ne (.call 169 [.var 10, .var 2, .var 5]) (.var 5))) [.ret (.bl false)] [], .ife (.cmp .lt (.sub (.var 9) (.int 0)) (.sub (.var 9) (.int 2))) [.asg (.v 17) (.bin .add (.sub (.var 9) (.int 0)) (.call 133 [.var 0, .bin .sub (.sub (.var 9) (.int 2)) (.sub (.var 9) (.int 0))])), .asg (.v 18) (.lst [.tup [.sub (.var 9) (.int 0), .sub (.var 9) (.int 1), .var 17, .sub (.var 9) (.int 3)], .tup [.bin .add (.var 17) (.int 1), .sub (.var 9) (.int 1), .sub (.var 9) (.int 2), .sub (.var 9) (.int 3)]]), .ife (.cmp .ne (.bi .sum [.lc c_law_right_19_2 (.v 19) .plain [.var 18] .nop [19]]) (.var 14)) [.ret (.bl false)] []] []]
def b_law_right_19 : Df := ⟨2, 20, [.asg (.tup [.v 6, .v 7]) (.call 135 [.var 0, .var 1]), .parT [8, 9] [.call 134 [.var 0, .var 6, .var 7], .call 139 [.var 0, .var 6, .var 7]], .parT [10, 11] [.new 0 [.var 8], .bin .sub (.bin .shl (.int 1) (.bin .add (.var 6) (.var 7))) (.int 1)], .asg (.v 2) (.tup [.int 0, .int 0, .bin .sub (.bin .shl (.int 1) (.var 6)) (.int 1), .bin .sub (.bin .shl (.int 1) (.var 7)) (.int 1)]), .asg (.v 3) (.bin .mul (.bin .add (.bin .sub (.sub (.var 9) (.int 2)) (.sub (.var 9) (.int 0))) (.int 1)) (.bin .add (.bin .sub (.sub (.var 9) (.int 3)) (.sub (.var 9) (.int 1))) (.int 1))), .par [12, 13] [.bi .sorted [.lst [.int 0, .bin .sub (.var 3) (.int 1), .call 133 [.var 0, .var 3], .call 133 [.var 0, .var 3], .call 133 [.var 0, .var 3]]], .neg (.int 1)], .for_ (.v 4) .plain [.var 12] l_law_right_19_1, .ife (.cmp .ne (.lc c_law_right_19_1 (.v 4) .plain [.tup [.int 0, .bin .sub (.var 3) (.int 1)]] .nop [4]) (.lst [.tup [.sub (.var 9) (.int 0), .sub (.var 9) (.int 1)], .tup [.sub (.var 9) (.int 2), .sub (.var 9) (.int 3)]])) [.ret (.bl false)] [], .for_ (.v 5) .plain [.lst [.int 0, .var 11, .call 133 [.var 0, .bin .add (.var 11) (.int 1)], .var 13, .call 133 [.var 0, .bin .add (.var 11) (.int 1)]]] l_law_right_19_2, .ret (.bl true)]⟩
def l_law_20_1 : List S := [.asg (.v 2) (.call 132 [.var 1]), .ife (.or (.not (.call 180 [.var 2, .int 5])) (.not (.call 180 [.var 2, .int 100]))) [.ret (.bl false)] []]
def b_law_20 : Df := ⟨1, 3, [.for_ (.v 1) .plain [.bin .add (.slc (.var 0) .nop (.int 6)) (.lst [.int 0])] l_law_20_1, .ret (.bl true)]⟩
def b_InvalidBoxes___init : Df := ⟨2, 2, [.fld 0 (Str.ofString "item") (.var 1)]⟩
def l_require_boxes_1 : List S := [.ife (.not (.call 44 [.var 4, .var 0, .var 1])) [.nev] []]
def b_require_boxes : Df := ⟨3, 5, [.ife (.or (.not (.isi (.var 2) .tlist)) (.not (.ch2 (.int 1) .le (.bi .len [.var 2]) .le (.glb 3)))) [.nev] [], .for_ (.tup [.v 3, .v 4]) .enm [.var 2] l_require_boxes_1]⟩
def b_common_box : Df := ⟨2, 3, [.asg (.v 2) (.tup [.bi .max [.sub (.var 0) (.int 0), .sub (.var 1) (.int 0)], .bi .max [.sub (.var 0) (.int 1), .sub (.var 1) (.int 1)], .bi .min [.sub (.var 0) (.int 2), .sub (.var 1) (.int 2)], .bi .min [.sub (.var 0) (.int 3), .sub (.var 1) (.int 3)]]), .ret (.ite (.and (.cmp .le (.sub (.var 2) (.int 0)) (.sub (.var 2) (.int 2))) (.cmp .le (.sub (.var 2) (.int 1)) (.sub (.var 2) (.int 3)))) (.var 2) .non)]⟩
def l_signed_parts_1 : List S := [.asg (.v 6) (.call 186 [.var 5, .var 2]), .ife (.nsn (.var 6)) [.app 3 (.tup [.bin .sub (.int 0) (.var 4), .var 6])] []]
def l_signed_parts_2 : List S := [.asg (.v 3) (.lst []), .for_ (.tup [.v 4, .v 5]) .plain [.var 1] l_signed_parts_1, .asg (.v 1) (.lstS 2 [.var 1, .var 3, .tup [.int 1, .var 2]])]
def b_signed_parts : Df := ⟨1, 7, [.asg (.v 1) (.lst []), .for_ (.v 2) .plain [.var 0] l_signed_parts_2, .ret (.var 1)]⟩
def b_pairs_of : Df := ⟨5, 9, [.ife (.cmp .eq (.var 2) (.str [120])) [.asg (.v 5) (.call 49 [.var 3, .bi .max [.sub (.var 0) (.int 0), .bin .add (.sub (.var 1) (.int 0)) (.int 1)], .bi .min [.sub (.var 0) (.int 2), .bin .add (.sub (.var 1) (.int 2)) (.int 1)]]), .par [6, 7, 8] [.bi .max [.sub (.var 0) (.int 1), .bin .add (.bin .sub (.sub (.var 1) (.int 1)) (.bin .shl (.int 1) (.var 4))) (.int 1)], .bi .min [.sub (.var 0) (.int 3), .bin .add (.bin .sub (.sub (.var 1) (.int 3)) (.bin .shl (.int 1) (.var 4))) (.int 1)], .var 4]] [.asg (.v 5) (.call 49 [.var 4, .bi .max [.sub (.var 0) (.int 1), .bin .add (.sub (.var 1) (.int 1)) (.int 1)], .bi .min [.sub (.var 0) (.int 3), .bin .add (.sub (.var 1) (.int 3)) (.int 1)]]), .par [6, 7, 8] [.bi .max [.sub (.var 0) (.int 0), .bin .add (.bin .sub (.sub (.var 1) (.int 0)) (.bin .shl (.int 1) (.var 3))) (.int 1)], .bi .min [.sub (.var 0) (.int 2), .bin .add (.bin .sub (.sub (.var 1) (.int 2)) (.bin .shl (.int 1) (.var 3))) (.int 1)], .var 3]], .ret (.bin .mul (.var 5) (.call 48 [.var 8, .var 6, .var 7]))]⟩
def c_cells_of_1 : E := .bin .mul (.var 2) (.call 47 [.var 3])
def b_cells_of : Df := ⟨2, 4, [.exp (.call 45 [.var 0]), .exp (.call 185 [.prp 10 (.var 0), .prp 11 (.var 0), .var 1]), .ret (.bi .sum [.lc c_cells_of_1 (.tup [.v 2, .v 3]) .plain [.call 187 [.var 1]] .nop [2, 3]])]⟩
def c_runs_of_1 : E := .bin .mul (.var 5) (.call 47 [.var 9])
def c_runs_of_2 : E := .call 188 [.var 6, .var 8, .var 10, .var 11, .var 12]
def l_runs_of_1 : List S := [.aug 2 .sub (.bin .mul (.bin .mul (.var 5) (.var 7)) (.bi .sum [.lc c_runs_of_2 (.tup [.v 10, .v 11, .v 12]) .plain [.var 4] .nop [10, 11, 12]]))]
def l_runs_of_2 : List S := [.for_ (.tup [.v 7, .v 8]) .plain [.var 3] l_runs_of_1]
def b_runs_of : Df := ⟨2, 13, [.exp (.call 45 [.var 0]), .exp (.call 185 [.prp 10 (.var 0), .prp 11 (.var 0), .var 1]), .par [3, 4] [.call 187 [.var 1], .call 5 [.prp 9 (.var 0)]], .asg (.v 2) (.bi .sum [.lc c_runs_of_1 (.tup [.v 5, .v 9]) .plain [.var 3] .nop [5, 9]]), .for_ (.tup [.v 5, .v 6]) .plain [.var 3] l_runs_of_2, .ret (.var 2)]⟩
def l_law_boxes_1 : List S := [.par [6, 7] [.sub (.var 4) (.call 133 [.var 0, .bi .len [.var 4]]), .call 133 [.var 0, .int 4]], .ife (.cmp .eq (.var 7) (.int 0)) [.asg (.v 8) (.bin .add (.sub (.var 6) (.int 0)) (.call 133 [.var 0, .bin .add (.bin .sub (.sub (.var 6) (.int 2)) (.sub (.var 6) (.int 0))) (.int 1)])), .asg (.v 9) (.bin .add (.sub (.var 6) (.int 1)) (.call 133 [.var 0, .bin .add (.bin .sub (.sub (.var 6) (.int 3)) (.sub (.var 6) (.int 1))) (.int 1)])), .app 4 (.tup [.var 8, .var 9, .sub (.var 6) (.int 2), .sub (.var 6) (.int 3)])] [.ife (.and (.cmp .eq (.var 7) (.int 1)) (.cmp .lt (.bin .add (.sub (.var 6) (.int 2)) (.int 1)) (.bin .shl (.int 1) (.var 1)))) [.app 4 (.tup [.bin .add (.sub (.var 6) (.int 2)) (.int 1), .sub (.var 6) (.int 1), .bi .min [.bin .sub (.bin .shl (.int 1) (.var 1)) (.int 1), .bin .sub (.bin .add (.bin .mul (.int 2) (.sub (.var 6) (.int 2))) (.int 1)) (.sub (.var 6) (.int 0))], .sub (.var 6) (.int 3)])] [.app 4 (.call 139 [.var 0, .var 1, .var 2])]]]
def b_law_boxes : Df := ⟨4, 10, [.asg (.v 4) (.lst [.call 139 [.var 0, .var 1, .var 2]]), .for_ (.v 5) .rng [.call 133 [.var 0, .var 3]] l_law_boxes_1, .ret (.var 4)]⟩
def l_law_right_21_1 : List S := [.ext 2 (.call 140 [.var 6, .var 1])]
def c_law_right_21_1 : E := .var 10
def c_law_right_21_2 : E := .cmp .nin (.bin .sub (.var 10) (.int 1)) (.var 2)
def b_law_right_21 : Df := ⟨1, 11, [.asg (.tup [.v 4, .v 5]) (.call 135 [.var 0, .int 4]), .par [6, 7] [.call 134 [.var 0, .var 4, .var 5], .call 191 [.var 0, .var 4, .var 5, .int 3]], .parT [8, 2, 9] [.new 0 [.var 6], .lst [], .bi .list [.var 7]], .for_ (.v 1) .plain [.var 7] l_law_right_21_1, .asg (.v 2) (.bi .sorted [.bi .set [.var 2]]), .asg (.v 3) (.lst [.bi .len [.var 2], .bi .len [.lc c_law_right_21_1 (.v 10) .plain [.var 2] c_law_right_21_2 [10]]]), .ife (.or (.cmp .ne (.bi .repr [.lst [.call 189 [.var 8, .var 9], .call 190 [.var 8, .var 9]]]) (.bi .repr [.var 3])) (.cmp .ne (.var 9) (.var 7))) [.ret (.bl false)] [], .ret (.cmp .eq (.lst [.call 189 [.var 8, .rev (.var 7)], .call 190 [.var 8, .rev (.var 7)]]) (.var 3))]⟩
def l_law_21_1 : List S := [.ife (.not (.call 192 [.var 2])) [.ret (.bl false)] []]
def l_law_21_2 : List S := [.asg (.v 2) (.call 132 [.var 1]), .for_ (.v 3) .rng [.int 4] l_law_21_1]
def b_law_21 : Df := ⟨1, 6, [.for_ (.v 1) .plain [.bin .add (.slc (.var 0) .nop (.int 6)) (.lst [.int 0])] l_law_21_2, .par [4, 5] [.new 0 [.str [121, 120, 121, 120]], .lst [.tup [.int 0, .int 0, .int 1, .int 1], .tup [.int 1, .int 1, .int 2, .int 2]]], .ret (.cmp .eq (.lst [.call 189 [.var 4, .var 5], .call 190 [.var 4, .var 5], .call 190 [.var 4, .lst [.tup [.int 0, .int 0, .int 1, .int 0], .tup [.int 0, .int 1, .int 1, .int 1]]]]) (.lst [.int 7, .int 4, .int 1]))]⟩
def b_law_area : Df := ⟨1, 1, [.ret (.bin .mul (.bin .add (.bin .sub (.sub (.var 0) (.int 2)) (.sub (.var 0) (.int 0))) (.int 1)) (.bin .add (.bin .sub (.sub (.var 0) (.int 3)) (.sub (.var 0) (.int 1))) (.int 1)))]⟩
def b_law_same : Df := ⟨3, 3, [.ret (.and (.cmp .eq (.call 189 [.var 0, .var 1]) (.call 194 [.var 2])) (.cmp .eq (.call 190 [.var 0, .var 1]) (.call 54 [.var 0, .var 2])))]⟩
def b_law_within_2 : Df := ⟨2, 4, [.par [2, 3] [.bin .add (.sub (.var 1) (.int 0)) (.call 133 [.var 0, .bin .add (.bin .sub (.sub (.var 1) (.int 2)) (.sub (.var 1) (.int 0))) (.int 1)]), .bin .add (.sub (.var 1) (.int 1)) (.call 133 [.var 0, .bin .add (.bin .sub (.sub (.var 1) (.int 3)) (.sub (.var 1) (.int 1))) (.int 1)])], .ret (.tup [.var 2, .var 3, .bin .add (.var 2) (.call 133 [.var 0, .bin .add (.bin .sub (.sub (.var 1) (.int 2)) (.var 2)) (.int 1)]), .bin .add (.var 3) (.call 133 [.var 0, .bin .add (.bin .sub (.sub (.var 1) (.int 3)) (.var 3)) (.int 1)])])]⟩
def b_law_parts_right : Df := ⟨3, 8, [.asg (.v 3) (.bin .add (.sub (.var 2) (.int 0)) (.call 133 [.var 0, .bin .add (.bin .sub (.sub (.var 2) (.int 2)) (.sub (.var 2) (.int 0))) (.int 1)])), .ife (.cmp .lt (.var 3) (.sub (.var 2) (.int 2))) [.asg (.v 7) (.lst [.tup [.sub (.var 2) (.int 0), .sub (.var 2) (.int 1), .var 3, .sub (.var 2) (.int 3)], .tup [.bin .add (.var 3) (.int 1), .sub (.var 2) (.int 1), .sub (.var 2) (.int 2), .sub (.var 2) (.int 3)]]), .ife (.not (.call 195 [.var 1, .var 7, .var 2])) [.ret (.bl false)] [], .ife (.not (.call 195 [.var 1, .bin .add (.rev (.var 7)) (.lst [.call 196 [.var 0, .var 2]]), .var 2])) [.ret (.bl false)] []] [], .asg (.v 4) (.tup [.bi .max [.sub (.var 2) (.int 0), .bin .sub (.var 3) (.call 133 [.var 0, .int 9])], .sub (.var 2) (.int 1), .sub (.var 2) (.int 2), .sub (.var 2) (.int 3)]), .ife (.not (.call 195 [.var 1, .lst [.tup [.sub (.var 2) (.int 0), .sub (.var 2) (.int 1), .var 3, .sub (.var 2) (.int 3)], .var 4], .var 2])) [.ret (.bl false)] [], .asg (.v 5) (.bin .add (.sub (.var 2) (.int 1)) (.call 133 [.var 0, .bin .add (.bin .sub (.sub (.var 2) (.int 3)) (.sub (.var 2) (.int 1))) (.int 1)])), .asg (.v 6) (.lst [.tup [.sub (.var 2) (.int 0), .sub (.var 2) (.int 1), .sub (.var 2) (.int 2), .var 5], .tup [.sub (.var 2) (.int 0), .var 5, .sub (.var 2) (.int 2), .sub (.var 2) (.int 3)], .call 196 [.var 0, .var 2]]), .ret (.call 195 [.var 1, .var 6, .var 2])]⟩
def l_law_grown_right_1 : List S := [.ext 1 (.call 140 [.var 10, .var 2])]
def c_law_grown_right_1 : E := .var 20
def c_law_grown_right_2 : E := .cmp .nin (.bin .sub (.var 20) (.int 1)) (.var 1)
def l_law_grown_right_2 : List S := [.par [18, 19] [.bin .add (.var 4) (.bin .shl (.sub (.var 2) (.int 0)) (.var 12)), .bin .add (.var 5) (.bin .shl (.sub (.var 2) (.int 1)) (.var 13))], .app 6 (.tup [.var 18, .var 19, .bin .sub (.bin .add (.var 4) (.bin .shl (.bin .add (.sub (.var 2) (.int 2)) (.int 1)) (.var 12))) (.int 1), .bin .sub (.bin .add (.var 5) (.bin .shl (.bin .add (.sub (.var 2) (.int 3)) (.int 1)) (.var 13))) (.int 1)])]
def b_law_grown_right : Df := ⟨1, 21, [.asg (.tup [.v 8, .v 9]) (.call 135 [.var 0, .int 4]), .par [10, 11] [.call 134 [.var 0, .var 8, .var 9], .call 191 [.var 0, .var 8, .var 9, .int 3]], .asg (.v 1) (.lst []), .for_ (.v 2) .plain [.var 11] l_law_grown_right_1, .asg (.v 1) (.bi .sorted [.bi .set [.var 1]]), .asg (.v 3) (.bi .len [.lc c_law_grown_right_1 (.v 20) .plain [.var 1] c_law_grown_right_2 [20]]), .par [12, 13] [.call 133 [.var 0, .int 50], .call 133 [.var 0, .int 50]], .par [14, 15] [.call 133 [.var 0, .bin .sub (.bin .sub (.int 97) (.var 8)) (.var 12)], .call 133 [.var 0, .bin .sub (.bin .sub (.int 97) (.var 9)) (.var 13)]], .par [16, 17] [.call 134 [.var 0, .var 12, .var 13], .call 134 [.var 0, .var 14, .var 15]], .asg (.v 4) (.bin .shl (.call 133 [.var 0, .bin .shl (.int 1) (.var 14)]) (.bin .add (.var 8) (.var 12))), .asg (.v 5) (.bin .shl (.call 133 [.var 0, .bin .shl (.int 1) (.var 15)]) (.bin .add (.var 9) (.var 13))), .asg (.v 6) (.lst []), .for_ (.v 2) .plain [.var 11] l_law_grown_right_2, .asg (.v 7) (.new 0 [.bin .add (.bin .add (.var 17) (.var 10)) (.var 16)]), .ret (.cmp .eq (.lst [.call 189 [.var 7, .var 6], .call 190 [.var 7, .var 6]]) (.lst [.bin .shl (.bi .len [.var 1]) (.bin .add (.var 12) (.var 13)), .var 3]))]⟩
def l_law_right_22_1 : List S := [.ife (.not (.call 195 [.var 8, .var 2, .var 9])) [.ret (.bl false)] []]
def c_law_right_22_1 : E := .call 194 [.var 10]
def c_law_right_22_2 : E := .call 54 [.var 8, .var 10]
def b_law_right_22 : Df := ⟨2, 11, [.asg (.tup [.v 6, .v 7]) (.call 135 [.var 0, .var 1]), .parT [8, 9] [.new 0 [.call 134 [.var 0, .var 6, .var 7]], .call 139 [.var 0, .var 6, .var 7]], .for_ (.v 2) .plain [.tup [.lst [.var 9], .bin .mul (.lst [.var 9]) (.int 2), .bin .mul (.lst [.var 9]) (.int 3), .lst [.var 9, .call 196 [.var 0, .var 9]], .lst [.call 196 [.var 0, .var 9], .var 9]]] l_law_right_22_1, .ife (.not (.call 197 [.var 0, .var 8, .var 9])) [.ret (.bl false)] [], .asg (.v 2) (.call 191 [.var 0, .var 6, .var 7, .int 3]), .asg (.v 3) (.lst [.call 189 [.var 8, .var 2], .call 190 [.var 8, .var 2]]), .ife (.cmp .ne (.lst [.call 189 [.var 8, .rev (.var 2)], .call 190 [.var 8, .rev (.var 2)]]) (.var 3)) [.ret (.bl false)] [], .asg (.v 4) (.lc c_law_right_22_1 (.v 10) .plain [.var 2] .nop [10]), .ife (.or (.not (.ch2 (.bi .max [.var 4]) .le (.sub (.var 3) (.int 0)) .le (.bi .sum [.var 4]))) (.not (.ch2 (.int 1) .le (.sub (.var 3) (.int 1)) .le (.bi .sum [.lc c_law_right_22_2 (.v 10) .plain [.var 2] .nop [10]])))) [.ret (.bl false)] [], .asg (.v 5) (.tup [.bin .sub (.bin .shl (.int 1) (.var 6)) (.int 1), .bin .sub (.bin .shl (.int 1) (.var 7)) (.int 1)]), .ife (.cmp .lt (.bin .mul (.bin .add (.sub (.var 5) (.int 0)) (.int 1)) (.bin .add (.sub (.var 5) (.int 1)) (.int 1))) (.int 3)) [.ret (.bl true)] [], .ret (.cmp .eq (.call 190 [.var 8, .lst [.tup [.int 0, .int 0, .int 0, .int 0], .tup [.sub (.var 5) (.int 0), .sub (.var 5) (.int 1), .sub (.var 5) (.int 0), .sub (.var 5) (.int 1)]]]) (.int 2))]⟩
def l_law_22_1 : List S := [.ife (.not (.call 199 [.var 2, .var 3])) [.ret (.bl false)] []]
def l_law_22_2 : List S := [.ife (.not (.call 198 [.var 2])) [.ret (.bl false)] []]
def l_law_22_3 : List S := [.asg (.v 2) (.call 132 [.var 1]), .for_ (.v 3) .plain [.tup [.int 5, .int 30, .int 100]] l_law_22_1, .for_ (.v 4) .rng [.int 4] l_law_22_2]
def b_law_22 : Df := ⟨1, 5, [.for_ (.v 1) .plain [.bin .add (.slc (.var 0) .nop (.int 6)) (.lst [.int 0])] l_law_22_3, .ret (.cmp .eq (.call 190 [.new 0 [.bin .mul (.str [121, 120]) (.int 20)], .lst [.tup [.int 0, .int 1, .int 1, .int 3], .tup [.int 2, .int 0, .int 3, .int 0]]]) (.int 2))]⟩
def l_parting_box_1 : List S := [.ife (.cmp .ne (.sub (.var 2) (.int 0)) (.sub (.var 3) (.int 0))) [.ret (.tup [.int 0, .int 0, .bin .sub (.bin .shl (.int 2) (.sub (.var 2) (.int 1))) (.int 1), .bin .sub (.bin .shl (.int 1) (.sub (.var 2) (.int 2))) (.int 1)])] []]
def b_parting_box : Df := ⟨2, 4, [.exp (.call 45 [.var 0]), .exp (.call 45 [.var 1]), .ife (.or (.cmp .ne (.prp 10 (.var 0)) (.prp 10 (.var 1))) (.cmp .ne (.prp 11 (.var 0)) (.prp 11 (.var 1)))) [.nev] [], .for_ (.tup [.v 2, .v 3]) .zip [.call 5 [.prp 9 (.var 0)], .call 5 [.prp 9 (.var 1)]] l_parting_box_1, .ret .non]⟩
def c_law_runs_1 : E := .var 3
def c_law_runs_2 : E := .cmp .ne (.sub (.var 2) (.var 3)) (.bin .add (.sub (.var 2) (.bin .sub (.var 3) (.int 1))) (.int 1))
def b_law_runs : Df := ⟨2, 4, [.asg (.v 2) (.call 140 [.var 0, .var 1]), .ret (.bin .add (.int 1) (.bi .len [.lc c_law_runs_1 (.v 3) .rng [.int 1, .bi .len [.var 2]] c_law_runs_2 [3]]))]⟩
def b_law_exchanged : Df := ⟨2, 3, [.asg (.v 2) (.call 133 [.var 0, .bi .max [.int 1, .bin .sub (.bi .len [.var 1]) (.int 1)]]), .ret (.bin .add (.bin .add (.slc (.var 1) .nop (.var 2)) (.rev (.slc (.var 1) (.var 2) (.bin .add (.var 2) (.int 2))))) (.slc (.var 1) (.bin .add (.var 2) (.int 2)) .nop))]⟩
def c_law_right_24_1 : E := .cmp .eq (.sub (.var 1) (.bin .sub (.bin .sub (.bi .len [.var 1]) (.int 1)) (.var 4))) (.sub (.var 2) (.bin .sub (.bin .sub (.bi .len [.var 1]) (.int 1)) (.var 4)))
def l_law_right_24_1 : List S := [.asg (.v 4) (.bin .add (.var 4) (.int 1))]
def c_law_right_24_2 : E := .bin .sub (.int 2) (.bi .int [.cmp .eq (.sub (.var 7) (.bin .sub (.bin .sub (.bi .len [.var 1]) (.int 1)) (.var 4))) (.str [120])])
def b_law_right_24 : Df := ⟨1, 12, [.asg (.tup [.v 8, .v 9]) (.call 135 [.var 0, .int 4]), .asg (.v 1) (.call 134 [.var 0, .var 8, .var 9]), .asg (.v 2) (.sub (.lst [.call 134 [.var 0, .var 8, .var 9], .call 206 [.var 0, .var 1], .var 1]) (.call 133 [.var 0, .int 3])), .par [10, 11] [.new 0 [.var 1], .new 0 [.var 2]], .asg (.v 3) (.call 204 [.var 10, .var 11]), .ife (.or (.cmp .ne (.bi .repr [.call 204 [.var 11, .var 10]]) (.bi .repr [.var 3])) (.nsn (.call 204 [.var 10, .var 10]))) [.ret (.bl false)] [], .ife (.cmp .eq (.var 1) (.var 2)) [.ret (.isn (.var 3))] [], .asg (.v 4) (.int 0), .whl c_law_right_24_1 l_law_right_24_1, .asg (.v 5) (.slc (.var 1) (.bin .sub (.bi .len [.var 1]) (.var 4)) .nop), .ife (.cmp .ne (.bi .repr [.var 3]) (.bi .repr [.tup [.int 0, .int 0, .bin .sub (.bin .shl (.int 2) (.mth .count (.var 5) [.str [120]])) (.int 1), .bin .sub (.bin .shl (.int 1) (.mth .count (.var 5) [.str [121]])) (.int 1)]])) [.ret (.bl false)] [], .asg (.v 6) (.lc c_law_right_24_2 (.v 7) .plain [.tup [.var 1, .var 2]] .nop [7]), .ife (.cmp .ne (.lst [.call 205 [.var 1, .var 3], .call 205 [.var 2, .var 3]]) (.var 6)) [.ret (.bl false)] [], .asg (.v 7) (.call 139 [.var 0, .mth .count (.var 5) [.str [120]], .mth .count (.var 5) [.str [121]]]), .ret (.cmp .eq (.call 205 [.var 1, .var 7]) (.call 205 [.var 2, .var 7]))]⟩
def l_law_23_1 : List S := [.ife (.not (.call 207 [.var 2])) [.ret (.bl false)] []]
def l_law_23_2 : List S := [.asg (.v 2) (.call 132 [.var 1]), .for_ (.v 3) .rng [.int 5] l_law_23_1]
def b_law_23 : Df := ⟨1, 6, [.for_ (.v 1) .plain [.bin .add (.slc (.var 0) .nop (.int 6)) (.lst [.int 0])] l_law_23_2, .par [4, 5] [.new 0 [.str [121, 120, 121, 120]], .new 0 [.str [121, 121, 120, 120]]], .ret (.cmp .eq (.lst [.call 204 [.var 4, .var 5], .call 204 [.var 4, .var 4]]) (.lst [.tup [.int 0, .int 0, .int 3, .int 0], .non]))]⟩
def l_law_every_1 : List S := [.asg (.v 2) (.bin .fdiv (.bin .mul (.var 2) (.bin .add (.bin .add (.var 1) (.var 3)) (.int 1))) (.bin .add (.var 3) (.int 1)))]
def b_law_every : Df := ⟨2, 4, [.asg (.v 2) (.int 1), .for_ (.v 3) .rng [.var 0] l_law_every_1, .ret (.var 2)]⟩
def c_law_parted_right_1 : E := .cmp .eq (.sub (.var 3) (.bin .sub (.bin .sub (.bi .len [.var 3]) (.int 1)) (.var 8))) (.sub (.var 6) (.bin .sub (.bin .sub (.bi .len [.var 3]) (.int 1)) (.var 8)))
def l_law_parted_right_1 : List S := [.asg (.v 8) (.bin .add (.var 8) (.int 1))]
def c_law_parted_right_2 : E := .bin .sub (.int 2) (.bi .int [.cmp .eq (.sub (.var 11) (.bin .sub (.bin .sub (.bi .len [.var 3]) (.int 1)) (.var 8))) (.str [120])])
def b_law_parted_right : Df := ⟨3, 14, [.asg (.v 3) (.call 134 [.var 0, .var 1, .var 2]), .asg (.v 4) (.call 133 [.var 0, .bin .add (.bi .len [.var 3]) (.int 1)]), .asg (.v 5) (.slc (.var 3) .nop (.var 4)), .asg (.v 6) (.bin .add (.call 134 [.var 0, .mth .count (.var 5) [.str [120]], .mth .count (.var 5) [.str [121]]]) (.slc (.var 3) (.var 4) .nop)), .par [12, 13] [.new 0 [.var 3], .new 0 [.var 6]], .asg (.v 7) (.call 204 [.var 12, .var 13]), .ife (.or (.isn (.var 7)) (.cmp .eq (.var 3) (.var 6))) [.ret (.and (.isn (.var 7)) (.cmp .eq (.var 3) (.var 6)))] [], .asg (.v 8) (.int 0), .whl c_law_parted_right_1 l_law_parted_right_1, .asg (.v 9) (.slc (.var 3) (.bin .sub (.bi .len [.var 3]) (.var 8)) .nop), .ife (.cmp .ne (.var 7) (.tup [.int 0, .int 0, .bin .sub (.bin .shl (.int 2) (.mth .count (.var 9) [.str [120]])) (.int 1), .bin .sub (.bin .shl (.int 1) (.mth .count (.var 9) [.str [121]])) (.int 1)])) [.ret (.bl false)] [], .asg (.v 10) (.lc c_law_parted_right_2 (.v 11) .plain [.tup [.var 3, .var 6]] .nop [11]), .ife (.cmp .ne (.lst [.call 54 [.var 12, .var 7], .call 54 [.var 13, .var 7]]) (.var 10)) [.ret (.bl false)] [], .asg (.v 11) (.call 139 [.var 0, .mth .count (.var 9) [.str [120]], .mth .count (.var 9) [.str [121]]]), .ret (.and (.cmp .eq (.call 54 [.var 12, .var 11]) (.call 54 [.var 13, .var 11])) (.cmp .eq (.call 204 [.var 13, .var 12]) (.var 7)))]⟩
def c_law_ahead_1 : E := .bin .shr (.sub (.var 9) (.var 5)) (.bin .sub (.var 6) (.int 1))
def l_law_ahead_1 : List S := [.asg (.v 11) (.bi .list [.var 9]), .set 11 (.var 5) (.bin .sub (.sub (.var 11) (.var 5)) (.bin .shl (.sub (.var 8) (.int 0)) (.bin .sub (.var 6) (.int 1)))), .app 10 (.bi .tuple [.var 11])]
def l_law_ahead_2 : List S := [.ife (.cmp .gt (.var 6) (.int 0)) [.asg (.v 7) (.lst [.bin .sub (.var 0) (.bi .int [.cmp .eq (.var 5) (.int 0)]), .bin .sub (.var 1) (.bi .int [.cmp .eq (.var 5) (.int 1)])]), .asg (.v 8) (.lc c_law_ahead_1 (.v 9) .plain [.tup [.var 2, .var 3]] .nop [9]), .ife (.cmp .ne (.sub (.var 8) (.int 0)) (.sub (.var 8) (.int 1))) [.asg (.v 4) (.bin .add (.var 4) (.bin .mul (.call 216 [.sub (.var 7) (.int 0), .sub (.var 7) (.int 1)]) (.bi .int [.cmp .lt (.sub (.var 8) (.int 0)) (.sub (.var 8) (.int 1))])))] [.ife (.cmp .gt (.bi .sum [.var 7]) (.int 0)) [.asg (.v 10) (.lst []), .for_ (.v 9) .plain [.tup [.var 2, .var 3]] l_law_ahead_1, .asg (.v 4) (.bin .add (.var 4) (.call 211 [.sub (.var 7) (.int 0), .sub (.var 7) (.int 1), .sub (.var 10) (.int 0), .sub (.var 10) (.int 1)]))] []]] []]
def b_law_ahead : Df := ⟨4, 12, [.asg (.v 4) (.int 0), .for_ (.tup [.v 5, .v 6]) .enm [.tup [.var 0, .var 1]] l_law_ahead_2, .ret (.var 4)]⟩
def c_law_cells_right_1 : E := .bits (.bin .bxor (.sub (.var 10) (.var 11)) (.sub (.var 3) (.var 11)))
def c_law_cells_right_2 : E := .bi .max [.int 0, .bin .sub (.sub (.var 6) (.var 11)) (.int 1)]
def c_law_cells_right_3 : E := .bin .shl (.bin .shr (.sub (.var 12) (.var 11)) (.sub (.var 7) (.var 11))) (.sub (.var 7) (.var 11))
def c_law_cells_right_4 : E := .bi .tuple [.lc c_law_cells_right_3 (.v 11) .plain [.tup [.int 0, .int 1]] .nop [11]]
def b_law_cells_right : Df := ⟨3, 13, [.parT [9, 10] [.call 216 [.var 1, .var 2], .tup [.call 133 [.var 0, .bin .shl (.int 1) (.var 1)], .call 133 [.var 0, .bin .shl (.int 1) (.var 2)]]], .asg (.v 3) (.tup [.call 133 [.var 0, .bin .shl (.int 1) (.var 1)], .call 133 [.var 0, .bin .shl (.int 1) (.var 2)]]), .asg (.v 4) (.call 133 [.var 0, .int 4]), .ife (.cmp .lt (.var 4) (.int 2)) [.asg (.v 3) (.tup [.bin .bxor (.sub (.var 10) (.int 0)) (.call 133 [.var 0, .bi .min [.int 4, .bin .shl (.int 1) (.var 1)]]), .bin .bxor (.sub (.var 10) (.int 1)) (.call 133 [.var 0, .bi .min [.int 4, .bin .shl (.int 1) (.var 2)]])])] [], .ife (.cmp .eq (.var 4) (.int 2)) [.asg (.v 3) (.tup [.sub (.var 10) (.int 0), .sub (.var 3) (.int 1)])] [], .asg (.v 5) (.lst [.call 211 [.var 1, .var 2, .var 10, .var 3], .call 211 [.var 1, .var 2, .var 3, .var 10]]), .ife (.cmp .eq (.var 10) (.var 3)) [.ret (.cmp .eq (.var 5) (.lst [.int 0, .int 0]))] [], .ife (.or (.cmp .ne (.bi .sum [.var 5]) (.var 9)) (.or (.cmp .lt (.bi .min [.var 5]) (.int 0)) (.cmp .ne (.sub (.var 5) (.int 0)) (.call 218 [.var 1, .var 2, .var 10, .var 3])))) [.ret (.bl false)] [], .ife (.and (.cmp .le (.sub (.var 10) (.int 0)) (.sub (.var 3) (.int 0))) (.and (.cmp .le (.sub (.var 10) (.int 1)) (.sub (.var 3) (.int 1))) (.cmp .ne (.sub (.var 5) (.int 0)) (.var 9)))) [.ret (.bl false)] [], .ife (.cmp .ne (.call 211 [.var 2, .var 1, .rev (.var 10), .rev (.var 3)]) (.sub (.var 5) (.int 0))) [.ret (.bl false)] [], .ife (.cmp .ne (.call 211 [.var 2, .var 1, .rev (.var 3), .rev (.var 10)]) (.sub (.var 5) (.int 1))) [.ret (.bl false)] [], .asg (.v 6) (.lc c_law_cells_right_1 (.v 11) .plain [.tup [.int 0, .int 1]] .nop [11]), .asg (.v 7) (.lc c_law_cells_right_2 (.v 11) .plain [.tup [.int 0, .int 1]] .nop [11]), .asg (.v 8) (.lc c_law_cells_right_4 (.v 12) .plain [.tup [.var 10, .var 3]] .nop [12]), .ret (.cmp .eq (.call 211 [.var 1, .var 2, .sub (.var 8) (.int 0), .sub (.var 8) (.int 1)]) (.sub (.var 5) (.int 0)))]⟩
def l_law_25_1 : List S := [.asg (.tup [.v 4, .v 5]) (.call 135 [.var 2, .var 3]), .ife (.or (.not (.call 217 [.var 2, .var 4, .var 5])) (.not (.call 219 [.var 2, .var 4, .var 5]))) [.ret (.bl false)] [], .ife (.not (.call 219 [.var 2, .var 4, .var 5])) [.ret (.bl false)] []]
def l_law_25_2 : List S := [.asg (.v 2) (.call 132 [.var 1]), .for_ (.v 3) .plain [.tup [.int 6, .int 100]] l_law_25_1]
def b_law_25 : Df := ⟨1, 6, [.for_ (.v 1) .plain [.bin .add (.slc (.var 0) .nop (.int 6)) (.lst [.int 0])] l_law_25_2, .ret (.and (.cmp .eq (.call 211 [.int 2, .int 1, .tup [.int 2, .int 0], .tup [.int 0, .int 1]]) (.int 1)) (.cmp .eq (.call 211 [.int 2, .int 1, .tup [.int 0, .int 1], .tup [.int 2, .int 0]]) (.int 2)))]⟩
def b_law_cut : Df := ⟨2, 7, [.asg (.tup [.v 2, .v 3, .v 4, .v 5]) (.var 1), .ife (.and (.cmp .lt (.var 2) (.var 4)) (.or (.cmp .eq (.var 3) (.var 5)) (.cmp .eq (.call 16 [.var 0, .int 2]) (.int 0)))) [.asg (.v 6) (.bin .add (.var 2) (.call 16 [.var 0, .bin .sub (.var 4) (.var 2)])), .ret (.lst [.tup [.var 2, .var 3, .var 6, .var 5], .tup [.bin .add (.var 6) (.int 1), .var 3, .var 4, .var 5]])] [], .ife (.cmp .lt (.var 3) (.var 5)) [.asg (.v 6) (.bin .add (.var 3) (.call 16 [.var 0, .bin .sub (.var 5) (.var 3)])), .ret (.lst [.tup [.var 2, .var 3, .var 4, .var 6], .tup [.var 2, .bin .add (.var 6) (.int 1), .var 4, .var 5]])] [], .ret (.lst [.var 1])]⟩
def c_law_right_43_1 : E := .call 169 [.var 8, .var 14, .var 4]
def c_law_right_43_2 : E := .call 129 [.var 8, .var 14]
def l_law_right_43_1 : List S := [.ife (.or (.cmp .ne (.call 189 [.var 8, .var 5]) (.var 10)) (.cmp .ne (.call 190 [.var 8, .var 5]) (.var 11))) [.ret (.bl false)] []]
def c_law_right_43_3 : E := .call 54 [.var 8, .var 15]
def b_law_right_43 : Df := ⟨2, 16, [.asg (.v 2) (.call 17 [.var 0, .var 1, .var 1]), .parT [8, 9] [.new 0 [.var 2], .call 56 [.var 0, .var 2]], .par [10, 11] [.bin .mul (.bin .add (.bin .sub (.sub (.var 9) (.int 2)) (.sub (.var 9) (.int 0))) (.int 1)) (.bin .add (.bin .sub (.sub (.var 9) (.int 3)) (.sub (.var 9) (.int 1))) (.int 1)), .call 54 [.var 8, .var 9]], .asg (.v 3) (.call 447 [.var 0, .var 9]), .ife (.and (.cmp .eq (.bi .len [.var 3]) (.int 2)) (.cmp .eq (.call 16 [.var 0, .int 2]) (.int 0))) [.asg (.v 3) (.bin .add (.slc (.var 3) .nop (.int 1)) (.call 447 [.var 0, .sub (.var 3) (.int 1)]))] [], .asg (.v 4) (.call 16 [.var 0, .call 18 [.bi .len [.var 2]]]), .ife (.cmp .ne (.bi .sum [.lc c_law_right_43_1 (.v 14) .plain [.var 3] .nop [14]]) (.call 169 [.var 8, .var 9, .var 4])) [.ret (.bl false)] [], .ife (.cmp .lt (.bi .sum [.lc c_law_right_43_2 (.v 14) .plain [.var 3] .nop [14]]) (.call 129 [.var 8, .var 9])) [.ret (.bl false)] [], .for_ (.v 5) .plain [.tup [.var 3, .rev (.var 3), .lst [.var 9], .lst [.var 9, .var 9], .bin .add (.slc (.var 3) .nop (.int 2)) (.lst [.var 9])]] l_law_right_43_1, .par [12, 13] [.call 56 [.var 0, .var 2], .call 56 [.var 0, .var 2]], .asg (.v 6) (.call 190 [.var 8, .lst [.var 9, .var 12, .var 13]]), .ife (.cmp .gt (.var 6) (.bi .sum [.lc c_law_right_43_3 (.v 15) .plain [.tup [.var 9, .var 12, .var 13]] .nop [15]])) [.ret (.bl false)] [], .ife (.cmp .ne (.var 6) (.call 190 [.var 8, .lst [.var 13, .var 9, .var 12]])) [.ret (.bl false)] [], .asg (.v 7) (.call 189 [.var 8, .lst [.var 9, .var 12]]), .ife (.not (.ch2 (.var 10) .le (.var 7) .le (.call 189 [.var 8, .lst [.var 9, .var 12, .var 13]]))) [.ret (.bl false)] [], .ret (.cmp .eq (.call 190 [.var 8, .lst [.var 12, .var 12]]) (.call 54 [.var 8, .var 12]))]⟩
def l_law_52_1 : List S := [.ife (.not (.call 448 [.var 2, .var 3])) [.ret (.bl false)] []]
def l_law_52_2 : List S := [.asg (.v 2) (.call 15 [.var 0, .var 1]), .for_ (.v 3) .plain [.lst [.int 3, .int 8, .sub (.lst [.int 20, .int 100]) (.bi .int [.cmp .eq (.var 1) (.int 0)])]] l_law_52_1]
def b_law_52 : Df := ⟨1, 4, [.for_ (.v 1) .rng [.bi .max [.int 1, .bi .min [.int 4, .bi .len [.var 0]]]] l_law_52_2, .ret (.bl true)]⟩
def l_law_walk_1 : List S := [.ife (.nsn (.var 7)) [.asg (.tup [.v 9, .v 10]) (.call 131 [.var 0, .var 1, .var 7]), .ife (.or (.cmp .ne (.umt 13 (.var 0) [.var 7]) (.var 9)) (.cmp .ne (.call 169 [.var 0, .var 1, .var 9]) (.var 4))) [.ret .non] [], .asg (.v 4) (.bin .add (.bin .sub (.bin .add (.var 4) (.var 10)) (.var 9)) (.int 1)), .ife (.cmp .ne (.ite (.cmp .lt (.var 10) (.var 3)) (.call 169 [.var 0, .var 1, .bin .add (.var 10) (.int 1)]) (.var 8)) (.var 4)) [.ret .non] [], .app 6 (.bin .sub (.bits (.bin .add (.bin .sub (.var 10) (.var 9)) (.int 1))) (.int 1)), .asg (.v 7) (.ite (.cmp .lt (.var 10) (.var 3)) (.call 173 [.var 0, .var 1, .bin .add (.var 10) (.int 1)]) .non)] []]
def b_law_walk : Df := ⟨4, 11, [.par [6, 7, 8] [.lst [], .call 170 [.var 0, .var 1, .int 0], .bin .mul (.bin .add (.bin .sub (.sub (.var 1) (.int 2)) (.sub (.var 1) (.int 0))) (.int 1)) (.bin .add (.bin .sub (.sub (.var 1) (.int 3)) (.sub (.var 1) (.int 1))) (.int 1))], .asg (.v 4) (.int 0), .for_ (.v 5) .rng [.var 2] l_law_walk_1, .ret (.var 6)]⟩
def c_law_pages_right_3_1 : E := .and (.nsn (.var 7)) (.cmp .lt (.var 6) (.int 40))
def l_law_pages_right_3_1 : List S := [.asg (.v 8) (.bin .shr (.umt 13 (.var 1) [.var 7]) (.var 3)), .asg (.v 6) (.bin .add (.var 6) (.int 1)), .asg (.v 9) (.bin .shl (.bin .add (.var 8) (.int 1)) (.var 3)), .asg (.v 7) (.ite (.cmp .le (.var 9) (.var 4)) (.call 173 [.var 1, .var 2, .var 9]) .non)]
def b_law_pages_right_3 : Df := ⟨4, 10, [.par [5, 6, 7] [.call 146 [.var 1, .var 2, .var 3], .int 0, .call 170 [.var 1, .var 2, .int 0]], .asg (.v 4) (.bin .sub (.bin .shl (.int 1) (.bi .len [.prp 9 (.var 1)])) (.int 1)), .whl c_law_pages_right_3_1 l_law_pages_right_3_1, .ret (.cmp .eq (.var 6) (.bi .min [.var 5, .int 40]))]⟩
def c_law_right_45_1 : E := .int 1
def c_law_right_45_2 : E := .cmp .eq (.var 14) (.var 13)
def c_law_right_45_3 : E := .tup [.var 13, .bi .len [.lc c_law_right_45_1 (.v 14) .plain [.var 3] c_law_right_45_2 [14]]]
def b_law_right_45 : Df := ⟨2, 15, [.asg (.tup [.v 4, .v 5]) (.call 135 [.var 0, .var 1]), .par [6, 7] [.new 0 [.call 134 [.var 0, .var 4, .var 5]], .call 139 [.var 0, .var 4, .var 5]], .par [8, 9] [.bin .sub (.bin .shl (.int 1) (.bin .add (.var 4) (.var 5))) (.int 1), .call 129 [.var 6, .var 7]], .asg (.v 2) (.bin .mul (.bin .add (.bin .sub (.sub (.var 7) (.int 2)) (.sub (.var 7) (.int 0))) (.int 1)) (.bin .add (.bin .sub (.sub (.var 7) (.int 3)) (.sub (.var 7) (.int 1))) (.int 1))), .ife (.or (.not (.ch3 (.int 1) .le (.call 54 [.var 6, .var 7]) .le (.var 9) .le (.var 2))) (.cmp .ne (.call 146 [.var 6, .var 7, .int 0]) (.var 2))) [.ret (.bl false)] [], .asg (.v 3) (.call 452 [.var 6, .var 7, .bi .min [.bin .add (.var 9) (.int 1), .int 20], .var 8]), .ife (.or (.isn (.var 3)) (.cmp .ne (.bi .len [.var 3]) (.bi .min [.var 9, .int 20]))) [.ret (.bl false)] [], .ife (.cmp .le (.var 9) (.int 20)) [.asg (.v 10) (.lc c_law_right_45_3 (.v 13) .plain [.bi .sorted [.bi .set [.var 3]]] .nop [13]), .ife (.cmp .ne (.var 10) (.call 145 [.var 6, .var 7])) [.ret (.bl false)] []] [], .asg (.tup [.v 11, .v 12]) (.call 55 [.var 6, .var 7]), .ife (.cmp .ne (.lst [.var 11, .var 12]) (.lst [.umt 13 (.var 6) [.call 170 [.var 6, .var 7, .int 0]], .umt 13 (.var 6) [.call 170 [.var 6, .var 7, .bin .sub (.var 2) (.int 1)]]])) [.ret (.bl false)] [], .ret (.call 453 [.var 0, .var 6, .var 7, .call 133 [.var 0, .bin .add (.bin .add (.var 4) (.var 5)) (.int 1)]])]⟩
def l_law_53_1 : List S := [.ife (.not (.call 454 [.var 2, .var 3])) [.ret (.bl false)] []]
def l_law_53_2 : List S := [.asg (.v 2) (.call 132 [.var 1]), .for_ (.v 3) .plain [.tup [.int 3, .int 8, .int 100]] l_law_53_1]
def b_law_53 : Df := ⟨1, 4, [.for_ (.v 1) .plain [.bin .add (.slc (.var 0) .nop (.int 5)) (.lst [.int 0])] l_law_53_2, .ret (.bl true)]⟩
def l_law_same_right_1 : List S := [.ife (.cmp .ne (.lst [.call 54 [.var 9, .var 7], .call 145 [.var 9, .var 7]]) (.var 8)) [.ret (.bl false)] [], .ife (.cmp .ne (.lst [.call 54 [.var 9, .var 6], .call 145 [.var 9, .var 6]]) (.var 8)) [.ret (.bl false)] []]
def b_law_same_right : Df := ⟨6, 16, [.par [12, 13] [.mth .count (.var 3) [.str [120]], .mth .count (.var 3) [.str [121]]], .asg (.v 6) (.call 139 [.var 0, .var 12, .var 13]), .par [14, 15] [.bin .shl (.call 133 [.var 0, .bin .shl (.int 1) (.bin .sub (.var 4) (.var 12))]) (.var 12), .bin .shl (.call 133 [.var 0, .bin .shl (.int 1) (.bin .sub (.var 5) (.var 13))]) (.var 13)], .asg (.v 7) (.tup [.bin .add (.sub (.var 6) (.int 0)) (.var 14), .bin .add (.sub (.var 6) (.int 1)) (.var 15), .bin .add (.sub (.var 6) (.int 2)) (.var 14), .bin .add (.sub (.var 6) (.int 3)) (.var 15)]), .asg (.v 8) (.lst [.call 54 [.var 1, .var 6], .call 145 [.var 1, .var 6]]), .for_ (.v 9) .plain [.tup [.var 1, .var 2]] l_law_same_right_1, .asg (.v 10) (.call 133 [.var 0, .bin .add (.bi .len [.var 3]) (.int 1)]), .ife (.cmp .ne (.call 146 [.var 1, .var 6, .var 10]) (.call 146 [.var 2, .var 7, .var 10])) [.ret (.bl false)] [], .asg (.v 11) (.tup [.bin .add (.sub (.var 6) (.int 0)) (.call 133 [.var 0, .bin .add (.bin .sub (.sub (.var 6) (.int 2)) (.sub (.var 6) (.int 0))) (.int 1)]), .sub (.var 6) (.int 3)]), .ife (.cmp .ne (.umt 13 (.var 1) [.var 11]) (.umt 13 (.var 2) [.var 11])) [.ret (.bl false)] [], .ret (.cmp .eq (.call 169 [.var 1, .var 6, .umt 13 (.var 1) [.var 11]]) (.call 169 [.var 2, .var 7, .umt 13 (.var 2) [.tup [.bin .add (.sub (.var 11) (.int 0)) (.var 14), .bin .add (.sub (.var 11) (.int 1)) (.var 15)]]]))]⟩
def c_law_right_47_1 : E := .sub (.call 55 [.var 16, .var 6]) (.int 0)
def c_law_right_47_2 : E := .sub (.call 55 [.var 16, .var 6]) (.int 1)
def c_law_right_47_3 : E := .call 54 [.var 16, .var 6]
def b_law_right_47 : Df := ⟨2, 17, [.asg (.tup [.v 8, .v 9]) (.call 135 [.var 0, .var 1]), .asg (.v 2) (.call 134 [.var 0, .var 8, .var 9]), .asg (.v 3) (.call 133 [.var 0, .bin .add (.bi .len [.var 2]) (.int 1)]), .asg (.v 4) (.slc (.var 2) .nop (.var 3)), .asg (.v 5) (.bin .add (.call 134 [.var 0, .mth .count (.var 4) [.str [120]], .mth .count (.var 4) [.str [121]]]) (.slc (.var 2) (.var 3) .nop)), .par [10, 11] [.new 0 [.var 2], .new 0 [.var 5]], .ife (.not (.call 461 [.var 0, .var 10, .var 11, .slc (.var 2) (.var 3) .nop, .var 8, .var 9])) [.ret (.bl false)] [], .asg (.v 6) (.call 204 [.var 10, .var 11]), .ife (.isn (.var 6)) [.ret (.cmp .eq (.var 2) (.var 5))] [], .par [12, 13] [.lc c_law_right_47_1 (.v 16) .plain [.tup [.var 10, .var 11]] .nop [16], .lc c_law_right_47_2 (.v 16) .plain [.tup [.var 10, .var 11]] .nop [16]], .asg (.v 7) (.lc c_law_right_47_3 (.v 16) .plain [.tup [.var 10, .var 11]] .nop [16]), .ife (.or (.cmp .ne (.var 12) (.lst [.int 0, .int 0])) (.or (.cmp .ne (.bi .sorted [.var 7]) (.lst [.int 1, .int 2])) (.cmp .ne (.cmp .lt (.sub (.var 13) (.int 0)) (.sub (.var 13) (.int 1))) (.cmp .eq (.sub (.var 7) (.int 0)) (.int 1))))) [.ret (.bl false)] [], .par [14, 15] [.tup [.sub (.var 6) (.int 2), .int 0], .tup [.int 0, .bin .add (.sub (.var 6) (.int 3)) (.int 1)]], .ife (.and (.cmp .lt (.bin .add (.sub (.var 6) (.int 3)) (.int 1)) (.bin .shl (.int 1) (.var 9))) (.and (.cmp .lt (.umt 13 (.var 10) [.var 14]) (.umt 13 (.var 10) [.var 15])) (.cmp .gt (.umt 13 (.var 11) [.var 14]) (.umt 13 (.var 11) [.var 15])))) [.ret (.cmp .lt (.int 0) (.call 211 [.var 8, .var 9, .var 14, .var 15]))] [], .ret (.bl true)]⟩
def l_law_55_1 : List S := [.ife (.not (.call 462 [.var 2, .var 3])) [.ret (.bl false)] []]
def l_law_55_2 : List S := [.asg (.v 2) (.call 132 [.var 1]), .for_ (.v 3) .plain [.tup [.int 4, .int 20, .int 100]] l_law_55_1]
def b_law_55 : Df := ⟨1, 4, [.for_ (.v 1) .plain [.bin .add (.slc (.var 0) .nop (.int 5)) (.lst [.int 0])] l_law_55_2, .ret (.bl true)]⟩
def l_law_whole_right_1 : List S := [.asg (.v 5) (.umt 14 (.var 1) [.var 4]), .ife (.or (.cmp .ne (.call 169 [.var 1, .var 2, .var 4]) (.var 4)) (.or (.cmp .ne (.call 170 [.var 1, .var 2, .var 4]) (.var 5)) (.cmp .ne (.umt 13 (.var 1) [.var 5]) (.var 4)))) [.ret (.bl false)] [], .ife (.or (.cmp .ne (.call 173 [.var 1, .var 2, .var 4]) (.var 5)) (.cmp .ne (.call 174 [.var 1, .var 2, .var 4]) (.var 5))) [.ret (.bl false)] [], .ife (.cmp .ne (.call 131 [.var 1, .var 2, .var 5]) (.tup [.int 0, .var 3])) [.ret (.bl false)] [], .asg (.v 6) (.tup [.sub (.var 5) (.int 0), .sub (.var 5) (.int 1), .sub (.var 5) (.int 0), .sub (.var 5) (.int 1)]), .ife (.cmp .ne (.lst [.call 54 [.var 1, .var 6], .call 129 [.var 1, .var 6], .call 55 [.var 1, .var 6]]) (.lst [.int 1, .int 1, .tup [.var 4, .var 4]])) [.ret (.bl false)] []]
def b_law_whole_right : Df := ⟨4, 7, [.ife (.cmp .ne (.lst [.call 54 [.var 1, .var 2], .call 129 [.var 1, .var 2], .call 146 [.var 1, .var 2, .bi .len [.prp 9 (.var 1)]]]) (.lst [.int 1, .int 1, .int 1])) [.ret (.bl false)] [], .ife (.or (.cmp .ne (.call 145 [.var 1, .var 2]) (.lst [.tup [.bi .len [.prp 9 (.var 1)], .int 1]])) (.cmp .ne (.call 55 [.var 1, .var 2]) (.tup [.int 0, .var 3]))) [.ret (.bl false)] [], .ife (.or (.cmp .ne (.bi .sum [.call 61 [.var 1, .var 2]]) (.var 3)) (.cmp .ne (.bi .len [.call 61 [.var 1, .var 2]]) (.bi .len [.prp 9 (.var 1)]))) [.ret (.bl false)] [], .for_ (.v 4) .plain [.tup [.int 0, .var 3, .call 133 [.var 0, .bin .add (.var 3) (.int 1)]]] l_law_whole_right_1, .ret (.bl true)]⟩
def b_law_block : Df := ⟨3, 6, [.asg (.v 3) (.bin .shl (.bin .shr (.var 1) (.var 2)) (.var 2)), .asg (.v 4) (.umt 14 (.var 0) [.var 3]), .asg (.v 5) (.umt 14 (.var 0) [.bin .sub (.bin .add (.var 3) (.bin .shl (.int 1) (.var 2))) (.int 1)]), .ret (.tup [.sub (.var 4) (.int 0), .sub (.var 4) (.int 1), .sub (.var 5) (.int 0), .sub (.var 5) (.int 1)])]⟩
def l_law_right_49_1 : List S := [.par [10, 11] [.call 133 [.var 0, .bin .add (.bi .len [.prp 9 (.var 6)]) (.int 1)], .call 133 [.var 0, .bin .add (.var 7) (.int 1)]], .asg (.v 8) (.call 468 [.var 6, .var 11, .var 10]), .ife (.cmp .ne (.lst [.call 54 [.var 6, .var 8], .call 145 [.var 6, .var 8], .call 146 [.var 6, .var 8, .var 10]]) (.lst [.int 1, .lst [.tup [.var 10, .int 1]], .int 1])) [.ret (.bl false)] [], .ife (.cmp .ne (.call 55 [.var 6, .var 8]) (.tup [.bin .shl (.bin .shr (.var 11) (.var 10)) (.var 10), .bin .sub (.bin .add (.bin .shl (.bin .shr (.var 11) (.var 10)) (.var 10)) (.bin .shl (.int 1) (.var 10))) (.int 1)])) [.ret (.bl false)] [], .asg (.v 9) (.bin .shl (.bin .add (.bin .shr (.var 11) (.var 10)) (.int 1)) (.var 10)), .ife (.cmp .le (.var 9) (.var 7)) [.asg (.v 12) (.call 468 [.var 6, .var 9, .var 10]), .ife (.cmp .ne (.lst [.call 189 [.var 6, .lst [.var 8, .var 12]], .call 190 [.var 6, .lst [.var 12, .var 8]]]) (.lst [.bin .shl (.int 2) (.var 10), .int 1])) [.ret (.bl false)] []] []]
def b_law_right_49 : Df := ⟨2, 13, [.asg (.tup [.v 4, .v 5]) (.call 135 [.var 0, .var 1]), .par [6, 7] [.new 0 [.call 134 [.var 0, .var 4, .var 5]], .bin .sub (.bin .shl (.int 1) (.bin .add (.var 4) (.var 5))) (.int 1)], .asg (.v 2) (.tup [.int 0, .int 0, .bin .sub (.bin .shl (.int 1) (.var 4)) (.int 1), .bin .sub (.bin .shl (.int 1) (.var 5)) (.int 1)]), .ife (.not (.call 467 [.var 0, .var 6, .var 2, .var 7])) [.ret (.bl false)] [], .for_ (.v 3) .rng [.int 3] l_law_right_49_1, .ret (.bl true)]⟩
def nmF : Nat → Str
  | 1 => Str.ofString "is_int"
  | 2 => Str.ofString "is_whole"
  | 24 => Str.ofString "require_bits"
  | 3 => Str.ofString "require_cell"
  | 209 => Str.ofString "choices"
  | 210 => Str.ofString "words_with_x_ahead"
  | 211 => Str.ofString "count_ahead"
  | 132 => Str.ofString "_law_bag"
  | 133 => Str.ofString "_law_pick"
  | 136 => Str.ofString "_law_key"
  | 137 => Str.ofString "_law_cell"
  | 212 => Str.ofString "_law_words"
  | 213 => Str.ofString "_law_right"
  | 214 => Str.ofString "_law_some_cell"
  | 215 => Str.ofString "law"
  | 4 => Str.ofString "require_key"
  | 5 => Str.ofString "feet_of"
  | 6 => Str.ofString "key_of"
  | 7 => Str.ofString "cell_of"
  | 8 => Str.ofString "__init__"
  | 9 => Str.ofString "word"
  | 10 => Str.ofString "x_bits"
  | 11 => Str.ofString "y_bits"
  | 12 => Str.ofString "__eq__"
  | 13 => Str.ofString "key"
  | 14 => Str.ofString "cell"
  | 15 => Str.ofString "_law_wound"
  | 16 => Str.ofString "_law_spin"
  | 17 => Str.ofString "_law_drawn_word"
  | 18 => Str.ofString "_law_power"
  | 19 => Str.ofString "_law_key_of"
  | 20 => Str.ofString "_law_digit"
  | 21 => Str.ofString "_law_right"
  | 22 => Str.ofString "_law_all_right"
  | 23 => Str.ofString "law"
  | 25 => Str.ofString "rows"
  | 26 => Str.ofString "columns"
  | 27 => Str.ofString "laced"
  | 28 => Str.ofString "tiled"
  | 29 => Str.ofString "_law_right"
  | 30 => Str.ofString "law"
  | 44 => Str.ofString "is_box"
  | 45 => Str.ofString "require_layout"
  | 46 => Str.ofString "require_box"
  | 47 => Str.ofString "area_of"
  | 48 => Str.ofString "multiples"
  | 49 => Str.ofString "odd_multiples"
  | 50 => Str.ofString "aligned"
  | 51 => Str.ofString "inner_odd"
  | 52 => Str.ofString "box_saves"
  | 53 => Str.ofString "runs_in"
  | 54 => Str.ofString "count_runs"
  | 55 => Str.ofString "ends"
  | 56 => Str.ofString "_law_drawn_box"
  | 57 => Str.ofString "_law_listed_keys"
  | 58 => Str.ofString "_law_stretches"
  | 59 => Str.ofString "_law_right"
  | 60 => Str.ofString "law"
  | 61 => Str.ofString "saved"
  | 62 => Str.ofString "_law_rank"
  | 63 => Str.ofString "_law_right"
  | 64 => Str.ofString "law"
  | 65 => Str.ofString "_law_multiples"
  | 66 => Str.ofString "_law_saved"
  | 67 => Str.ofString "_law_near_box"
  | 68 => Str.ofString "_law_cut_right"
  | 69 => Str.ofString "_law_right"
  | 70 => Str.ofString "law"
  | 93 => Str.ofString "require_cell_of"
  | 125 => Str.ofString "forms_of"
  | 126 => Str.ofString "blocks_within"
  | 127 => Str.ofString "blocks_in"
  | 128 => Str.ofString "require_layout_and_box"
  | 129 => Str.ofString "count_blocks"
  | 130 => Str.ofString "is_within"
  | 131 => Str.ofString "block_of"
  | 134 => Str.ofString "_law_word"
  | 135 => Str.ofString "_law_bits"
  | 138 => Str.ofString "_law_side"
  | 139 => Str.ofString "_law_box"
  | 140 => Str.ofString "_law_keys"
  | 141 => Str.ofString "_law_stretches"
  | 142 => Str.ofString "_law_right"
  | 143 => Str.ofString "law"
  | 144 => Str.ofString "pages_in"
  | 145 => Str.ofString "block_sizes"
  | 146 => Str.ofString "count_pages"
  | 147 => Str.ofString "_law_sizes"
  | 148 => Str.ofString "_law_right"
  | 149 => Str.ofString "law"
  | 150 => Str.ofString "_law_within"
  | 151 => Str.ofString "_law_block_right"
  | 152 => Str.ofString "_law_due"
  | 153 => Str.ofString "_law_pages_right"
  | 154 => Str.ofString "_law_right"
  | 155 => Str.ofString "law"
  | 164 => Str.ofString "common"
  | 165 => Str.ofString "cells_in"
  | 166 => Str.ofString "rank_in"
  | 167 => Str.ofString "cell_in"
  | 168 => Str.ofString "require_place_in"
  | 169 => Str.ofString "rank"
  | 170 => Str.ofString "cell_at"
  | 171 => Str.ofString "_law_right"
  | 172 => Str.ofString "law"
  | 173 => Str.ofString "next_cell"
  | 174 => Str.ofString "last_cell"
  | 175 => Str.ofString "_law_small_right"
  | 176 => Str.ofString "_law_great_right"
  | 177 => Str.ofString "law"
  | 178 => Str.ofString "_law_stretch"
  | 179 => Str.ofString "_law_rank"
  | 180 => Str.ofString "_law_right"
  | 181 => Str.ofString "law"
  | 32 => Str.ofString "__init__"
  | 185 => Str.ofString "require_boxes"
  | 186 => Str.ofString "common_box"
  | 187 => Str.ofString "signed_parts"
  | 188 => Str.ofString "pairs_of"
  | 189 => Str.ofString "cells_of"
  | 190 => Str.ofString "runs_of"
  | 191 => Str.ofString "_law_boxes"
  | 192 => Str.ofString "_law_right"
  | 193 => Str.ofString "law"
  | 194 => Str.ofString "_law_area"
  | 195 => Str.ofString "_law_same"
  | 196 => Str.ofString "_law_within"
  | 197 => Str.ofString "_law_parts_right"
  | 198 => Str.ofString "_law_grown_right"
  | 199 => Str.ofString "_law_right"
  | 200 => Str.ofString "law"
  | 204 => Str.ofString "parting_box"
  | 205 => Str.ofString "_law_runs"
  | 206 => Str.ofString "_law_exchanged"
  | 207 => Str.ofString "_law_right"
  | 208 => Str.ofString "law"
  | 216 => Str.ofString "_law_every"
  | 217 => Str.ofString "_law_parted_right"
  | 218 => Str.ofString "_law_ahead"
  | 219 => Str.ofString "_law_cells_right"
  | 220 => Str.ofString "law"
  | 447 => Str.ofString "_law_cut"
  | 448 => Str.ofString "_law_right"
  | 449 => Str.ofString "law"
  | 452 => Str.ofString "_law_walk"
  | 453 => Str.ofString "_law_pages_right"
  | 454 => Str.ofString "_law_right"
  | 455 => Str.ofString "law"
  | 461 => Str.ofString "_law_same_right"
  | 462 => Str.ofString "_law_right"
  | 463 => Str.ofString "law"
  | 467 => Str.ofString "_law_whole_right"
  | 468 => Str.ofString "_law_block"
  | 469 => Str.ofString "_law_right"
  | _ => Str.ofString ""
def tbI : Nat → Option Nat
  | 133 => some 0
  | 214 => some 0
  | 8 => some 0
  | 16 => some 0
  | 17 => some 0
  | 21 => some 0
  | 22 => some 0
  | 29 => some 0
  | 56 => some 0
  | 59 => some 0
  | 63 => some 0
  | 67 => some 0
  | 68 => some 0
  | 69 => some 0
  | 134 => some 0
  | 135 => some 0
  | 138 => some 0
  | 139 => some 0
  | 142 => some 0
  | 148 => some 0
  | 153 => some 0
  | 154 => some 0
  | 171 => some 0
  | 175 => some 0
  | 176 => some 0
  | 180 => some 0
  | 32 => some 0
  | 191 => some 0
  | 192 => some 0
  | 196 => some 0
  | 197 => some 0
  | 198 => some 0
  | 199 => some 0
  | 206 => some 0
  | 207 => some 0
  | 217 => some 0
  | 219 => some 0
  | 447 => some 0
  | 448 => some 0
  | 453 => some 0
  | 454 => some 0
  | 461 => some 0
  | 462 => some 0
  | 467 => some 0
  | 469 => some 0
  | _ => none
def tbG : Nat → D
  | 2 => .int 100
  | 3 => .int 3
  | _ => .non
def tbN : Nat → Nat
  | 0 => 8
  | _ => 0
def tbQ : Nat → Option Nat
  | 0 => some 12
  | _ => none
def tbM : Nat → Nat → Bool
  | 9, 0 => true
  | 10, 0 => true
  | 11, 0 => true
  | 12, 0 => true
  | 13, 0 => true
  | 14, 0 => true
  | _, _ => false
def tbB : Nat → Df
  | 1 => b_is_int
  | 2 => b_is_whole
  | 24 => b_require_bits
  | 3 => b_require_cell
  | 209 => b_choices
  | 210 => b_words_with_x_ahead
  | 211 => b_count_ahead
  | 132 => b_law_bag
  | 133 => b_law_pick
  | 136 => b_law_key
  | 137 => b_law_cell
  | 212 => b_law_words
  | 213 => b_law_right_25
  | 214 => b_law_some_cell
  | 215 => b_law_24
  | 4 => b_require_key
  | 5 => b_feet_of
  | 6 => b_key_of
  | 7 => b_cell_of
  | 8 => b_Layout___init
  | 9 => b_Layout_word
  | 10 => b_Layout_x_bits
  | 11 => b_Layout_y_bits
  | 12 => b_Layout___eq
  | 13 => b_Layout_key
  | 14 => b_Layout_cell
  | 15 => b_law_wound
  | 16 => b_law_spin
  | 17 => b_law_drawn_word
  | 18 => b_law_power
  | 19 => b_law_key_of
  | 20 => b_law_digit
  | 21 => b_law_right
  | 22 => b_law_all_right
  | 23 => b_law
  | 25 => b_rows
  | 26 => b_columns
  | 27 => b_laced
  | 28 => b_tiled
  | 29 => b_law_right_2
  | 30 => b_law_2
  | 44 => b_is_box
  | 45 => b_require_layout
  | 46 => b_require_box
  | 47 => b_area_of
  | 48 => b_multiples
  | 49 => b_odd_multiples
  | 50 => b_aligned
  | 51 => b_inner_odd
  | 52 => b_box_saves
  | 53 => b_runs_in
  | 54 => b_count_runs
  | 55 => b_ends
  | 56 => b_law_drawn_box
  | 57 => b_law_listed_keys
  | 58 => b_law_stretches
  | 59 => b_law_right_3
  | 60 => b_law_4
  | 61 => b_saved
  | 62 => b_law_rank
  | 63 => b_law_right_4
  | 64 => b_law_5
  | 65 => b_law_multiples
  | 66 => b_law_saved
  | 67 => b_law_near_box
  | 68 => b_law_cut_right
  | 69 => b_law_right_5
  | 70 => b_law_6
  | 93 => b_require_cell_of
  | 125 => b_forms_of
  | 126 => b_blocks_within
  | 127 => b_blocks_in
  | 128 => b_require_layout_and_box
  | 129 => b_count_blocks
  | 130 => b_is_within
  | 131 => b_block_of
  | 134 => b_law_word
  | 135 => b_law_bits
  | 138 => b_law_side
  | 139 => b_law_box
  | 140 => b_law_keys
  | 141 => b_law_stretches_2
  | 142 => b_law_right_14
  | 143 => b_law_14
  | 144 => b_pages_in
  | 145 => b_block_sizes
  | 146 => b_count_pages
  | 147 => b_law_sizes
  | 148 => b_law_right_15
  | 149 => b_law_15
  | 150 => b_law_within
  | 151 => b_law_block_right
  | 152 => b_law_due
  | 153 => b_law_pages_right
  | 154 => b_law_right_16
  | 155 => b_law_16
  | 164 => b_common
  | 165 => b_cells_in
  | 166 => b_rank_in
  | 167 => b_cell_in
  | 168 => b_require_place_in
  | 169 => b_rank
  | 170 => b_cell_at
  | 171 => b_law_right_18
  | 172 => b_law_18
  | 173 => b_next_cell
  | 174 => b_last_cell
  | 175 => b_law_small_right
  | 176 => b_law_great_right
  | 177 => b_law_19
  | 178 => b_law_stretch
  | 179 => b_law_rank_2
  | 180 => b_law_right_19
  | 181 => b_law_20
  | 32 => b_InvalidBoxes___init
  | 185 => b_require_boxes
  | 186 => b_common_box
  | 187 => b_signed_parts
  | 188 => b_pairs_of
  | 189 => b_cells_of
  | 190 => b_runs_of
  | 191 => b_law_boxes
  | 192 => b_law_right_21
  | 193 => b_law_21
  | 194 => b_law_area
  | 195 => b_law_same
  | 196 => b_law_within_2
  | 197 => b_law_parts_right
  | 198 => b_law_grown_right
  | 199 => b_law_right_22
  | 200 => b_law_22
  | 204 => b_parting_box
  | 205 => b_law_runs
  | 206 => b_law_exchanged
  | 207 => b_law_right_24
  | 208 => b_law_23
  | 216 => b_law_every
  | 217 => b_law_parted_right
  | 218 => b_law_ahead
  | 219 => b_law_cells_right
  | 220 => b_law_25
  | 447 => b_law_cut
  | 448 => b_law_right_43
  | 449 => b_law_52
  | 452 => b_law_walk
  | 453 => b_law_pages_right_3
  | 454 => b_law_right_45
  | 455 => b_law_53
  | 461 => b_law_same_right
  | 462 => b_law_right_47
  | 463 => b_law_55
  | 467 => b_law_whole_right
  | 468 => b_law_block
  | 469 => b_law_right_49
  | _ => ⟨0, 0, []⟩
def TT0 : Tab := ⟨fun _ _ => .bad, tbI, tbG, tbN, tbQ, tbM, nmF⟩
def tbX : Nat → Option Fn
  | 12 => some G_Layout___eq
  | _ => none
noncomputable def TT : Tab := Tab.fix TT0 tbB tbX
noncomputable def TTq : Tab := { TT with eqf := fun _ => none }
@[simp] theorem io_1 : TT.io 1 = none := rfl
@[simp] theorem io_2 : TT.io 2 = none := rfl
@[simp] theorem io_24 : TT.io 24 = none := rfl
@[simp] theorem io_3 : TT.io 3 = none := rfl
@[simp] theorem io_209 : TT.io 209 = none := rfl
@[simp] theorem io_210 : TT.io 210 = none := rfl
@[simp] theorem io_211 : TT.io 211 = none := rfl
@[simp] theorem io_132 : TT.io 132 = none := rfl
@[simp] theorem io_133 : TT.io 133 = some 0 := rfl
@[simp] theorem io_136 : TT.io 136 = none := rfl
@[simp] theorem io_137 : TT.io 137 = none := rfl
@[simp] theorem io_212 : TT.io 212 = none := rfl
@[simp] theorem io_213 : TT.io 213 = none := rfl
@[simp] theorem io_214 : TT.io 214 = some 0 := rfl
@[simp] theorem io_215 : TT.io 215 = none := rfl
@[simp] theorem io_4 : TT.io 4 = none := rfl
@[simp] theorem io_5 : TT.io 5 = none := rfl
@[simp] theorem io_6 : TT.io 6 = none := rfl
@[simp] theorem io_7 : TT.io 7 = none := rfl
@[simp] theorem io_8 : TT.io 8 = some 0 := rfl
@[simp] theorem io_9 : TT.io 9 = none := rfl
@[simp] theorem io_10 : TT.io 10 = none := rfl
@[simp] theorem io_11 : TT.io 11 = none := rfl
@[simp] theorem io_12 : TT.io 12 = none := rfl
@[simp] theorem io_13 : TT.io 13 = none := rfl
@[simp] theorem io_14 : TT.io 14 = none := rfl
@[simp] theorem io_15 : TT.io 15 = none := rfl
@[simp] theorem io_16 : TT.io 16 = some 0 := rfl
@[simp] theorem io_17 : TT.io 17 = some 0 := rfl
@[simp] theorem io_18 : TT.io 18 = none := rfl
@[simp] theorem io_19 : TT.io 19 = none := rfl
@[simp] theorem io_20 : TT.io 20 = none := rfl
@[simp] theorem io_21 : TT.io 21 = some 0 := rfl
@[simp] theorem io_22 : TT.io 22 = some 0 := rfl
@[simp] theorem io_23 : TT.io 23 = none := rfl
@[simp] theorem io_25 : TT.io 25 = none := rfl
@[simp] theorem io_26 : TT.io 26 = none := rfl
@[simp] theorem io_27 : TT.io 27 = none := rfl
@[simp] theorem io_28 : TT.io 28 = none := rfl
@[simp] theorem io_29 : TT.io 29 = some 0 := rfl
@[simp] theorem io_30 : TT.io 30 = none := rfl
@[simp] theorem io_44 : TT.io 44 = none := rfl
@[simp] theorem io_45 : TT.io 45 = none := rfl
@[simp] theorem io_46 : TT.io 46 = none := rfl
@[simp] theorem io_47 : TT.io 47 = none := rfl
@[simp] theorem io_48 : TT.io 48 = none := rfl
@[simp] theorem io_49 : TT.io 49 = none := rfl
@[simp] theorem io_50 : TT.io 50 = none := rfl
@[simp] theorem io_51 : TT.io 51 = none := rfl
@[simp] theorem io_52 : TT.io 52 = none := rfl
@[simp] theorem io_53 : TT.io 53 = none := rfl
@[simp] theorem io_54 : TT.io 54 = none := rfl
@[simp] theorem io_55 : TT.io 55 = none := rfl
@[simp] theorem io_56 : TT.io 56 = some 0 := rfl
@[simp] theorem io_57 : TT.io 57 = none := rfl
@[simp] theorem io_58 : TT.io 58 = none := rfl
@[simp] theorem io_59 : TT.io 59 = some 0 := rfl
@[simp] theorem io_60 : TT.io 60 = none := rfl
@[simp] theorem io_61 : TT.io 61 = none := rfl
@[simp] theorem io_62 : TT.io 62 = none := rfl
@[simp] theorem io_63 : TT.io 63 = some 0 := rfl
@[simp] theorem io_64 : TT.io 64 = none := rfl
@[simp] theorem io_65 : TT.io 65 = none := rfl
@[simp] theorem io_66 : TT.io 66 = none := rfl
@[simp] theorem io_67 : TT.io 67 = some 0 := rfl
@[simp] theorem io_68 : TT.io 68 = some 0 := rfl
@[simp] theorem io_69 : TT.io 69 = some 0 := rfl
@[simp] theorem io_70 : TT.io 70 = none := rfl
@[simp] theorem io_93 : TT.io 93 = none := rfl
@[simp] theorem io_125 : TT.io 125 = none := rfl
@[simp] theorem io_126 : TT.io 126 = none := rfl
@[simp] theorem io_127 : TT.io 127 = none := rfl
@[simp] theorem io_128 : TT.io 128 = none := rfl
@[simp] theorem io_129 : TT.io 129 = none := rfl
@[simp] theorem io_130 : TT.io 130 = none := rfl
@[simp] theorem io_131 : TT.io 131 = none := rfl
@[simp] theorem io_134 : TT.io 134 = some 0 := rfl
@[simp] theorem io_135 : TT.io 135 = some 0 := rfl
@[simp] theorem io_138 : TT.io 138 = some 0 := rfl
@[simp] theorem io_139 : TT.io 139 = some 0 := rfl
@[simp] theorem io_140 : TT.io 140 = none := rfl
@[simp] theorem io_141 : TT.io 141 = none := rfl
@[simp] theorem io_142 : TT.io 142 = some 0 := rfl
@[simp] theorem io_143 : TT.io 143 = none := rfl
@[simp] theorem io_144 : TT.io 144 = none := rfl
@[simp] theorem io_145 : TT.io 145 = none := rfl
@[simp] theorem io_146 : TT.io 146 = none := rfl
@[simp] theorem io_147 : TT.io 147 = none := rfl
@[simp] theorem io_148 : TT.io 148 = some 0 := rfl
@[simp] theorem io_149 : TT.io 149 = none := rfl
@[simp] theorem io_150 : TT.io 150 = none := rfl
@[simp] theorem io_151 : TT.io 151 = none := rfl
@[simp] theorem io_152 : TT.io 152 = none := rfl
@[simp] theorem io_153 : TT.io 153 = some 0 := rfl
@[simp] theorem io_154 : TT.io 154 = some 0 := rfl
@[simp] theorem io_155 : TT.io 155 = none := rfl
@[simp] theorem io_164 : TT.io 164 = none := rfl
@[simp] theorem io_165 : TT.io 165 = none := rfl
@[simp] theorem io_166 : TT.io 166 = none := rfl
@[simp] theorem io_167 : TT.io 167 = none := rfl
@[simp] theorem io_168 : TT.io 168 = none := rfl
@[simp] theorem io_169 : TT.io 169 = none := rfl
@[simp] theorem io_170 : TT.io 170 = none := rfl
@[simp] theorem io_171 : TT.io 171 = some 0 := rfl
@[simp] theorem io_172 : TT.io 172 = none := rfl
@[simp] theorem io_173 : TT.io 173 = none := rfl
@[simp] theorem io_174 : TT.io 174 = none := rfl
@[simp] theorem io_175 : TT.io 175 = some 0 := rfl
@[simp] theorem io_176 : TT.io 176 = some 0 := rfl
@[simp] theorem io_177 : TT.io 177 = none := rfl
@[simp] theorem io_178 : TT.io 178 = none := rfl
@[simp] theorem io_179 : TT.io 179 = none := rfl
@[simp] theorem io_180 : TT.io 180 = some 0 := rfl
@[simp] theorem io_181 : TT.io 181 = none := rfl
@[simp] theorem io_32 : TT.io 32 = some 0 := rfl
@[simp] theorem io_185 : TT.io 185 = none := rfl
@[simp] theorem io_186 : TT.io 186 = none := rfl
@[simp] theorem io_187 : TT.io 187 = none := rfl
@[simp] theorem io_188 : TT.io 188 = none := rfl
@[simp] theorem io_189 : TT.io 189 = none := rfl
@[simp] theorem io_190 : TT.io 190 = none := rfl
@[simp] theorem io_191 : TT.io 191 = some 0 := rfl
@[simp] theorem io_192 : TT.io 192 = some 0 := rfl
@[simp] theorem io_193 : TT.io 193 = none := rfl
@[simp] theorem io_194 : TT.io 194 = none := rfl
@[simp] theorem io_195 : TT.io 195 = none := rfl
@[simp] theorem io_196 : TT.io 196 = some 0 := rfl
@[simp] theorem io_197 : TT.io 197 = some 0 := rfl
@[simp] theorem io_198 : TT.io 198 = some 0 := rfl
@[simp] theorem io_199 : TT.io 199 = some 0 := rfl
@[simp] theorem io_200 : TT.io 200 = none := rfl
@[simp] theorem io_204 : TT.io 204 = none := rfl
@[simp] theorem io_205 : TT.io 205 = none := rfl
@[simp] theorem io_206 : TT.io 206 = some 0 := rfl
@[simp] theorem io_207 : TT.io 207 = some 0 := rfl
@[simp] theorem io_208 : TT.io 208 = none := rfl
@[simp] theorem io_216 : TT.io 216 = none := rfl
@[simp] theorem io_217 : TT.io 217 = some 0 := rfl
@[simp] theorem io_218 : TT.io 218 = none := rfl
@[simp] theorem io_219 : TT.io 219 = some 0 := rfl
@[simp] theorem io_220 : TT.io 220 = none := rfl
@[simp] theorem io_447 : TT.io 447 = some 0 := rfl
@[simp] theorem io_448 : TT.io 448 = some 0 := rfl
@[simp] theorem io_449 : TT.io 449 = none := rfl
@[simp] theorem io_452 : TT.io 452 = none := rfl
@[simp] theorem io_453 : TT.io 453 = some 0 := rfl
@[simp] theorem io_454 : TT.io 454 = some 0 := rfl
@[simp] theorem io_455 : TT.io 455 = none := rfl
@[simp] theorem io_461 : TT.io 461 = some 0 := rfl
@[simp] theorem io_462 : TT.io 462 = some 0 := rfl
@[simp] theorem io_463 : TT.io 463 = none := rfl
@[simp] theorem io_467 : TT.io 467 = some 0 := rfl
@[simp] theorem io_468 : TT.io 468 = none := rfl
@[simp] theorem io_469 : TT.io 469 = some 0 := rfl
@[simp] theorem gl_2 : TT.gl 2 = .int 100 := rfl
@[simp] theorem gl_3 : TT.gl 3 = .int 3 := rfl
@[simp] theorem ini_0 : TT.ini 0 = 8 := rfl
@[simp] theorem eqf_0 : TT.eqf 0 = some 12 := rfl
@[simp] theorem mem_9_0 : TT.mem 9 0 = true := rfl
@[simp] theorem mem_10_0 : TT.mem 10 0 = true := rfl
@[simp] theorem mem_11_0 : TT.mem 11 0 = true := rfl
@[simp] theorem mem_12_0 : TT.mem 12 0 = true := rfl
@[simp] theorem mem_13_0 : TT.mem 13 0 = true := rfl
@[simp] theorem mem_14_0 : TT.mem 14 0 = true := rfl
@[simp] theorem nm_12 : TT.nm 12 = Str.ofString "__eq__" := rfl
@[simp] theorem nm_13 : TT.nm 13 = Str.ofString "key" := rfl
@[simp] theorem nm_14 : TT.nm 14 = Str.ofString "cell" := rfl
theorem tt_run {f : Nat} {ds : List D} {r : FR} (n : Nat) (e : runD TT (tbI f) n (tbB f) ds = r) (hr : r ≠ .bad) (hx : tbX f = none := by rfl) : TT.G f ds = r := fix_run hx n e hr
end PyV
set_option Elab.async false
set_option linter.all false
set_option maxRecDepth 100000
set_option maxHeartbeats 4000000
namespace PyV
open PySem
theorem eq_known : ∀ ds, TT.G 12 ds ≠ .bad → ∃ n, runD TTq none n b_Layout___eq ds = TT.G 12 ds := fun ds h => by
  have e := fix_giv_known (T := TT0) (bd := tbB) (ex := tbX) (f := 12) rfl h
  have h2 : G_Layout___eq ds ≠ .bad := fun z => h (e.trans z)
  obtain ⟨n, hn⟩ := r_Layout___eq TTq ds h2
  exact ⟨n, hn.trans e.symm⟩
@[simp] theorem s_Layout_eq (w v : List Nat) : TT.G 12 [.obj 0 [ow] [.str w], .obj 0 [ow] [.str v]] = .ok (.bl (decide (w = v))) false none := by
  have h := fix_giv (T := TT0) (bd := tbB) (ex := tbX) (f := 12) (ds := [.obj 0 [ow] [.str w], .obj 0 [ow] [.str v]]) (F := G_Layout___eq) rfl (by simp)
  exact h.trans (by simp)
end PyV
set_option Elab.async false
set_option linter.all false
set_option maxRecDepth 100000
set_option maxHeartbeats 4000000
namespace PyV
open PySem
/-! ## checks -/
@[simp] theorem s_is_int_int (v : Int) : TT.G 1 [.int v] = .ok (.bl true) false none := tt_run 0 (show runD TT none 0 b_is_int _ = _ by simp [runD, evB, evS, evE, evEs, evXs, asgT_v, asgT_t, asgTs_n, asgTs_c, atD, placeD, b_is_int]) (by simp)
@[simp] theorem s_is_int_bl (v : Bool) : TT.G 1 [.bl v] = .ok (.bl false) false none := tt_run 0 (show runD TT none 0 b_is_int _ = _ by simp [runD, evB, evS, evE, evEs, evXs, asgT_v, asgT_t, asgTs_n, asgTs_c, atD, placeD, b_is_int]) (by simp)
@[simp] theorem s_is_int_str (v : List Nat) : TT.G 1 [.str v] = .ok (.bl false) false none := tt_run 0 (show runD TT none 0 b_is_int _ = _ by simp [runD, evB, evS, evE, evEs, evXs, asgT_v, asgT_t, asgTs_n, asgTs_c, atD, placeD, b_is_int]) (by simp)
@[simp] theorem s_is_int_tup (v : List D) : TT.G 1 [.tup v] = .ok (.bl false) false none := tt_run 0 (show runD TT none 0 b_is_int _ = _ by simp [runD, evB, evS, evE, evEs, evXs, asgT_v, asgT_t, asgTs_n, asgTs_c, atD, placeD, b_is_int]) (by simp)
@[simp] theorem s_is_int_lst (v : List D) : TT.G 1 [.lst v] = .ok (.bl false) false none := tt_run 0 (show runD TT none 0 b_is_int _ = _ by simp [runD, evB, evS, evE, evEs, evXs, asgT_v, asgT_t, asgTs_n, asgTs_c, atD, placeD, b_is_int]) (by simp)
@[simp] theorem s_is_int_non : TT.G 1 [.non] = .ok (.bl false) false none := tt_run 0 (show runD TT none 0 b_is_int _ = _ by simp [runD, evB, evS, evE, evEs, evXs, asgT_v, asgT_t, asgTs_n, asgTs_c, atD, placeD, b_is_int]) (by simp)
@[simp] theorem s_is_whole (v lo hi : Int) : TT.G 2 [.int v, .int lo, .int hi] = .ok (.bl (decide (lo ≤ v) && decide (v ≤ hi))) false none := tt_run 0 (show runD TT none 0 b_is_whole _ = _ by
  simp [runD, evB, evS, evE, evEs, evXs, asgT_v, asgT_t, asgTs_n, asgTs_c, atD, placeD, b_is_whole]
  by_cases h1 : lo ≤ v <;> simp [h1]) (by simp)
def bitsOk (x y : Int) : Prop := 0 ≤ x ∧ x ≤ 100 ∧ 0 ≤ y ∧ y ≤ 100 ∧ ¬ (x = 0 ∧ y = 0)
instance (x y : Int) : Decidable (bitsOk x y) := by unfold bitsOk; exact inferInstance
theorem s_require_bits {x y : Int} (hp : bitsOk x y) : TT.G 24 [.int x, .int y] = .ok .non false none := tt_run 0 (show runD TT none 0 b_require_bits _ = _ by
  obtain ⟨h1, h2, h3, h4, h5⟩ := hp
  by_cases hx : x = 0
  · have hy : (1:Int) ≤ y := by omega
    simp [runD, evB, evS, evE, evEs, evXs, asgT_v, asgT_t, asgTs_n, asgTs_c, atD, placeD, b_require_bits, hx, h4, hy]
  · simp [runD, evB, evS, evE, evEs, evXs, asgT_v, asgT_t, asgTs_n, asgTs_c, atD, placeD, b_require_bits, hx, h1, h2, h3, h4]) (by simp)
theorem shlOk_one {a : Int} (h : 0 ≤ a) (h2 : a ≤ 100000) : shlOk 1 a = true := by
  unfold shlOk
  have : Builtin.Int.intBits 1 = 1 := by decide
  rw [this]
  simp
  omega
theorem s_require_cell {a b x y : Int} (h1 : 0 ≤ a) (h2 : a ≤ 1000) (h3 : 0 ≤ b) (h4 : b ≤ 1000) (h5 : 0 ≤ x) (h6 : x < 2 ^ a.toNat) (h7 : 0 ≤ y) (h8 : y < 2 ^ b.toNat) : TT.G 3 [.int a, .int b, .tup [.int x, .int y]] = .ok .non false none := tt_run 0 (show runD TT none 0 b_require_cell _ = _ by
  have s1 := shlOk_one h1 (by omega)
  have s2 := shlOk_one h3 (by omega)
  simp [runD, evB, evS, evE, evEs, evXs, asgT_v, asgT_t, asgTs_n, asgTs_c, atD, placeD, b_require_cell, c_require_cell_1, lcL, noOwn, s1, s2, h5, h6, h7, h8]) (by simp)
theorem s_require_key {a b v : Int} (h1 : 0 ≤ a) (h2 : a ≤ 1000) (h3 : 0 ≤ b) (h4 : b ≤ 1000) (h5 : 0 ≤ v) (h6 : v < 2 ^ (a + b).toNat) : TT.G 4 [.int a, .int b, .int v] = .ok .non false none := tt_run 0 (show runD TT none 0 b_require_key _ = _ by
  have s1 := shlOk_one (a := a + b) (by omega) (by omega)
  have h7 : v ≤ 2 ^ (a + b).toNat - 1 := by omega
  simp [runD, evB, evS, evE, evEs, evXs, asgT_v, asgT_t, asgTs_n, asgTs_c, atD, placeD, b_require_key, s1, h5, h7]) (by simp)
/-! ### feet, keys, cells: on the letters from the last one on -/
def feetF : List Nat → Int → Int → List D
  | [], _, _ => []
  | c :: r, i, j => .tup [.str [c], .int i, .int j] :: (if c = 120 then feetF r (i + 1) j else feetF r i (j + 1))
theorem feetF_len : ∀ (l : List Nat) (i j : Int), (feetF l i j).length = l.length
  | [], _, _ => rfl
  | c :: r, i, j => by
    unfold feetF
    split <;> simp [feetF_len r]
theorem feet_step (T : Tab) (n : Nat) (w : List Nat) (c : Nat) (acc : List D) (i j : Int) (h1 : acc.length < 16777216) :
    evB T none n l_feet_of_1 [.val (.str w), .val (.str [c]), .own (.lst acc), .val (.int i), .val (.int j)] = .ok .nx [.val (.str w), .val (.str [c]), .own (.lst (acc ++ [.tup [.str [c], .int i, .int j]])), .val (.int (if c = 120 then i + 1 else i)), .val (.int (if c = 120 then j else j + 1))] := by
  by_cases hc : c = 120
  · subst hc
    simp [runD, evB, evS, evE, evEs, evXs, asgT_v, asgT_t, asgTs_n, asgTs_c, atD, placeD, l_feet_of_1, h1]
  · simp [runD, evB, evS, evE, evEs, evXs, asgT_v, asgT_t, asgTs_n, asgTs_c, atD, placeD, l_feet_of_1, h1, hc]
theorem feet_loop (T : Tab) (n : Nat) (w : List Nat) : ∀ (l : List Nat) (acc : List D) (i j : Int) (s1 : Sl), acc.length + l.length ≤ lim →
    ∃ t1 t3 t4, forL (asgT none (.v 1)) (evB T none n l_feet_of_1) (l.map fun c => .str [c]) [.val (.str w), s1, .own (.lst acc), .val (.int i), .val (.int j)] = .ok .nx [.val (.str w), t1, .own (.lst (acc ++ feetF l i j)), t3, t4]
  | [], acc, i, j, s1, _ => ⟨s1, _, _, by simp [forL, feetF]; exact ⟨rfl, rfl⟩⟩
  | c :: l, acc, i, j, s1, h => by
    have h1 : acc.length < 16777216 := by simp at h; omega
    have h2 : (acc ++ [D.tup [.str [c], .int i, .int j]]).length + l.length ≤ lim := by simp at h ⊢; omega
    obtain ⟨t1, t3, t4, e⟩ := feet_loop T n w l (acc ++ [.tup [.str [c], .int i, .int j]]) (if c = 120 then i + 1 else i) (if c = 120 then j else j + 1) (.val (.str [c])) h2
    refine ⟨t1, t3, t4, ?_⟩
    rw [List.map_cons, forL_step rfl (feet_step T n w c acc i j h1), e]
    have e2 : feetF (c :: l) i j = .tup [.str [c], .int i, .int j] :: feetF l (if c = 120 then i + 1 else i) (if c = 120 then j else j + 1) := by
      rw [feetF]
      by_cases hc : c = 120 <;> simp [hc]
    rw [e2, List.append_assoc, List.singleton_append]
theorem s_feet_of {w : List Nat} (hp : w.length ≤ 16777216) : TT.G 5 [.str w] = .ok (.lst (feetF w.reverse 0 0)) true none := tt_run 0 (show runD TT none 0 b_feet_of _ = _ by
  obtain ⟨t1, t3, t4, e⟩ := feet_loop TT 0 w w.reverse [] 0 0 .emp (by simpa using hp)
  rw [List.nil_append, List.map_reverse] at e
  simp [runD, evB, evS, evE, evEs, evXs, asgT_v, asgT_t, asgTs_n, asgTs_c, atD, placeD, b_feet_of, hp, List.replicate]
  rw [e]
  simp [runD, evB, evS, evE, evEs, evXs, asgT_v, asgT_t, asgTs_n, asgTs_c, atD, placeD]) (by simp)
end PyV
set_option Elab.async false
set_option linter.all false
set_option maxRecDepth 100000
set_option maxHeartbeats 4000000
namespace PyV
open PySem
/-! ### keys and cells, by the letters from the last one on -/
def keyF : List Nat → Int → Int → Int
  | [], _, _ => 0
  | c :: r, x, y => if c = 120 then x % 2 + 2 * keyF r (x / 2) y else y % 2 + 2 * keyF r x (y / 2)
def cellF : List Nat → Int → Int × Int
  | [], _ => (0, 0)
  | c :: r, k => if c = 120 then (k % 2 + 2 * (cellF r (k / 2)).1, (cellF r (k / 2)).2) else ((cellF r (k / 2)).1, k % 2 + 2 * (cellF r (k / 2)).2)
theorem keyF_nn : ∀ (l : List Nat) (x y : Int), 0 ≤ keyF l x y
  | [], _, _ => Int.le_refl _
  | c :: r, x, y => by
    unfold keyF
    have h1 := keyF_nn r (x / 2) y
    have h2 := keyF_nn r x (y / 2)
    split <;> omega
theorem cellF_nn : ∀ (l : List Nat) (k : Int), 0 ≤ (cellF l k).1 ∧ 0 ≤ (cellF l k).2
  | [], _ => ⟨Int.le_refl _, Int.le_refl _⟩
  | c :: r, k => by
    unfold cellF
    have h1 := cellF_nn r (k / 2)
    split
    · exact ⟨by show 0 ≤ k % 2 + 2 * (cellF r (k / 2)).1; omega, h1.2⟩
    · exact ⟨h1.1, by show 0 ≤ k % 2 + 2 * (cellF r (k / 2)).2; omega⟩
theorem bit1 (x : Int) (i : Nat) : Builtin.bitAnd (x / 2 ^ i) 1 = x / 2 ^ i % 2 := by
  have := Bits.bit_at (x := x) i
  rw [Int.fdiv_eq_ediv_of_nonneg _ (Int.le_of_lt (Int.pow_pos (by decide)))] at this
  exact this
theorem shlOk_bit {d : Int} {r : Nat} (h : d = 0 ∨ d = 1) (hr : r ≤ 100000000) : shlOk d (r : Int) = true := by
  unfold shlOk
  have e0 : Builtin.Int.intBits 0 = 0 := by decide
  have e1 : Builtin.Int.intBits 1 = 1 := by decide
  rcases h with rfl | rfl
  · rw [e0]; simp; omega
  · rw [e1]; simp; omega
theorem mod2 (x : Int) : x % 2 = 0 ∨ x % 2 = 1 := by omega
theorem div_pow (x : Int) (i : Nat) : x / 2 ^ i / 2 = x / 2 ^ (i + 1) := by
  rw [Int.ediv_ediv_of_nonneg (Int.le_of_lt (Int.pow_pos (by decide))), Int.pow_succ]
theorem lt_pow_succ {f d : Int} {r : Nat} (h1 : f < 2 ^ r) (hd : d = 0 ∨ d = 1) : f + d * 2 ^ r < 2 ^ (r + 1) := by
  rw [Int.pow_succ]
  have : (0 : Int) < 2 ^ r := Int.pow_pos (by decide)
  rcases hd with rfl | rfl <;> omega
theorem key_step (T : Tab) (n : Nat) (w : List Nat) (c : Nat) (x y f : Int) (r i j : Nat) (s5 : Sl) (h0 : 0 ≤ f) (h1 : f < 2 ^ r) (hr : r ≤ 100000000) :
    evB T none n l_key_of_1 [.val (.str w), .val (.int x), .val (.int y), .val (.int f), .val (.int (r : Int)), s5, .val (.str [c]), .val (.int (i : Int)), .val (.int (j : Int))] =
      .ok .nx [.val (.str w), .val (.int x), .val (.int y), .val (.int (f + (if c = 120 then x / 2 ^ i % 2 else y / 2 ^ j % 2) * 2 ^ r)), .val (.int (r : Int)), .val (.int (if c = 120 then x / 2 ^ i % 2 else y / 2 ^ j % 2)), .val (.str [c]), .val (.int (i : Int)), .val (.int (j : Int))] := by
  have k1 := shlOk_bit (mod2 (x / 2 ^ i)) hr
  have k2 := shlOk_bit (mod2 (y / 2 ^ j)) hr
  have n1 : 0 ≤ x / 2 ^ i % 2 := Int.emod_nonneg _ (by decide)
  have n2 : 0 ≤ y / 2 ^ j % 2 := Int.emod_nonneg _ (by decide)
  by_cases hc : c = 120
  · subst hc
    simp [runD, evB, evS, evE, evEs, evXs, asgT_v, asgT_t, asgTs_n, asgTs_c, atD, placeD, l_key_of_1, bit1, k1, Bits.bitOr_join h0 h1 n1]
  · simp [runD, evB, evS, evE, evEs, evXs, asgT_v, asgT_t, asgTs_n, asgTs_c, atD, placeD, l_key_of_1, bit1, k2, hc, Bits.bitOr_join h0 h1 n2]
theorem key_loop (T : Tab) (n : Nat) (w : List Nat) (x y : Int) : ∀ (l : List Nat) (r i j : Nat) (f : Int) (s4 s5 s6 s7 s8 : Sl), 0 ≤ f → f < 2 ^ r → r + l.length ≤ 100000000 →
    ∃ t4 t5 t6 t7 t8, forL (asgT none (.tup [.v 4, .tup [.v 6, .v 7, .v 8]])) (evB T none n l_key_of_1) (enumD r (feetF l i j)) [.val (.str w), .val (.int x), .val (.int y), .val (.int f), s4, s5, s6, s7, s8] =
      .ok .nx [.val (.str w), .val (.int x), .val (.int y), .val (.int (f + 2 ^ r * keyF l (x / 2 ^ i) (y / 2 ^ j))), t4, t5, t6, t7, t8]
  | [], r, i, j, f, s4, s5, s6, s7, s8, _, _, _ => ⟨s4, s5, s6, s7, s8, by simp [feetF, forL, keyF]⟩
  | c :: l, r, i, j, f, s4, s5, s6, s7, s8, h0, h1, hr => by
    have hr' : r + (l.length + 1) ≤ 100000000 := hr
    have st := key_step T n w c x y f r i j s5 h0 h1 (by omega)
    by_cases hc : c = 120
    · simp only [hc, if_true] at st
      have hd := mod2 (x / 2 ^ i)
      have h0' : 0 ≤ f + x / 2 ^ i % 2 * 2 ^ r := Int.add_nonneg h0 (Int.mul_nonneg (Int.emod_nonneg _ (by decide)) (Int.le_of_lt (Int.pow_pos (by decide))))
      obtain ⟨t4, t5, t6, t7, t8, e⟩ := key_loop T n w x y l (r + 1) (i + 1) j (f + x / 2 ^ i % 2 * 2 ^ r) (.val (.int (r : Int))) (.val (.int (x / 2 ^ i % 2))) (.val (.str [120])) (.val (.int (i : Int))) (.val (.int (j : Int))) h0' (lt_pow_succ h1 hd) (by omega)
      refine ⟨t4, t5, t6, t7, t8, ?_⟩
      have e1 : feetF (c :: l) (i : Int) (j : Int) = .tup [.str [120], .int (i : Int), .int (j : Int)] :: feetF l ((i + 1 : Nat) : Int) (j : Int) := by
        rw [feetF, if_pos hc, hc]
        rfl
      rw [e1, enumD, forL_step rfl st, e]
      congr 6
      rw [keyF, if_pos hc, div_pow, Int.pow_succ]
      generalize keyF l (x / 2 ^ (i + 1)) (y / 2 ^ j) = z
      generalize (2 : Int) ^ r = q
      rw [Int.mul_add, Int.mul_comm (x / 2 ^ i % 2) q, Int.add_assoc, Int.mul_assoc]
    · simp only [hc, if_false] at st
      have hd := mod2 (y / 2 ^ j)
      have h0' : 0 ≤ f + y / 2 ^ j % 2 * 2 ^ r := Int.add_nonneg h0 (Int.mul_nonneg (Int.emod_nonneg _ (by decide)) (Int.le_of_lt (Int.pow_pos (by decide))))
      obtain ⟨t4, t5, t6, t7, t8, e⟩ := key_loop T n w x y l (r + 1) i (j + 1) (f + y / 2 ^ j % 2 * 2 ^ r) (.val (.int (r : Int))) (.val (.int (y / 2 ^ j % 2))) (.val (.str [c])) (.val (.int (i : Int))) (.val (.int (j : Int))) h0' (lt_pow_succ h1 hd) (by omega)
      refine ⟨t4, t5, t6, t7, t8, ?_⟩
      have e1 : feetF (c :: l) (i : Int) (j : Int) = .tup [.str [c], .int (i : Int), .int (j : Int)] :: feetF l (i : Int) ((j + 1 : Nat) : Int) := by
        rw [feetF, if_neg hc]
        rfl
      rw [e1, enumD, forL_step rfl st, e]
      congr 6
      rw [keyF, if_neg hc, div_pow, Int.pow_succ]
      generalize keyF l (x / 2 ^ i) (y / 2 ^ (j + 1)) = z
      generalize (2 : Int) ^ r = q
      rw [Int.mul_add, Int.mul_comm (y / 2 ^ j % 2) q, Int.add_assoc, Int.mul_assoc]
theorem s_key_of {w : List Nat} {x y : Int} (hp : w.length ≤ 16777216) : TT.G 6 [.str w, .int x, .int y] = .ok (.int (keyF w.reverse x y)) false none := tt_run 0 (show runD TT none 0 b_key_of _ = _ by
  obtain ⟨t4, t5, t6, t7, t8, e⟩ := key_loop TT 0 w x y w.reverse 0 0 0 0 .emp .emp .emp .emp .emp (by decide) (by decide) (by simp; omega)
  have e0 : feetF w.reverse ((0 : Nat) : Int) ((0 : Nat) : Int) = feetF w.reverse 0 0 := rfl
  rw [e0] at e
  simp [runD, evB, evS, evE, evEs, evXs, asgT_v, asgT_t, asgTs_n, asgTs_c, atD, placeD, b_key_of, s_feet_of hp, List.replicate]
  rw [e]
  simp [runD, evB, evS, evE, evEs, evXs, asgT_v, asgT_t, asgTs_n, asgTs_c, atD, placeD]) (by simp)
theorem cell_step (T : Tab) (n : Nat) (w : List Nat) (c : Nat) (k x y : Int) (r i j : Nat) (s5 : Sl) (h0 : 0 ≤ x) (h1 : x < 2 ^ i) (g0 : 0 ≤ y) (g1 : y < 2 ^ j) (hi : i ≤ 100000000) (hj : j ≤ 100000000) :
    evB T none n l_cell_of_1 [.val (.str w), .val (.int k), .val (.int x), .val (.int y), .val (.int (r : Int)), s5, .val (.str [c]), .val (.int (i : Int)), .val (.int (j : Int))] =
      .ok .nx [.val (.str w), .val (.int k), .val (.int (if c = 120 then x + k / 2 ^ r % 2 * 2 ^ i else x)), .val (.int (if c = 120 then y else y + k / 2 ^ r % 2 * 2 ^ j)), .val (.int (r : Int)), .val (.int (k / 2 ^ r % 2)), .val (.str [c]), .val (.int (i : Int)), .val (.int (j : Int))] := by
  have k1 := shlOk_bit (mod2 (k / 2 ^ r)) hi
  have k2 := shlOk_bit (mod2 (k / 2 ^ r)) hj
  have n1 : 0 ≤ k / 2 ^ r % 2 := Int.emod_nonneg _ (by decide)
  by_cases hc : c = 120
  · subst hc
    simp [runD, evB, evS, evE, evEs, evXs, asgT_v, asgT_t, asgTs_n, asgTs_c, atD, placeD, l_cell_of_1, bit1, k1, Bits.bitOr_join h0 h1 n1]
  · simp [runD, evB, evS, evE, evEs, evXs, asgT_v, asgT_t, asgTs_n, asgTs_c, atD, placeD, l_cell_of_1, bit1, k2, hc, Bits.bitOr_join g0 g1 n1]
theorem cell_loop (T : Tab) (n : Nat) (w : List Nat) (k : Int) : ∀ (l : List Nat) (r i j : Nat) (x y : Int) (s4 s5 s6 s7 s8 : Sl), 0 ≤ x → x < 2 ^ i → 0 ≤ y → y < 2 ^ j → i + l.length ≤ 100000000 → j + l.length ≤ 100000000 →
    ∃ t4 t5 t6 t7 t8, forL (asgT none (.tup [.v 4, .tup [.v 6, .v 7, .v 8]])) (evB T none n l_cell_of_1) (enumD r (feetF l i j)) [.val (.str w), .val (.int k), .val (.int x), .val (.int y), s4, s5, s6, s7, s8] =
      .ok .nx [.val (.str w), .val (.int k), .val (.int (x + 2 ^ i * (cellF l (k / 2 ^ r)).1)), .val (.int (y + 2 ^ j * (cellF l (k / 2 ^ r)).2)), t4, t5, t6, t7, t8]
  | [], r, i, j, x, y, s4, s5, s6, s7, s8, _, _, _, _, _, _ => ⟨s4, s5, s6, s7, s8, by simp [feetF, forL, cellF]⟩
  | c :: l, r, i, j, x, y, s4, s5, s6, s7, s8, h0, h1, g0, g1, hi, hj => by
    have hi' : i + (l.length + 1) ≤ 100000000 := hi
    have hj' : j + (l.length + 1) ≤ 100000000 := hj
    have st := cell_step T n w c k x y r i j s5 h0 h1 g0 g1 (by omega) (by omega)
    have hd := mod2 (k / 2 ^ r)
    have hb : 0 ≤ k / 2 ^ r % 2 := Int.emod_nonneg _ (by decide)
    by_cases hc : c = 120
    · simp only [hc, if_true] at st
      have h0' : 0 ≤ x + k / 2 ^ r % 2 * 2 ^ i := Int.add_nonneg h0 (Int.mul_nonneg hb (Int.le_of_lt (Int.pow_pos (by decide))))
      obtain ⟨t4, t5, t6, t7, t8, e⟩ := cell_loop T n w k l (r + 1) (i + 1) j (x + k / 2 ^ r % 2 * 2 ^ i) y (.val (.int (r : Int))) (.val (.int (k / 2 ^ r % 2))) (.val (.str [120])) (.val (.int (i : Int))) (.val (.int (j : Int))) h0' (lt_pow_succ h1 hd) g0 g1 (by omega) (by omega)
      refine ⟨t4, t5, t6, t7, t8, ?_⟩
      have e1 : feetF (c :: l) (i : Int) (j : Int) = .tup [.str [120], .int (i : Int), .int (j : Int)] :: feetF l ((i + 1 : Nat) : Int) (j : Int) := by
        rw [feetF, if_pos hc, hc]
        rfl
      rw [e1, enumD, forL_step rfl st, e]
      rw [cellF, if_pos hc, div_pow]
      congr 5
      · rw [Int.pow_succ]
        generalize (cellF l (k / 2 ^ (r + 1))).1 = z
        generalize (2 : Int) ^ i = q
        rw [Int.mul_add, Int.mul_comm (k / 2 ^ r % 2) q, Int.add_assoc, Int.mul_assoc]
    · simp only [hc, if_false] at st
      have h0' : 0 ≤ y + k / 2 ^ r % 2 * 2 ^ j := Int.add_nonneg g0 (Int.mul_nonneg hb (Int.le_of_lt (Int.pow_pos (by decide))))
      obtain ⟨t4, t5, t6, t7, t8, e⟩ := cell_loop T n w k l (r + 1) i (j + 1) x (y + k / 2 ^ r % 2 * 2 ^ j) (.val (.int (r : Int))) (.val (.int (k / 2 ^ r % 2))) (.val (.str [c])) (.val (.int (i : Int))) (.val (.int (j : Int))) h0 h1 h0' (lt_pow_succ g1 hd) (by omega) (by omega)
      refine ⟨t4, t5, t6, t7, t8, ?_⟩
      have e1 : feetF (c :: l) (i : Int) (j : Int) = .tup [.str [c], .int (i : Int), .int (j : Int)] :: feetF l (i : Int) ((j + 1 : Nat) : Int) := by
        rw [feetF, if_neg hc]
        rfl
      rw [e1, enumD, forL_step rfl st, e]
      rw [cellF, if_neg hc, div_pow]
      congr 6
      · rw [Int.pow_succ]
        generalize (cellF l (k / 2 ^ (r + 1))).2 = z
        generalize (2 : Int) ^ j = q
        rw [Int.mul_add, Int.mul_comm (k / 2 ^ r % 2) q, Int.add_assoc, Int.mul_assoc]
theorem s_cell_of {w : List Nat} {k : Int} (hp : w.length ≤ 16777216) : TT.G 7 [.str w, .int k] = .ok (.tup [.int (cellF w.reverse k).1, .int (cellF w.reverse k).2]) false none := tt_run 0 (show runD TT none 0 b_cell_of _ = _ by
  obtain ⟨t4, t5, t6, t7, t8, e⟩ := cell_loop TT 0 w k w.reverse 0 0 0 0 0 .emp .emp .emp .emp .emp (by decide) (by decide) (by decide) (by decide) (by simp; omega) (by simp; omega)
  have e0 : feetF w.reverse ((0 : Nat) : Int) ((0 : Nat) : Int) = feetF w.reverse 0 0 := rfl
  rw [e0] at e
  simp [runD, evB, evS, evE, evEs, evXs, asgT_v, asgT_t, asgTs_n, asgTs_c, atD, placeD, b_cell_of, s_feet_of hp, List.replicate]
  rw [e]
  simp [runD, evB, evS, evE, evEs, evXs, asgT_v, asgT_t, asgTs_n, asgTs_c, atD, placeD]) (by simp)
/-! ### layouts -/
def wordB (w : List Nat) : Bool := !w.isEmpty && w.all (fun c => c == 120 || c == 121) && decide (w.count 120 ≤ 100) && decide (w.count 121 ≤ 100)
theorem wordB_len {w : List Nat} (h : wordB w = true) : w.length ≤ 200 := by
  unfold wordB at h
  simp only [Bool.and_eq_true, decide_eq_true_eq, List.all_eq_true] at h
  obtain ⟨⟨⟨_, h1⟩, h2⟩, h3⟩ := h
  have : ∀ l : List Nat, (∀ c ∈ l, (c == 120 || c == 121) = true) → l.length = l.count 120 + l.count 121 := by
    intro l hl
    induction l with
    | nil => rfl
    | cons c l ih =>
      have hc := hl c List.mem_cons_self
      have := ih fun x hx => hl x (List.mem_cons_of_mem _ hx)
      rw [List.length_cons, List.count_cons, List.count_cons, this]
      simp only [Bool.or_eq_true, beq_iff_eq] at hc
      rcases hc with rfl | rfl <;> simp <;> omega
  rw [this w h1]
  omega
theorem mapc {α β γ : Type} (f : α → β) (c : γ) : ∀ l : List α, ((l.map f).filter fun _ => true).map (fun _ => c) = List.replicate l.length c
  | [] => rfl
  | a :: l => by
    have := mapc f c l
    simp only [List.map_cons, List.filter_cons, if_true, List.length_cons, List.replicate_succ, this]
theorem allB_rep (k : Nat) (b : Bool) : allB (List.replicate k (.bl b)) = some (List.replicate k b) := by
  induction k with
  | zero => rfl
  | succ k ih => rw [List.replicate_succ, List.replicate_succ, allB, ih]; rfl
theorem init_lc (T : Tab) (w : List Nat) (h1 : ∀ c ∈ w, (c == 120 || c == 121) = true) (hl : w.length ≤ 200) : evE T (some 0) (.lc c_Layout___init_1 (.v 2) .plain [.var 1] .nop [2]) [.own (.obj 0 [] []), .val (.str w), .emp] =
    .ok (.own (.lst (List.replicate w.length (.bl true)))) [.own (.obj 0 [] []), .val (.str w), .emp] := by
  have e := lcL_map (st := asgT (some 0) (.v 2)) (cond := condD T (some 0) .nop) (elt := evE T (some 0) c_Layout___init_1) (wp := wipeS [2]) (s := [.own (.obj 0 [] []), .val (.str w), .emp]) (F := fun _ => D.bl true) (P := fun _ => true) (xs := w.map fun c => .str [c]) (acc := []) (by simp; omega) fun d hd => by
    obtain ⟨c, hc, rfl⟩ := List.mem_map.mp hd
    refine ⟨_, rfl, rfl, by simp, fun _ => ⟨.val (.bl true), ?_, rfl⟩⟩
    have := h1 c hc
    simp only [Bool.or_eq_true, beq_iff_eq] at this
    rcases this with rfl | rfl <;> simp [runD, evB, evS, evE, evEs, evXs, asgT_v, asgT_t, asgTs_n, asgTs_c, atD, placeD, c_Layout___init_1]
  rw [mapc, List.nil_append] at e
  rw [lc_eq]
  simp [runD, evB, evS, evE, evEs, evXs, asgT_v, asgT_t, asgTs_n, asgTs_c, atD, placeD, noOwn]
  rw [e]
  rfl
theorem s_init {w : List Nat} (hp : wordB w = true) : TT.G 8 [.obj 0 [] [], .str w] = .ok .non false (some (lay w)) := tt_run 0 (show runD TT (some 0) 0 b_Layout___init _ = _ by
  have hl := wordB_len hp
  have hp2 := hp
  unfold wordB at hp2
  simp only [Bool.and_eq_true, decide_eq_true_eq, List.all_eq_true] at hp2
  obtain ⟨⟨⟨h0, h1⟩, h2⟩, h3⟩ := hp2
  have hne : w ≠ [] := fun z => by rw [z] at h0; cases h0
  have h2' : ¬ (100 : Int) < (List.count 120 w : Nat) := by omega
  have h3' : ¬ (100 : Int) < (List.count 121 w : Nat) := by omega
  have e := init_lc TT w h1 hl
  simp only [runD, b_Layout___init, start0, List.replicate, List.length, if_true, List.cons_append, List.nil_append]
  simp [runD, evB, evS, evE, evEs, evXs, asgT_v, asgT_t, asgTs_n, asgTs_c, atD, placeD, hne, h2', h3', e, allB_rep, ow, lay]) (by simp)
@[simp] theorem s_word (w : List Nat) : TT.G 9 [.obj 0 [ow] [.str w]] = .ok (.str w) false none := tt_run 0 (show runD TT none 0 b_Layout_word _ = _ by simp [runD, evB, evS, evE, evEs, evXs, asgT_v, asgT_t, asgTs_n, asgTs_c, atD, placeD, b_Layout_word, ow]) (by simp)
@[simp] theorem s_x_bits (w : List Nat) : TT.G 10 [.obj 0 [ow] [.str w]] = .ok (.int (w.count 120 : Nat)) false none := tt_run 0 (show runD TT none 0 b_Layout_x_bits _ = _ by simp [runD, evB, evS, evE, evEs, evXs, asgT_v, asgT_t, asgTs_n, asgTs_c, atD, placeD, b_Layout_x_bits, ow]) (by simp)
@[simp] theorem s_y_bits (w : List Nat) : TT.G 11 [.obj 0 [ow] [.str w]] = .ok (.int (w.count 121 : Nat)) false none := tt_run 0 (show runD TT none 0 b_Layout_y_bits _ = _ by simp [runD, evB, evS, evE, evEs, evXs, asgT_v, asgT_t, asgTs_n, asgTs_c, atD, placeD, b_Layout_y_bits, ow]) (by simp)
@[simp] theorem ow_eq : (ow = Str.ofString "own_word") = True := eq_true rfl
@[simp] theorem nk_key : ¬ (Str.ofString "key" = ow) := by decide +kernel
@[simp] theorem nk_key' : ¬ (ow = Str.ofString "key") := by decide +kernel
@[simp] theorem nk_cell : ¬ (Str.ofString "cell" = ow) := by decide +kernel
@[simp] theorem nk_cell' : ¬ (ow = Str.ofString "cell") := by decide +kernel
theorem s_key {w : List Nat} {x y : Int} (hw : wordB w = true) (h1 : 0 ≤ x) (h2 : x < 2 ^ w.count 120) (h3 : 0 ≤ y) (h4 : y < 2 ^ w.count 121) : TT.G 13 [.obj 0 [ow] [.str w], .tup [.int x, .int y]] = .ok (.int (keyF w.reverse x y)) false none := tt_run 0 (show runD TT none 0 b_Layout_key _ = _ by
  have hl := wordB_len hw
  have c1 : List.count 120 w ≤ 200 := Nat.le_trans List.count_le_length hl
  have c2 : List.count 121 w ≤ 200 := Nat.le_trans List.count_le_length hl
  have c1' : ((List.count 120 w : Nat) : Int) ≤ 1000 := by omega
  have c2' : ((List.count 121 w : Nat) : Int) ≤ 1000 := by omega
  have e := s_require_cell (a := (List.count 120 w : Nat)) (b := (List.count 121 w : Nat)) (x := x) (y := y) (by omega) c1' (by omega) c2' h1 (by simpa using h2) h3 (by simpa using h4)
  have e2 := s_key_of (w := w) (x := x) (y := y) (by omega)
  simp [runD, evB, evS, evE, evEs, evXs, asgT_v, asgT_t, asgTs_n, asgTs_c, atD, placeD, b_Layout_key, e, e2]) (by simp)
theorem s_cell {w : List Nat} {k : Int} (hw : wordB w = true) (h1 : 0 ≤ k) (h2 : k < 2 ^ (w.count 120 + w.count 121)) : TT.G 14 [.obj 0 [ow] [.str w], .int k] = .ok (.tup [.int (cellF w.reverse k).1, .int (cellF w.reverse k).2]) false none := tt_run 0 (show runD TT none 0 b_Layout_cell _ = _ by
  have hl := wordB_len hw
  have c1 : List.count 120 w ≤ 200 := Nat.le_trans List.count_le_length hl
  have c2 : List.count 121 w ≤ 200 := Nat.le_trans List.count_le_length hl
  have c1' : ((List.count 120 w : Nat) : Int) ≤ 1000 := by omega
  have c2' : ((List.count 121 w : Nat) : Int) ≤ 1000 := by omega
  have e := s_require_key (a := (List.count 120 w : Nat)) (b := (List.count 121 w : Nat)) (v := k) (by omega) c1' (by omega) c2' h1 (by
    have : (((List.count 120 w : Nat) : Int) + ((List.count 121 w : Nat) : Int)).toNat = List.count 120 w + List.count 121 w := by omega
    rw [this]; exact h2)
  have e2 := s_cell_of (w := w) (k := k) (by omega)
  simp [runD, evB, evS, evE, evEs, evXs, asgT_v, asgT_t, asgTs_n, asgTs_c, atD, placeD, b_Layout_cell, e, e2]) (by simp)
theorem s_new {w : List Nat} (hp : wordB w = true) : TT.G 8 [.obj 0 [] [], .str w] = .ok .non false (some (.obj 0 [ow] [.str w])) := s_init hp
end PyV
set_option Elab.async false
set_option linter.all false
set_option maxRecDepth 100000
set_option maxHeartbeats 4000000
namespace PyV
open PySem
/-! ## the highest digit in which two numbers are not alike -/
def dif : Nat → Int → Int → Prop
  | 0, x, u => x ≠ u ∧ x / 2 = u / 2
  | i + 1, x, u => dif i (x / 2) (u / 2)
theorem dif_ne : ∀ {i : Nat} {x u : Int}, dif i x u → x ≠ u
  | 0, _, _, h => h.1
  | i + 1, x, u, h => fun e => dif_ne (i := i) (x := x / 2) (u := u / 2) h (by rw [e])
theorem dif_lt {i : Nat} {x u : Int} (h : dif (i + 1) x u) : x < u ↔ x / 2 < u / 2 := by
  have : x / 2 ≠ u / 2 := dif_ne (i := i) h
  omega
theorem dif_symm : ∀ {i : Nat} {x u : Int}, dif i x u → dif i u x
  | 0, _, _, h => ⟨h.1.symm, h.2.symm⟩
  | i + 1, x, u, h => dif_symm (i := i) (x := x / 2) (u := u / 2) h
/-- x of rank i stands higher in the word (lowest letter first) than y of rank j -/
def hiW : List Nat → Nat → Nat → Bool
  | [], _, _ => false
  | c :: l, i, j => if c = 120 then (match i with | 0 => false | i + 1 => hiW l i j) else (match j with | 0 => true | j + 1 => hiW l i j)
theorem kF_ltx {l : List Nat} {x y u v : Int} (wd : Wd l) (g : Gd l x y) (h : Gd l u v) (e : x = u) (hn : y ≠ v) : kF l x y < kF l u v ↔ y < v := by
  subst e
  have n1 : kF l x y ≠ kF l x v := fun q => hn (kF_inj wd g h q).2
  constructor
  · intro q
    rcases Int.lt_or_gt_of_ne hn with p | p
    · exact p
    · have := kF_mono wd h g (Int.le_refl _) (Int.le_of_lt p)
      omega
  · intro q
    have := kF_mono wd g h (Int.le_refl _) (Int.le_of_lt q)
    omega
theorem kF_lty {l : List Nat} {x y u v : Int} (wd : Wd l) (g : Gd l x y) (h : Gd l u v) (e : y = v) (hn : x ≠ u) : kF l x y < kF l u v ↔ x < u := by
  subst e
  have n1 : kF l x y ≠ kF l u y := fun q => hn (kF_inj wd g h q).1
  constructor
  · intro q
    rcases Int.lt_or_gt_of_ne hn with p | p
    · exact p
    · have := kF_mono wd h g (Int.le_of_lt p) (Int.le_refl _)
      omega
  · intro q
    have := kF_mono wd g h (Int.le_of_lt q) (Int.le_refl _)
    omega
theorem kF_hi : ∀ {l : List Nat} {x y u v : Int} {i j : Nat}, Wd l → Gd l x y → Gd l u v → dif i x u → dif j y v → (kF l x y < kF l u v ↔ if hiW l i j = true then x < u else y < v)
  | [], x, y, u, v, i, j, _, g, h, dx, _ => by
    obtain ⟨g1, g2, _⟩ := g
    obtain ⟨h1, h2, _⟩ := h
    have e : (2 : Int) ^ ([] : List Nat).count 120 = 1 := rfl
    rw [e] at g2 h2
    exact absurd (by omega : x = u) (dif_ne dx)
  | c :: l, x, y, u, v, i, j, wd, g, h, dx, dy => by
    rcases wd c List.mem_cons_self with rfl | rfl
    · simp only [kF, if_true, hiW]
      cases i with
      | zero =>
        obtain ⟨d1, d2⟩ := dx
        have nk := dif_ne dy
        have key := kF_ltx wd.tl g.x h.x d2 nk
        have n1 : kF l (x / 2) y ≠ kF l (u / 2) v := fun q => nk (kF_inj wd.tl g.x h.x q).2
        simp only [Bool.false_eq_true, if_false]
        rw [← key]
        omega
      | succ i =>
        have ih := kF_hi wd.tl g.x h.x dx dy
        have nk : x / 2 ≠ u / 2 := dif_ne (i := i) dx
        have n1 : kF l (x / 2) y ≠ kF l (u / 2) v := fun q => nk (kF_inj wd.tl g.x h.x q).1
        rw [dif_lt dx, ← ih]
        omega
    · simp only [kF, show ¬ ((121 : Nat) = 120) by decide, if_false, hiW]
      cases j with
      | zero =>
        obtain ⟨d1, d2⟩ := dy
        have nk := dif_ne dx
        have key := kF_lty wd.tl g.y h.y d2 nk
        have n1 : kF l x (y / 2) ≠ kF l u (v / 2) := fun q => nk (kF_inj wd.tl g.y h.y q).1
        simp only [if_true]
        rw [← key]
        omega
      | succ j =>
        have ih := kF_hi wd.tl g.y h.y dx dy
        have nk : y / 2 ≠ v / 2 := dif_ne (i := j) dy
        have n1 : kF l x (y / 2) ≠ kF l u (v / 2) := fun q => nk (kF_inj wd.tl g.y h.y q).2
        rw [dif_lt dy, ← ih]
        omega
/-! ## what ^ and bit_length tell of it -/
theorem and_le_or (x u : Nat) : x &&& u ≤ x ||| u := Nat.le_trans Nat.and_le_left Nat.left_le_or
theorem xor_nat (x u : Nat) : Builtin.bitXor (x : Int) (u : Int) = (((x ||| u) - (x &&& u) : Int)) := by
  unfold Builtin.bitXor Builtin.bitOr Builtin.bitAnd Builtin.bitNot
  have h1 : decide ((0 : Int) ≤ (x : Int)) = true := by simp
  have h2 : decide ((0 : Int) ≤ (u : Int)) = true := by simp
  have h3 : decide ((0 : Int) ≤ -(x : Int) - 1) = false := by simp; omega
  have h4 : decide ((0 : Int) ≤ -(u : Int) - 1) = false := by simp; omega
  rw [h1, h2, h3, h4]
  simp only
  have e1 : (-(-(x : Int) - 1) - 1).toNat = x := by omega
  have e2 : (-(-(u : Int) - 1) - 1).toNat = u := by omega
  rw [e1, e2]
  simp only [Int.toNat_natCast]
  have := and_le_or x u
  omega
def xrN (x u : Nat) : Nat := (x ||| u) - (x &&& u)
theorem xrN_eq (x u : Nat) : Builtin.bitXor (x : Int) (u : Int) = (xrN x u : Nat) := by
  rw [xor_nat]
  have := and_le_or x u
  unfold xrN
  omega
theorem xrN_self (x : Nat) : xrN x x = 0 := by
  unfold xrN
  rw [Nat.or_self, Nat.and_self, Nat.sub_self]
theorem xrN_half (x u : Nat) : xrN x u = 2 * xrN (x / 2) (u / 2) + (if x % 2 = u % 2 then 0 else 1) := by
  have o1 := @Nat.or_div_two x u
  have o2 := @Nat.and_div_two x u
  have o3 := @Nat.or_mod_two_eq_one x u
  have o4 := @Nat.and_mod_two_eq_one x u
  have l := and_le_or (x / 2) (u / 2)
  unfold xrN
  split
  · rename_i h
    by_cases hx : x % 2 = 1
    · have a := o3.mpr (.inl hx)
      have b := o4.mpr ⟨hx, by omega⟩
      omega
    · have a : ¬ (x ||| u) % 2 = 1 := fun q => by
        rcases o3.mp q with z | z <;> omega
      have b : ¬ (x &&& u) % 2 = 1 := fun q => hx (o4.mp q).1
      omega
  · rename_i h
    have a : (x ||| u) % 2 = 1 := o3.mpr (by omega)
    have b : ¬ (x &&& u) % 2 = 1 := fun q => by
      have := o4.mp q
      omega
    omega
theorem intBits_half {n b : Nat} (hn : n ≠ 0) (hb : b ≤ 1) : Builtin.Int.intBits ((2 * n + b : Nat) : Int) = Builtin.Int.intBits (n : Int) + 1 := by
  unfold Builtin.Int.intBits
  have h1 : ¬ (((2 * n + b : Nat) : Int) == 0) = true := by simp; omega
  have h2 : ¬ ((n : Int) == 0) = true := by simp; omega
  rw [if_neg h1, if_neg h2]
  simp only [Int.natAbs_natCast]
  rw [Nat.log2_def (2 * n + b), if_pos (by omega), show (2 * n + b) / 2 = n by omega]
theorem xor_dif : ∀ (N : Nat) {x u : Nat}, x + u ≤ N → x ≠ u → ∃ i, Builtin.Int.intBits ((xrN x u : Nat) : Int) = i + 1 ∧ dif i (x : Int) (u : Int)
  | 0, x, u, h, hn => absurd (by omega : x = u) hn
  | N + 1, x, u, h, hn => by
    rw [xrN_half]
    by_cases he : x / 2 = u / 2
    · refine ⟨0, ?_, by omega, by omega⟩
      rw [he, xrN_self, if_neg (by omega)]
      rfl
    · obtain ⟨i, e, d⟩ := xor_dif N (x := x / 2) (u := u / 2) (by omega) he
      have nz : xrN (x / 2) (u / 2) ≠ 0 := fun z => by
        rw [z] at e
        have : Builtin.Int.intBits ((0 : Nat) : Int) = 0 := rfl
        omega
      refine ⟨i + 1, by rw [intBits_half nz (by split <;> omega), e], ?_⟩
      have e1 : ((x : Int) / 2) = ((x / 2 : Nat) : Int) := by omega
      have e2 : ((u : Int) / 2) = ((u / 2 : Nat) : Int) := by omega
      show dif i ((x : Int) / 2) ((u : Int) / 2)
      rw [e1, e2]
      exact d
theorem dif_bd : ∀ {i a : Nat} {x u : Int}, dif i x u → 0 ≤ x → x < 2 ^ a → 0 ≤ u → u < 2 ^ a → i < a
  | i, 0, x, u, d, h1, h2, h3, h4 => absurd (by simp at h2 h4; omega : x = u) (dif_ne d)
  | 0, a + 1, x, u, d, h1, h2, h3, h4 => by omega
  | i + 1, a + 1, x, u, d, h1, h2, h3, h4 => by
    rw [Int.pow_succ] at h2 h4
    have := dif_bd (i := i) (a := a) (x := x / 2) (u := u / 2) d (by omega) (by omega) (by omega) (by omega)
    omega
/-- bit_length of x ^ u, less 1, is the rank of the highest digit that is not alike -/
theorem bits_dif {x u : Int} {a : Nat} (h1 : 0 ≤ x) (h2 : x < 2 ^ a) (h3 : 0 ≤ u) (h4 : u < 2 ^ a) (hn : x ≠ u) : ∃ i : Nat, Builtin.Int.intBits (Builtin.bitXor x u) = i + 1 ∧ dif i x u ∧ i < a := by
  obtain ⟨x, rfl⟩ := Int.eq_ofNat_of_zero_le h1
  obtain ⟨u, rfl⟩ := Int.eq_ofNat_of_zero_le h3
  obtain ⟨i, e, d⟩ := xor_dif (x + u) (x := x) (u := u) (Nat.le_refl _) (by omega)
  exact ⟨i, by rw [xrN_eq]; exact e, d, dif_bd d h1 h2 h3 h4⟩
end PyV
set_option Elab.async false
set_option linter.all false
set_option maxRecDepth 100000
set_option maxHeartbeats 4000000
namespace PyV
open PySem
/-! ### steps of a block -/
def Goes (P : R Fl → Prop) (r : R Fl) : Prop := P r
theorem go_step {P : R Fl → Prop} {T : Tab} {p : Option Nat} {n : Nat} {st : S} {r : List S} {s s1 : Ss} (h : evS T p n st s = .ok .nx s1) (k : Goes P (evB T p n r s1)) : Goes P (evB T p n (st :: r) s) := by
  simp only [evB, h]
  exact k
theorem go_end {P : R Fl → Prop} {T : Tab} {p : Option Nat} {n : Nat} {st : S} {r : List S} {s s1 : Ss} {d : D} {fr : Bool} (h : evS T p n st s = .ok (.rt d fr) s1) (k : P (.ok (.rt d fr) s1)) : Goes P (evB T p n (st :: r) s) := by
  simp only [evB, h]
  exact k
theorem evB_step {T : Tab} {p : Option Nat} {n : Nat} {st : S} {r : List S} {s s1 : Ss} (h : evS T p n st s = .ok .nx s1) : evB T p n (st :: r) s = evB T p n r s1 := by
  simp only [evB, h]
theorem evB_end {T : Tab} {p : Option Nat} {n : Nat} {st : S} {r : List S} {s s1 : Ss} {d : D} {fr : Bool} (h : evS T p n st s = .ok (.rt d fr) s1) : evB T p n (st :: r) s = .ok (.rt d fr) s1 := by
  simp only [evB, h]
theorem run_rt {T : Tab} {p : Option Nat} {n : Nat} {f : Df} {args : List D} {d : D} {fr : Bool} {s : Ss} {o : Option D} (e : evB T p n f.body (start0 p args ++ List.replicate (f.ns - f.np) .emp) = .ok (.rt d fr) s) (ho : lent p s = some o) (hl : args.length = f.np := by rfl) : runD T p n f args = .ok d fr o := by
  unfold runD
  rw [if_pos hl, e]
  simp only [ho]
theorem run_nx {T : Tab} {p : Option Nat} {n : Nat} {f : Df} {args : List D} {s : Ss} {o : Option D} (e : evB T p n f.body (start0 p args ++ List.replicate (f.ns - f.np) .emp) = .ok .nx s) (ho : lent p s = some o) (hl : args.length = f.np := by rfl) : runD T p n f args = .ok .non false o := by
  unfold runD
  rw [if_pos hl, e]
  simp only [ho]
/-- a while, by what holds ahead of each turn and a number that falls -/
theorem whl_inv {cond : Ss → R Bool} {body : Ss → R Fl} (I : Nat → Ss → Prop) (P : Ss → Prop) (step : ∀ m s, I m s → (∃ s1, cond s = .ok false s1 ∧ P s1) ∨ (∃ s1 s2 m', cond s = .ok true s1 ∧ body s1 = .ok .nx s2 ∧ m' < m ∧ I m' s2)) :
    ∀ (n m : Nat) (s : Ss), I m s → m < n → ∃ s1, whlN cond body n s = .ok .nx s1 ∧ P s1
  | 0, m, s, _, h => absurd h (by omega)
  | n + 1, m, s, hI, hm => by
    rcases step m s hI with ⟨s1, h1, h2⟩ | ⟨s1, s2, m', h1, h2, h3, h4⟩
    · exact ⟨s1, by simp only [whlN, h1], h2⟩
    · obtain ⟨s3, e, q⟩ := whl_inv I P step n m' s2 h4 (by omega)
      exact ⟨s3, by simp only [whlN, h1, h2]; exact e, q⟩
theorem power_loop (T : Tab) (n : Nat) (d : D) : ∀ (xs : List D) (f : Int) (s2 : Sl), ∃ t2, forL (asgT none (.v 2)) (evB T none n l_law_power_1) xs [.val d, .val (.int f), s2] = .ok .nx [.val d, .val (.int (2 ^ xs.length * f)), t2]
  | [], f, s2 => ⟨s2, by simp [forL]⟩
  | x :: xs, f, s2 => by
    obtain ⟨t2, e⟩ := power_loop T n d xs (2 * f) (.val x)
    refine ⟨t2, ?_⟩
    have st : evB T none n l_law_power_1 [.val d, .val (.int f), .val x] = .ok .nx [.val d, .val (.int (2 * f)), .val x] := by
      have := mulOk_l (i := 2) (j := f) (by decide)
      simp [runD, evB, evS, evE, evEs, evXs, asgT_v, asgT_t, asgTs_n, asgTs_c, atD, placeD, l_law_power_1, this]
    rw [forL_step rfl st, e, List.length_cons, Int.pow_succ, Int.mul_assoc]
theorem big62_of' {i : Int} (h : -1000000000000 ≤ i) (h2 : i ≤ 1000000000000) : big62 i = true := by
  unfold big62
  simp
  omega
theorem s_power {d : Int} (h0 : 0 ≤ d) (h1 : d ≤ 100000) : TT.G 18 [.int d] = .ok (.int (2 ^ d.toNat)) false none := tt_run 0 (show runD TT none 0 b_law_power _ = _ by
  have hb := big62_of' (i := d) (by omega) (by omega)
  obtain ⟨t2, e⟩ := power_loop TT 0 (.int d) (irange 0 d.toNat 1) 1 .emp
  simp only [irange, List.length_map, List.length_range] at e
  simp [runD, evB, evS, evE, evEs, evXs, asgT_v, asgT_t, asgTs_n, asgTs_c, atD, placeD, b_law_power, hb, List.replicate]
  simp at e
  rw [e]
  simp [runD, evB, evS, evE, evEs, evXs, asgT_v, asgT_t, asgTs_n, asgTs_c, atD, placeD]) (by simp)
theorem s_powerN (k : Nat) (h1 : k ≤ 100000) : TT.G 18 [.int (k : Int)] = .ok (.int (2 ^ k)) false none := by
  have := s_power (d := (k : Int)) (by omega) (by omega)
  simpa using this
/-! ### the draws: a reel is three ints -/
@[reducible] def reelD (a b c : Int) : D := .lst [.int a, .int b, .int c]
theorem powOk_of {v : Int} {e k : Nat} (h : v.natAbs < 2 ^ k) (hk : k * e ≤ 134217728) : powOk v (e : Int) = true := by
  unfold powOk
  have hb : Builtin.Int.intBits v ≤ k := by
    unfold Builtin.Int.intBits
    split
    · exact Nat.zero_le _
    · rename_i hv
      have hv' : v ≠ 0 := by simpa using hv
      have h0 : v.natAbs ≠ 0 := by omega
      have : v.natAbs.log2 < k := (Nat.log2_lt h0).mpr h
      omega
  have h2 : Builtin.Int.intBits v * e ≤ k * e := Nat.mul_le_mul_right e hb
  have h3 : ((Builtin.Int.intBits v : Nat) : Int) * (e : Int) ≤ 134217728 := by
    have : Builtin.Int.intBits v * e ≤ 134217728 := Nat.le_trans h2 hk
    have h4 : ((Builtin.Int.intBits v * e : Nat) : Int) ≤ 134217728 := by omega
    rw [Int.natCast_mul] at h4
    omega
  simp [h3]
def wndA (c : Int) : Int := if c - 10 ^ 18 > 0 then c - 10 ^ 18 else 0
def wndB (c k : Int) : Int := c % (10 ^ 38 + 133) * 67 + 141650939 * k + 23
def cellAt (ns : List Int) (k : Nat) : Int := (ns[k]?).getD 0
theorem s_wound0 {ns : List Int} {k : Int} (h1 : 0 ≤ k) (h2 : k ≤ 1000000) : TT.G 15 [.lst (ns.map .int), .int k] = .ok (reelD (wndA (cellAt ns k.toNat)) (wndB (cellAt ns k.toNat) k) 0) true none := tt_run 0 (show runD TT none 0 b_law_wound _ = _ by
  have e := allI_map ns
  have p1 : powOk 10 18 = true := powOk_of (v := 10) (e := 18) (k := 4) (by decide) (by decide)
  have p2 : powOk 10 38 = true := powOk_of (v := 10) (e := 38) (k := 4) (by decide) (by decide)
  have m1 : mulOk 141650939 k = true := mulOk_l (by decide)
  have m2 : ∀ z : Int, mulOk z 67 = true := fun z => mulOk_r (by decide)
  have pos : (0 : Int) < 10 ^ 38 + 133 := by decide
  by_cases hk : k < (ns.length : Int)
  · have hk' : k.toNat < ns.length := by omega
    have e3 : ns[k.toNat] = cellAt ns k.toNat := by
      unfold cellAt
      simp [hk']
    simp [runD, evB, evS, evE, evEs, evXs, asgT_v, asgT_t, asgTs_n, asgTs_c, atD, placeD, b_law_wound, hk, hk', h1, h2, e, e3, p1, p2, m1, m2, pos, List.replicate, wndA, wndB]
  · have e4 : cellAt ns k.toNat = 0 := by
      unfold cellAt
      rw [List.getElem?_eq_none (by omega)]
      rfl
    simp [runD, evB, evS, evE, evEs, evXs, asgT_v, asgT_t, asgTs_n, asgTs_c, atD, placeD, b_law_wound, e, e4, h1, h2, hk, p1, p2, m1, m2, pos, List.replicate, wndA, wndB]) (by simp)
/-- one draw: what comes, and the reel behind it -/
def spinM (b c : Int) : Int := (((b + 86028121 * (c + 1)) ^ 3 % 1000000000000000000000000000000000000000063 + 67867967 * (c + 1)) ^ 3 % 100000000000000000000000000000000000000000057) / 655331
def spinV (a b c m : Int) : Int := if 0 < a then a % m else spinM b c % m
def spA (a m : Int) : Int := if 0 < a then a / m else a
def spC (a c : Int) : Int := if 0 < a then c else c + 1
def ReelP (a b c : Int) : Prop := 0 ≤ a ∧ 0 ≤ b ∧ b < 2 ^ 200 ∧ 0 ≤ c ∧ c < 2 ^ 60
instance (a b c : Int) : Decidable (ReelP a b c) := by unfold ReelP; exact inferInstance
def manyOk (m : Int) : Prop := 0 < m ∧ m.natAbs.log2 < 9000
instance (m : Int) : Decidable (manyOk m) := by unfold manyOk; exact inferInstance
theorem s_spin0 {a b c m : Int} (h1 : 0 ≤ a) (h2 : 0 ≤ b) (h3 : b < 2 ^ 200) (h4 : 0 ≤ c) (h5 : c < 2 ^ 60) (h6 : 0 < m) (h7 : m.natAbs.log2 < 9000) : TT.G 16 [.lst [.int a, .int b, .int c], .int m] = .ok (.int (spinV a b c m)) false (some (reelD (spA a m) b (spC a c))) := tt_run 0 (show runD TT (some 0) 0 b_law_spin _ = _ by
  have dm : divOk m = true := by unfold divOk; simp [h6, h7]
  by_cases ha : 0 < a
  · simp [runD, evB, evS, evE, evEs, evXs, asgT_v, asgT_t, asgTs_n, asgTs_c, atD, placeD, b_law_spin, ha, dm, h6, List.replicate, spinV, spA, spC]
  · have p1 : powOk 10 42 = true := powOk_of (v := 10) (e := 42) (k := 4) (by decide) (by decide)
    have p2 : powOk 10 44 = true := powOk_of (v := 10) (e := 44) (k := 4) (by decide) (by decide)
    have m1 : mulOk 86028121 (c + 1) = true := mulOk_l (by decide)
    have m2 : mulOk 67867967 (c + 1) = true := mulOk_l (by decide)
    have q1 : powOk (b + 86028121 * (c + 1)) 3 = true := powOk_of (e := 3) (k := 202) (by omega) (by decide)
    have r1 : 0 ≤ (b + 86028121 * (c + 1)) ^ 3 % 1000000000000000000000000000000000000000063 := Int.emod_nonneg _ (by decide)
    have r2 : (b + 86028121 * (c + 1)) ^ 3 % 1000000000000000000000000000000000000000063 < 1000000000000000000000000000000000000000063 := Int.emod_lt_of_pos _ (by decide)
    have q2 : powOk ((b + 86028121 * (c + 1)) ^ 3 % 1000000000000000000000000000000000000000063 + 67867967 * (c + 1)) 3 = true := powOk_of (e := 3) (k := 202) (by
      generalize (b + 86028121 * (c + 1)) ^ 3 % 1000000000000000000000000000000000000000063 = z at r1 r2 ⊢
      omega) (by decide)
    have d1 : divOk 655331 = true := by decide
    have pos1 : (0 : Int) < 10 ^ 42 + 63 := by decide
    have pos2 : (0 : Int) < 10 ^ 44 + 57 := by decide
    simp [runD, evB, evS, evE, evEs, evXs, asgT_v, asgT_t, asgTs_n, asgTs_c, atD, placeD, b_law_spin, ha, dm, h6, p1, p2, m1, m2, q1, q2, d1, pos1, pos2, List.replicate, spinV, spA, spC, spinM]) (by simp)
theorem spin_bound {a b c m : Int} (h : ReelP a b c) (hm : 0 < m) : 0 ≤ spinV a b c m ∧ spinV a b c m < m := by
  unfold spinV
  split
  · exact ⟨Int.emod_nonneg _ (by omega), Int.emod_lt_of_pos _ hm⟩
  · exact ⟨Int.emod_nonneg _ (by omega), Int.emod_lt_of_pos _ hm⟩
/-- after draws: the count is at most k -/
def ReelQ (k : Nat) (a b c : Int) : Prop := 0 ≤ a ∧ 0 ≤ b ∧ b < 2 ^ 200 ∧ 0 ≤ c ∧ c ≤ k
theorem ReelQ.p {k : Nat} {a b c : Int} (h : ReelQ k a b c) (hk : k ≤ 1000000) : ReelP a b c := by
  obtain ⟨h1, h2, h3, h4, h5⟩ := h
  exact ⟨h1, h2, h3, h4, by omega⟩
theorem ReelQ.sp {k : Nat} {a b c m : Int} (h : ReelQ k a b c) (hm : 0 < m) : ReelQ (k + 1) (spA a m) b (spC a c) := by
  obtain ⟨h1, h2, h3, h4, h5⟩ := h
  unfold spA spC
  refine ⟨?_, h2, h3, ?_, ?_⟩
  · split
    · exact Int.ediv_nonneg h1 (by omega)
    · exact h1
  · split <;> omega
  · split <;> omega
theorem manyOk_of {m : Int} (k : Nat) (h : 0 < m) (h2 : m < 2 ^ k) (hk : 0 < k) (hk2 : k ≤ 9000) : manyOk m := by
  refine ⟨h, ?_⟩
  have h3 : m.natAbs < 2 ^ k := by
    have : ((m.natAbs : Nat) : Int) < 2 ^ k := by omega
    exact_mod_cast this
  have := log2_lt h3 hk
  omega
theorem wound_q (cell k : Int) (h : 0 ≤ k) (h2 : k ≤ 1000) : ReelQ 0 (wndA cell) (wndB cell k) 0 := by
  have e1 : 0 ≤ cell % (10 ^ 38 + 133) := Int.emod_nonneg _ (by decide)
  have e2 : cell % (10 ^ 38 + 133) < 10 ^ 38 + 133 := Int.emod_lt_of_pos _ (by decide)
  unfold ReelQ wndA wndB
  generalize cell % (10 ^ 38 + 133) = z at e1 e2
  refine ⟨?_, by omega, by omega, by decide, by decide⟩
  split <;> omega
/-- a reel that has drawn at most so often -/
def Reel (k : Nat) (r : D) : Prop := ∃ a b c, r = .lst [.int a, .int b, .int c] ∧ ReelQ k a b c
theorem Reel.mono {k j : Nat} {r : D} (h : Reel k r) (hk : k ≤ j) : Reel j r := by
  obtain ⟨a, b, c, e, h1, h2, h3, h4, h5⟩ := h
  exact ⟨a, b, c, e, h1, h2, h3, h4, by omega⟩
theorem s_wound {ns : List Int} {k : Int} (h1 : 0 ≤ k) (h2 : k ≤ 1000) : ∃ r, TT.G 15 [.lst (ns.map .int), .int k] = .ok r true none ∧ Reel 0 r := ⟨_, s_wound0 h1 (by omega), _, _, _, rfl, wound_q _ k h1 h2⟩
theorem s_spin {k : Nat} {r : D} {m : Int} (h : Reel k r) (hm : 0 < m) (hm2 : m ≤ 2 ^ 250) (hk : k ≤ 1000000 := by omega) : ∃ v r', TT.G 16 [r, .int m] = .ok (.int v) false (some r') ∧ 0 ≤ v ∧ v < m ∧ Reel (k + 1) r' := by
  obtain ⟨a, b, c, rfl, q⟩ := h
  have p := q.p hk
  have hm3 := manyOk_of (m := m) 251 hm (by
    have : (2 : Int) ^ 250 < 2 ^ 251 := by decide
    omega) (by decide) (by decide)
  obtain ⟨h1, h2, h3, h4, h5⟩ := p
  have bd := spin_bound (a := a) (b := b) (c := c) (m := m) (q.p hk) hm
  exact ⟨_, _, s_spin0 h1 h2 h3 h4 h5 hm3.1 hm3.2, bd.1, bd.2, _, _, _, rfl, q.sp hm⟩
end PyV
set_option Elab.async false
set_option linter.all false
set_option maxRecDepth 100000
set_option maxHeartbeats 4000000
namespace PyV
open PySem
/-! ### keys of words made of blocks -/
theorem pow2_pos (a : Nat) : (0 : Int) < 2 ^ a := Int.pow_pos (by decide)
theorem pow2_le {a b : Nat} (h : a ≤ b) : (2 : Int) ^ a ≤ 2 ^ b := by
  have := Nat.pow_le_pow_right (n := 2) (by decide) h
  exact_mod_cast this
theorem mod_step (x : Int) (a : Nat) : x % 2 ^ (a + 1) = x % 2 + 2 * (x / 2 % 2 ^ a) := by
  have hq := pow2_pos a
  have e : (2 : Int) ^ (a + 1) = 2 * 2 ^ a := by rw [Int.pow_succ, Int.mul_comm]
  rw [e]
  generalize (2 : Int) ^ a = q at hq
  have h1 := Int.emod_add_mul_ediv x 2
  have h2 := Int.emod_add_mul_ediv (x / 2) q
  have e3 : x = (x % 2 + 2 * (x / 2 % q)) + 2 * q * (x / 2 / q) := by
    rw [Int.mul_assoc]
    have : 2 * (x / 2) = 2 * (x / 2 % q) + 2 * (q * (x / 2 / q)) := by rw [← Int.mul_add, h2]
    omega
  have b1 : 0 ≤ x / 2 % q := Int.emod_nonneg _ (by omega)
  have b2 : x / 2 % q < q := Int.emod_lt_of_pos _ hq
  have b3 : 0 ≤ x % 2 + 2 * (x / 2 % q) := by omega
  have b4 : x % 2 + 2 * (x / 2 % q) < 2 * q := by omega
  have := Int.add_mul_emod_self_left (x % 2 + 2 * (x / 2 % q)) (2 * q) (x / 2 / q)
  rw [← e3] at this
  rw [this, Int.emod_eq_of_lt b3 b4]
theorem div_step (x : Int) (a : Nat) : x / 2 / 2 ^ a = x / 2 ^ (a + 1) := by
  rw [Int.ediv_ediv_of_nonneg (by decide), Int.pow_succ, Int.mul_comm]
theorem keyF_X (y : Int) (l : List Nat) : ∀ (a : Nat) (x : Int), keyF (List.replicate a 120 ++ l) x y = x % 2 ^ a + 2 ^ a * keyF l (x / 2 ^ a) y
  | 0, x => by simp [Int.emod_one]
  | a + 1, x => by
    rw [List.replicate_succ, List.cons_append, keyF, if_pos rfl, keyF_X y l a (x / 2), mod_step, div_step]
    rw [Int.pow_succ]
    generalize keyF l (x / 2 ^ (a + 1)) y = z
    generalize (2 : Int) ^ a = q
    rw [Int.mul_add, Int.add_assoc, ← Int.mul_assoc, Int.mul_comm 2 q]
theorem keyF_Y (x : Int) (l : List Nat) : ∀ (a : Nat) (y : Int), keyF (List.replicate a 121 ++ l) x y = y % 2 ^ a + 2 ^ a * keyF l x (y / 2 ^ a)
  | 0, y => by simp [Int.emod_one]
  | a + 1, y => by
    rw [List.replicate_succ, List.cons_append, keyF, if_neg (by decide), keyF_Y x l a (y / 2), mod_step, div_step]
    rw [Int.pow_succ]
    generalize keyF l x (y / 2 ^ (a + 1)) = z
    generalize (2 : Int) ^ a = q
    rw [Int.mul_add, Int.add_assoc, ← Int.mul_assoc, Int.mul_comm 2 q]
theorem keyF_X0 (x y : Int) (a : Nat) : keyF (List.replicate a 120) x y = x % 2 ^ a := by
  have := keyF_X y [] a x
  rw [List.append_nil] at this
  rw [this]
  simp [keyF]
theorem keyF_Y0 (x y : Int) (a : Nat) : keyF (List.replicate a 121) x y = y % 2 ^ a := by
  have := keyF_Y x [] a y
  rw [List.append_nil] at this
  rw [this]
  simp [keyF]
/-- the cell of a key is the cell -/
theorem cellF_keyF : ∀ (l : List Nat) (x y : Int), (∀ c ∈ l, c = 120 ∨ c = 121) → 0 ≤ x → x < 2 ^ l.count 120 → 0 ≤ y → y < 2 ^ l.count 121 → cellF l (keyF l x y) = (x, y)
  | [], x, y, _, h1, h2, h3, h4 => by
    simp at h2 h4
    have : x = 0 := by omega
    have : y = 0 := by omega
    subst x y
    rfl
  | c :: l, x, y, hc, h1, h2, h3, h4 => by
    have hl : ∀ c ∈ l, c = 120 ∨ c = 121 := fun z hz => hc z (List.mem_cons_of_mem _ hz)
    rcases hc c List.mem_cons_self with rfl | rfl
    · have e : (x % 2 + 2 * keyF l (x / 2) y) / 2 = keyF l (x / 2) y := by omega
      have e2 : (x % 2 + 2 * keyF l (x / 2) y) % 2 = x % 2 := by omega
      rw [List.count_cons_self, Int.pow_succ] at h2
      rw [List.count_cons_of_ne (by decide)] at h4
      have ih := cellF_keyF l (x / 2) y hl (by omega) (by omega) h3 h4
      rw [keyF, if_pos rfl, cellF, if_pos rfl, e, e2, ih]
      congr 1
      show x % 2 + 2 * (x / 2) = x
      omega
    · have e : (y % 2 + 2 * keyF l x (y / 2)) / 2 = keyF l x (y / 2) := by omega
      have e2 : (y % 2 + 2 * keyF l x (y / 2)) % 2 = y % 2 := by omega
      rw [List.count_cons_of_ne (by decide)] at h2
      rw [List.count_cons_self, Int.pow_succ] at h4
      have ih := cellF_keyF l x (y / 2) hl h1 h2 (by omega) (by omega)
      rw [keyF, if_neg (by decide), cellF, if_neg (by decide), e, e2, ih]
      congr 1
      show y % 2 + 2 * (y / 2) = y
      omega
theorem keyF_lt : ∀ (l : List Nat) (x y : Int), keyF l x y < 2 ^ l.length
  | [], _, _ => by simp [keyF]
  | c :: l, x, y => by
    have h1 := keyF_lt l (x / 2) y
    have h2 := keyF_lt l x (y / 2)
    rw [List.length_cons, Int.pow_succ, keyF]
    split <;> omega
theorem keyF_lt2 {l : List Nat} {x y : Int} (h : ∀ c ∈ l, c = 120 ∨ c = 121) : keyF l x y < 2 ^ (l.count 120 + l.count 121) := by
  have e : l.length = l.count 120 + l.count 121 := by
    clear x y
    induction l with
    | nil => rfl
    | cons c l ih =>
      rw [List.length_cons, ih fun z hz => h z (List.mem_cons_of_mem _ hz), List.count_cons, List.count_cons]
      rcases h c List.mem_cons_self with rfl | rfl <;> simp <;> omega
  rw [← e]
  exact keyF_lt l x y
abbrev X_ (k : Int) : List Nat := List.replicate k.toNat 120
abbrev Y_ (k : Int) : List Nat := List.replicate k.toNat 121
theorem wordB_of {w : List Nat} (h0 : w ≠ []) (h1 : ∀ c ∈ w, c = 120 ∨ c = 121) (h2 : w.count 120 ≤ 100) (h3 : w.count 121 ≤ 100) : wordB w = true := by
  unfold wordB
  simp only [Bool.and_eq_true, decide_eq_true_eq, List.all_eq_true, Bool.or_eq_true, beq_iff_eq, Bool.not_eq_true', List.isEmpty_eq_false_iff]
  exact ⟨⟨⟨h0, h1⟩, h2⟩, h3⟩
theorem rows_word {x y : Int} (h : bitsOk x y) : wordB (Y_ y ++ X_ x) = true := by
  obtain ⟨h1, h2, h3, h4, h5⟩ := h
  refine wordB_of ?_ ?_ ?_ ?_
  · intro z
    have := congrArg List.length z
    simp at this
    omega
  · intro c hc
    simp only [List.mem_append, List.mem_replicate] at hc
    omega
  · simp [List.count_append, List.count_replicate]; omega
  · simp [List.count_append, List.count_replicate]; omega
theorem cols_word {x y : Int} (h : bitsOk x y) : wordB (X_ x ++ Y_ y) = true := by
  obtain ⟨h1, h2, h3, h4, h5⟩ := h
  refine wordB_of ?_ ?_ ?_ ?_
  · intro z
    have := congrArg List.length z
    simp at this
    omega
  · intro c hc
    simp only [List.mem_append, List.mem_replicate] at hc
    omega
  · simp [List.count_append, List.count_replicate]; omega
  · simp [List.count_append, List.count_replicate]; omega
theorem s_rows {x y : Int} (hp : bitsOk x y) : TT.G 25 [.int x, .int y] = .ok (lay (Y_ y ++ X_ x)) true none := tt_run 0 (show runD TT none 0 b_rows _ = _ by
  have hw := s_new (rows_word hp)
  have hr := s_require_bits hp
  obtain ⟨h1, h2, h3, h4, h5⟩ := hp
  have b1 : x.toNat ≤ 16777216 ∧ -16777216 ≤ x ∧ x ≤ 16777216 := by omega
  have b2 : y.toNat ≤ 16777216 ∧ -16777216 ≤ y ∧ y ≤ 16777216 := by omega
  have b3 : y.toNat + x.toNat ≤ 16777216 := by omega
  simp [runD, evB, evS, evE, evEs, evXs, asgT_v, asgT_t, asgTs_n, asgTs_c, atD, placeD, b_rows, hr, b1, b2, b3, hw]) (by simp)
theorem s_columns {x y : Int} (hp : bitsOk x y) : TT.G 26 [.int x, .int y] = .ok (lay (X_ x ++ Y_ y)) true none := tt_run 0 (show runD TT none 0 b_columns _ = _ by
  have hw := s_new (cols_word hp)
  have hr := s_require_bits hp
  obtain ⟨h1, h2, h3, h4, h5⟩ := hp
  have b1 : x.toNat ≤ 16777216 ∧ -16777216 ≤ x ∧ x ≤ 16777216 := by omega
  have b2 : y.toNat ≤ 16777216 ∧ -16777216 ≤ y ∧ y ≤ 16777216 := by omega
  have b3 : x.toNat + y.toNat ≤ 16777216 := by omega
  simp [runD, evB, evS, evE, evEs, evXs, asgT_v, asgT_t, asgTs_n, asgTs_c, atD, placeD, b_columns, hr, b1, b2, b3, hw]) (by simp)
def lacedW (x y : Int) : List Nat := X_ (x - (if y < x then y else x)) ++ Y_ (y - (if y < x then y else x)) ++ reps (if y < x then y else x).toNat [121, 120]
theorem count_reps (k : Nat) : (reps k [121, 120]).count 120 = k ∧ (reps k [121, 120]).count 121 = k ∧ (reps k [121, 120]).length = 2 * k ∧ ∀ c ∈ reps k [121, 120], c = 120 ∨ c = 121 := by
  unfold reps
  induction k with
  | zero => simp
  | succ k ih =>
    obtain ⟨h1, h2, h3, h4⟩ := ih
    rw [List.replicate_succ, List.flatten_cons]
    refine ⟨by simp [List.count_append, h1], by simp [List.count_append, h2], by simp [h3]; omega, fun c hc => ?_⟩
    rcases List.mem_append.mp hc with hc | hc
    · simp at hc; omega
    · exact h4 c hc
theorem laced_word {x y : Int} (h : bitsOk x y) : wordB (lacedW x y) = true := by
  obtain ⟨h1, h2, h3, h4, h5⟩ := h
  unfold lacedW
  obtain ⟨q1, q2, q3, q4⟩ := count_reps (if y < x then y else x).toNat
  generalize hb : (if y < x then y else x) = b at *
  have hbx : b ≤ x ∧ b ≤ y ∧ 0 ≤ b ∧ (b = x ∨ b = y) := by
    rw [← hb]
    split <;> omega
  refine wordB_of ?_ ?_ ?_ ?_
  · intro z
    have := congrArg List.length z
    simp [q3] at this
    omega
  · intro c hc
    rcases List.mem_append.mp hc with hc | hc
    · simp only [List.mem_append, List.mem_replicate] at hc
      omega
    · exact q4 c hc
  · simp only [List.count_append, q1]
    simp [List.count_replicate]; omega
  · simp only [List.count_append, q2]
    simp [List.count_replicate]; omega
theorem s_laced {x y : Int} (hp : bitsOk x y) : TT.G 27 [.int x, .int y] = .ok (lay (lacedW x y)) true none := tt_run 0 (show runD TT none 0 b_laced _ = _ by
  have hw := s_new (laced_word hp)
  have hr := s_require_bits hp
  obtain ⟨h1, h2, h3, h4, h5⟩ := hp
  unfold lacedW at hw ⊢
  generalize hb : (if y < x then y else x) = b at *
  have hbx : b ≤ x ∧ b ≤ y ∧ 0 ≤ b ∧ (b = x ∨ b = y) := by
    rw [← hb]
    split <;> omega
  obtain ⟨q1, q2, q3, q4⟩ := count_reps b.toNat
  have b1 : (x - b).toNat ≤ 16777216 ∧ -16777216 ≤ x - b ∧ x - b ≤ 16777216 := by omega
  have b2 : (y - b).toNat ≤ 16777216 ∧ -16777216 ≤ y - b ∧ y - b ≤ 16777216 := by omega
  have b3 : 2 * b.toNat ≤ 16777216 ∧ -16777216 ≤ b ∧ b ≤ 16777216 := by omega
  have b4 : (x - b).toNat + (y - b).toNat ≤ 16777216 := by omega
  have b5 : (x - b).toNat + (y - b).toNat + 2 * b.toNat ≤ 16777216 := by omega
  simp only [List.append_assoc] at hw
  simp [runD, evB, evS, evE, evEs, evXs, asgT_v, asgT_t, asgTs_n, asgTs_c, atD, placeD, b_laced, hr, hb, b1, b2, b3, b4, b5, q3, hw]) (by simp)
def tiledW (x y tx ty : Int) : List Nat := Y_ (y - ty) ++ (X_ (x - tx) ++ (Y_ ty ++ X_ tx))
theorem tiled_word {x y tx ty : Int} (h : bitsOk x y) (h6 : 0 ≤ tx) (h7 : tx ≤ x) (h8 : 0 ≤ ty) (h9 : ty ≤ y) : wordB (tiledW x y tx ty) = true := by
  obtain ⟨h1, h2, h3, h4, h5⟩ := h
  unfold tiledW
  refine wordB_of ?_ ?_ ?_ ?_
  · intro z
    have := congrArg List.length z
    simp at this
    omega
  · intro c hc
    simp only [List.mem_append, List.mem_replicate] at hc
    omega
  · simp [List.count_append, List.count_replicate]; omega
  · simp [List.count_append, List.count_replicate]; omega
theorem s_tiled {x y tx ty : Int} (hp : bitsOk x y) (h6 : 0 ≤ tx) (h7 : tx ≤ x) (h8 : 0 ≤ ty) (h9 : ty ≤ y) : TT.G 28 [.int x, .int y, .int tx, .int ty] = .ok (lay (tiledW x y tx ty)) true none := tt_run 0 (show runD TT none 0 b_tiled _ = _ by
  have hw := s_new (tiled_word hp h6 h7 h8 h9)
  have hr := s_require_bits hp
  obtain ⟨h1, h2, h3, h4, h5⟩ := hp
  unfold tiledW at hw ⊢
  have b1 : (y - ty).toNat ≤ 16777216 ∧ -16777216 ≤ y - ty ∧ y - ty ≤ 16777216 := by omega
  have b2 : (x - tx).toNat ≤ 16777216 ∧ -16777216 ≤ x - tx ∧ x - tx ≤ 16777216 := by omega
  have b3 : ty.toNat ≤ 16777216 ∧ -16777216 ≤ ty ∧ ty ≤ 16777216 := by omega
  have b4 : tx.toNat ≤ 16777216 ∧ -16777216 ≤ tx ∧ tx ≤ 16777216 := by omega
  have b5 : (y - ty).toNat + (x - tx).toNat ≤ 16777216 := by omega
  have b6 : (y - ty).toNat + ((x - tx).toNat + ty.toNat) ≤ 16777216 := by omega
  have b7 : (y - ty).toNat + ((x - tx).toNat + (ty.toNat + tx.toNat)) ≤ 16777216 := by omega
  have b8 : (y - ty).toNat + ((x - tx).toNat + ty.toNat) + tx.toNat ≤ 16777216 := by omega
  have b6' : (y - ty).toNat + (x - tx).toNat + ty.toNat ≤ 16777216 := by omega
  have b7' : (y - ty).toNat + (x - tx).toNat + ty.toNat + tx.toNat ≤ 16777216 := by omega
  simp [runD, evB, evS, evE, evEs, evXs, asgT_v, asgT_t, asgTs_n, asgTs_c, atD, placeD, b_tiled, hr, h6, h7, h8, h9, b1, b2, b3, b4, b5, b6, b7, b8, b6', b7', hw]) (by simp)
theorem rows_key {x y px py : Int} (h1 : 0 ≤ px) (h2 : px < 2 ^ x.toNat) (h3 : 0 ≤ py) (h4 : py < 2 ^ y.toNat) : keyF (X_ x ++ Y_ y) px py = py * 2 ^ x.toNat + px := by
  rw [keyF_X, keyF_Y0, Int.emod_eq_of_lt h1 h2, Int.emod_eq_of_lt h3 h4, Int.mul_comm, Int.add_comm]
theorem cols_key {x y px py : Int} (h1 : 0 ≤ px) (h2 : px < 2 ^ x.toNat) (h3 : 0 ≤ py) (h4 : py < 2 ^ y.toNat) : keyF (Y_ y ++ X_ x) px py = px * 2 ^ y.toNat + py := by
  rw [keyF_Y, keyF_X0, Int.emod_eq_of_lt h1 h2, Int.emod_eq_of_lt h3 h4, Int.mul_comm, Int.add_comm]
theorem split_pow {x tx : Int} (h1 : 0 ≤ tx) (h2 : tx ≤ x) : (2 : Int) ^ x.toNat = 2 ^ tx.toNat * 2 ^ (x - tx).toNat := by
  rw [← Int.pow_add]
  congr 1
  omega
theorem div_low {x tx px : Int} (h1 : 0 ≤ tx) (h2 : tx ≤ x) (h3 : 0 ≤ px) (h4 : px < 2 ^ x.toNat) : px / 2 ^ tx.toNat % 2 ^ (x - tx).toNat = px / 2 ^ tx.toNat := by
  refine Int.emod_eq_of_lt (Int.ediv_nonneg h3 (Int.le_of_lt (pow2_pos _))) ?_
  rw [split_pow h1 h2, Int.mul_comm] at h4
  exact Int.ediv_lt_of_lt_mul (pow2_pos _) h4
theorem tiled_key {x y px py tx ty : Int} (h1 : 0 ≤ px) (h2 : px < 2 ^ x.toNat) (h3 : 0 ≤ py) (h4 : py < 2 ^ y.toNat) (h5 : 0 ≤ tx) (h6 : tx ≤ x) (h7 : 0 ≤ ty) (h8 : ty ≤ y) :
    keyF (tiledW x y tx ty).reverse px py = (py / 2 ^ ty.toNat * 2 ^ (x - tx).toNat + px / 2 ^ tx.toNat) * 2 ^ (tx + ty).toNat + (py % 2 ^ ty.toNat * 2 ^ tx.toNat + px % 2 ^ tx.toNat) := by
  unfold tiledW
  simp only [List.reverse_append, List.reverse_replicate, List.append_assoc]
  rw [keyF_X, keyF_Y, keyF_X, keyF_Y0, div_low h5 h6 h1 h2, div_low h7 h8 h3 h4]
  have e : (2 : Int) ^ (tx + ty).toNat = 2 ^ tx.toNat * 2 ^ ty.toNat := by
    rw [← Int.pow_add]
    congr 1
    omega
  rw [e]
  generalize px / 2 ^ tx.toNat = u
  generalize py / 2 ^ ty.toNat = v
  generalize px % 2 ^ tx.toNat = r
  generalize py % 2 ^ ty.toNat = s
  generalize (2 : Int) ^ tx.toNat = A
  generalize (2 : Int) ^ ty.toNat = B
  generalize (2 : Int) ^ (x - tx).toNat = C
  simp only [Int.mul_add, Int.add_mul]
  have e1 : A * (B * u) = u * (A * B) := by rw [← Int.mul_assoc, Int.mul_comm]
  have e2 : A * (B * (C * v)) = v * C * (A * B) := by rw [← Int.mul_assoc, Int.mul_comm, Int.mul_comm C v]
  rw [e1, e2, Int.mul_comm A s]
  omega
end PyV
set_option Elab.async false
set_option linter.all false
set_option maxRecDepth 100000
set_option maxHeartbeats 4000000
namespace PyV
open PySem
/-! ## a drawn word -/
theorem dw_1 {k : Nat} {r : D} {xm ym way : Int} {l : List D} {f : List Nat} {s6 s7 : Sl} (hr : Reel k r) (hk : k ≤ 999990) (hw : way = 0 ∨ way = 1 ∨ way = 2) (hf : f.length ≤ 16777216) :
    ∃ ax r', evS TT (some 0) n (.asg (.v 6) (.sub (.lst [.call 16 [.var 0, .int 2], .bin .mod (.bi .len [.var 5]) (.int 2), .call 16 [.var 0, .int 2]]) (.var 3))) [.own r, .val (.int xm), .val (.int ym), .val (.int way), .own (.lst l), .val (.str f), s6, s7] =
      .ok .nx [.own r', .val (.int xm), .val (.int ym), .val (.int way), .own (.lst l), .val (.str f), .val (.int ax), s7] ∧ (ax = 0 ∨ ax = 1) ∧ Reel (k + 2) r' := by
  obtain ⟨v1, r1, e1, a1, b1, q1⟩ := s_spin (m := 2) hr (by decide) (by decide)
  obtain ⟨v2, r2, e2, a2, b2, q2⟩ := s_spin (m := 2) q1 (by decide) (by decide)
  have hm : ((f.length : Nat) : Int) % 2 = 0 ∨ ((f.length : Nat) : Int) % 2 = 1 := by omega
  rcases hw with rfl | rfl | rfl
  · exact ⟨v1, r2, by simp [runD, evB, evS, evE, evEs, evXs, asgT_v, asgT_t, asgTs_n, asgTs_c, atD, placeD, e1, e2, hf], by omega, q2⟩
  · exact ⟨((f.length : Nat) : Int) % 2, r2, by simp [runD, evB, evS, evE, evEs, evXs, asgT_v, asgT_t, asgTs_n, asgTs_c, atD, placeD, e1, e2, hf], hm, q2⟩
  · exact ⟨v2, r2, by simp [runD, evB, evS, evE, evEs, evXs, asgT_v, asgT_t, asgTs_n, asgTs_c, atD, placeD, e1, e2, hf], by omega, q2⟩
theorem dw_2 {r : D} {xm ym way ax a b : Int} {f : List Nat} {s7 : Sl} (ha : 0 ≤ a) (hb : 0 ≤ b) (hab : ¬ (a = 0 ∧ b = 0)) (hx : ax = 0 ∨ ax = 1) :
    ∃ ay, evS TT (some 0) n (.ife (.cmp .eq (.sub (.var 4) (.var 6)) (.int 0)) [.asg (.v 6) (.bin .sub (.int 1) (.var 6))] []) [.own r, .val (.int xm), .val (.int ym), .val (.int way), .own (.lst [.int a, .int b]), .val (.str f), .val (.int ax), s7] =
      .ok .nx [.own r, .val (.int xm), .val (.int ym), .val (.int way), .own (.lst [.int a, .int b]), .val (.str f), .val (.int ay), s7] ∧ (ay = 0 ∧ 0 < a ∨ ay = 1 ∧ 0 < b) := by
  rcases hx with rfl | rfl
  · by_cases h : a = 0
    · exact ⟨1, by simp [runD, evB, evS, evE, evEs, evXs, asgT_v, asgT_t, asgTs_n, asgTs_c, atD, placeD, h], .inr ⟨rfl, by omega⟩⟩
    · exact ⟨0, by simp [runD, evB, evS, evE, evEs, evXs, asgT_v, asgT_t, asgTs_n, asgTs_c, atD, placeD, h], .inl ⟨rfl, by omega⟩⟩
  · by_cases h : b = 0
    · exact ⟨0, by simp [runD, evB, evS, evE, evEs, evXs, asgT_v, asgT_t, asgTs_n, asgTs_c, atD, placeD, h], .inl ⟨rfl, by omega⟩⟩
    · exact ⟨1, by simp [runD, evB, evS, evE, evEs, evXs, asgT_v, asgT_t, asgTs_n, asgTs_c, atD, placeD, h], .inr ⟨rfl, by omega⟩⟩
theorem dw_3 {k : Nat} {r : D} {xm ym way ay a b : Int} {f : List Nat} {s7 : Sl} (hr : Reel k r) (hk : k ≤ 999990) (hw : way = 0 ∨ way = 1 ∨ way = 2) (ha : a ≤ 100) (hb : b ≤ 100) (hy : ay = 0 ∧ 0 < a ∨ ay = 1 ∧ 0 < b) :
    ∃ m r', evS TT (some 0) n (.asg (.v 7) (.sub (.lst [.int 1, .int 1, .bin .add (.int 1) (.call 16 [.var 0, .sub (.var 4) (.var 6)])]) (.var 3))) [.own r, .val (.int xm), .val (.int ym), .val (.int way), .own (.lst [.int a, .int b]), .val (.str f), .val (.int ay), s7] =
      .ok .nx [.own r', .val (.int xm), .val (.int ym), .val (.int way), .own (.lst [.int a, .int b]), .val (.str f), .val (.int ay), .val (.int m)] ∧ 1 ≤ m ∧ m ≤ (if ay = 0 then a else b) ∧ Reel (k + 1) r' := by
  have big : (100 : Int) ≤ 2 ^ 250 := by decide
  rcases hy with ⟨rfl, h⟩ | ⟨rfl, h⟩
  · obtain ⟨v1, r1, e1, a1, b1, q1⟩ := s_spin (m := a) hr (by omega) (by omega)
    rcases hw with rfl | rfl | rfl
    · exact ⟨1, r1, by simp [runD, evB, evS, evE, evEs, evXs, asgT_v, asgT_t, asgTs_n, asgTs_c, atD, placeD, e1], by omega, by rw [if_pos rfl]; omega, q1⟩
    · exact ⟨1, r1, by simp [runD, evB, evS, evE, evEs, evXs, asgT_v, asgT_t, asgTs_n, asgTs_c, atD, placeD, e1], by omega, by rw [if_pos rfl]; omega, q1⟩
    · exact ⟨1 + v1, r1, by simp [runD, evB, evS, evE, evEs, evXs, asgT_v, asgT_t, asgTs_n, asgTs_c, atD, placeD, e1], by omega, by rw [if_pos rfl]; omega, q1⟩
  · obtain ⟨v1, r1, e1, a1, b1, q1⟩ := s_spin (m := b) hr (by omega) (by omega)
    rcases hw with rfl | rfl | rfl
    · exact ⟨1, r1, by simp [runD, evB, evS, evE, evEs, evXs, asgT_v, asgT_t, asgTs_n, asgTs_c, atD, placeD, e1], by omega, by rw [if_neg (by decide)]; omega, q1⟩
    · exact ⟨1, r1, by simp [runD, evB, evS, evE, evEs, evXs, asgT_v, asgT_t, asgTs_n, asgTs_c, atD, placeD, e1], by omega, by rw [if_neg (by decide)]; omega, q1⟩
    · exact ⟨1 + v1, r1, by simp [runD, evB, evS, evE, evEs, evXs, asgT_v, asgT_t, asgTs_n, asgTs_c, atD, placeD, e1], by omega, by rw [if_neg (by decide)]; omega, q1⟩
theorem dw_4 {r : D} {xm ym way ay a b m : Int} {f : List Nat} (hy : ay = 0 ∧ 0 < a ∨ ay = 1 ∧ 0 < b) (h1 : 1 ≤ m) (hm : m ≤ 100) (hf : f.length ≤ 1000) :
    evB TT (some 0) n [.asg (.v 5) (.bin .add (.var 5) (.bin .mul (.sub (.str [120, 121]) (.var 6)) (.var 7))), .set 4 (.var 6) (.bin .sub (.sub (.var 4) (.var 6)) (.var 7))] [.own r, .val (.int xm), .val (.int ym), .val (.int way), .own (.lst [.int a, .int b]), .val (.str f), .val (.int ay), .val (.int m)] =
      .ok .nx [.own r, .val (.int xm), .val (.int ym), .val (.int way), .own (.lst (if ay = 0 then [.int (a - m), .int b] else [.int a, .int (b - m)])), .val (.str (f ++ List.replicate m.toNat (if ay = 0 then 120 else 121))), .val (.int ay), .val (.int m)] := by
  have b1 : m.toNat ≤ 16777216 ∧ -16777216 ≤ m ∧ m ≤ 16777216 := by omega
  have b2 : f.length + m.toNat ≤ 16777216 := by omega
  rcases hy with ⟨rfl, h⟩ | ⟨rfl, h⟩
  · simp [runD, evB, evS, evE, evEs, evXs, asgT_v, asgT_t, asgTs_n, asgTs_c, atD, placeD, b1, b2]
  · simp [runD, evB, evS, evE, evEs, evXs, asgT_v, asgT_t, asgTs_n, asgTs_c, atD, placeD, b1, b2]
structure Dw (K A B : Nat) (xm ym way : Int) (m : Nat) (s : Ss) : Prop where
  h : ∃ (r : D) (a b : Nat) (f : List Nat) (s6 s7 : Sl), s = [.own r, .val (.int xm), .val (.int ym), .val (.int way), .own (.lst [.int (a : Int), .int (b : Int)]), .val (.str f), s6, s7] ∧ m = a + b ∧ Reel (K + 3 * (A + B - m)) r ∧ f.count 120 + a = A ∧ f.count 121 + b = B ∧ (∀ c ∈ f, c = 120 ∨ c = 121) ∧ f.length = f.count 120 + f.count 121
theorem dw_turn {K A B : Nat} {xm ym way : Int} (hK : K ≤ 900000) (hA : A ≤ 100) (hB : B ≤ 100) (hw : way = 0 ∨ way = 1 ∨ way = 2) (m : Nat) (s : Ss) (I : Dw K A B xm ym way m s) :
    (∃ s1, tstR (evE TT (some 0) c_law_drawn_word_1 s) = .ok false s1 ∧ Dw K A B xm ym way 0 s1) ∨
    (∃ s1 s2 m', tstR (evE TT (some 0) c_law_drawn_word_1 s) = .ok true s1 ∧ evB TT (some 0) n l_law_drawn_word_1 s1 = .ok .nx s2 ∧ m' < m ∧ Dw K A B xm ym way m' s2) := by
  obtain ⟨r, a, b, f, s6, s7, rfl, hm, hr, h1, h2, h3, h4⟩ := I
  by_cases hz : a = 0 ∧ b = 0
  · obtain ⟨rfl, rfl⟩ := hz
    have : m = 0 := by omega
    subst this
    exact .inl ⟨_, by simp [runD, evB, evS, evE, evEs, evXs, asgT_v, asgT_t, asgTs_n, asgTs_c, atD, placeD, c_law_drawn_word_1], ⟨r, 0, 0, f, s6, s7, rfl, rfl, hr, h1, h2, h3, h4⟩⟩
  · have hz' : (a : Int) = 0 → ¬ (b : Int) = 0 := fun z y => hz ⟨by omega, by omega⟩
    have c1 : f.count 120 ≤ 100 := by omega
    have c2 : f.count 121 ≤ 100 := by omega
    have t : tstR (evE TT (some 0) c_law_drawn_word_1 [.own r, .val (.int xm), .val (.int ym), .val (.int way), .own (.lst [.int (a : Int), .int (b : Int)]), .val (.str f), s6, s7]) = .ok true [.own r, .val (.int xm), .val (.int ym), .val (.int way), .own (.lst [.int (a : Int), .int (b : Int)]), .val (.str f), s6, s7] := by
      simp [runD, evB, evS, evE, evEs, evXs, asgT_v, asgT_t, asgTs_n, asgTs_c, atD, placeD, c_law_drawn_word_1]
      by_cases z : (a : Int) = 0
      · have := hz' z
        omega
      · skip
        omega
    obtain ⟨ax, r1, e1, q1, R1⟩ := dw_1 (n := n) (xm := xm) (ym := ym) (l := [.int (a : Int), .int (b : Int)]) (s6 := s6) (s7 := s7) hr (by omega) hw (f := f) (by omega)
    obtain ⟨ay, e2, q2⟩ := dw_2 (n := n) (r := r1) (xm := xm) (ym := ym) (way := way) (a := a) (b := b) (f := f) (s7 := s7) (by omega) (by omega) (by omega) q1
    obtain ⟨y, r2, e3, y1, y2, R2⟩ := dw_3 (n := n) (xm := xm) (ym := ym) (f := f) (s7 := s7) R1 (by omega) hw (a := a) (b := b) (by omega) (by omega) q2
    have yb : y ≤ 100 := by
      split at y2 <;> omega
    have e4 := dw_4 (n := n) (r := r2) (xm := xm) (ym := ym) (way := way) (f := f) q2 y1 yb (by omega)
    have e5 := (evB_step e1).trans ((evB_step e2).trans ((evB_step e3).trans e4))
    obtain ⟨z, rfl⟩ : ∃ z : Nat, y = (z : Int) := ⟨y.toNat, by omega⟩
    rcases q2 with ⟨rfl, q⟩ | ⟨rfl, q⟩
    · simp only [if_true] at e5 y2
      refine .inr ⟨_, _, m - z, t, e5, by omega, ⟨r2, a - z, b, f ++ List.replicate z 120, .val (.int 0), .val (.int z), ?_, by omega, R2.mono (by omega), ?_, ?_, ?_, ?_⟩⟩
      · rw [show ((a - z : Nat) : Int) = (a : Int) - (z : Int) by omega]
        simp
      · simp [List.count_append, List.count_replicate]; omega
      · simp [List.count_append, List.count_replicate]; omega
      · intro c hc
        rcases List.mem_append.mp hc with hc | hc
        · exact h3 c hc
        · exact .inl (List.eq_of_mem_replicate hc)
      · simp [List.count_append, List.count_replicate]; omega
    · simp only [show ¬ ((1 : Int) = 0) by decide, if_false] at e5 y2
      refine .inr ⟨_, _, m - z, t, e5, by omega, ⟨r2, a, b - z, f ++ List.replicate z 121, .val (.int 1), .val (.int z), ?_, by omega, R2.mono (by omega), ?_, ?_, ?_, ?_⟩⟩
      · rw [show ((b - z : Nat) : Int) = (b : Int) - (z : Int) by omega]
        simp
      · simp [List.count_append, List.count_replicate]; omega
      · simp [List.count_append, List.count_replicate]; omega
      · intro c hc
        rcases List.mem_append.mp hc with hc | hc
        · exact h3 c hc
        · exact .inr (List.eq_of_mem_replicate hc)
      · simp [List.count_append, List.count_replicate]; omega
theorem s_drawn_word {k : Nat} {r : D} {xm ym : Int} (hr : Reel k r) (hk : k ≤ 800000) (hx : 0 ≤ xm) (hx2 : xm ≤ 100) (hy : 0 ≤ ym) (hy2 : ym ≤ 100) :
    ∃ w r', TT.G 17 [r, .int xm, .int ym] = .ok (.str w) false (some r') ∧ wordB w = true ∧ ((w.count 120 : Nat) : Int) ≤ (if xm = 0 then 1 else xm) ∧ ((w.count 121 : Nat) : Int) ≤ ym ∧ Reel (k + 1000) r' := by
  have big : (101 : Int) ≤ 2 ^ 250 := by decide
  obtain ⟨v1, r1, e1, a1, b1, q1⟩ := s_spin (m := xm + 1) hr (by omega) (by omega)
  obtain ⟨v2, r2, e2, a2, b2, q2⟩ := s_spin (m := ym + 1) q1 (by omega) (by omega)
  obtain ⟨v3, r3, e3, a3, b3, q3⟩ := s_spin (m := 3) q2 (by omega) (by omega)
  obtain ⟨A, B, hA, hB, hAB, hst⟩ : ∃ A B : Nat, (A : Int) ≤ (if xm = 0 then 1 else xm) ∧ (B : Int) ≤ ym ∧ ¬ (A = 0 ∧ B = 0) ∧ evB TT (some 0) 1000 (b_law_drawn_word.body.take 3) [.own r, .val (.int xm), .val (.int ym), .emp, .emp, .emp, .emp, .emp] = .ok .nx [.own r3, .val (.int xm), .val (.int ym), .val (.int v3), .own (.lst [.int (A : Int), .int (B : Int)]), .val (.str []), .emp, .emp] := by
    by_cases z : v1 = 0 ∧ v2 = 0
    · obtain ⟨rfl, rfl⟩ := z
      refine ⟨1, 0, ?_, by omega, by omega, ?_⟩
      · split <;> omega
      · simp [runD, evB, evS, evE, evEs, evXs, asgT_v, asgT_t, asgTs_n, asgTs_c, atD, placeD, b_law_drawn_word, e1, e2, e3]
    · refine ⟨v1.toNat, v2.toNat, ?_, by omega, by omega, ?_⟩
      · split <;> omega
      · have z1 : ((v1.toNat : Nat) : Int) = v1 := by omega
        have z2 : ((v2.toNat : Nat) : Int) = v2 := by omega
        have z3 : v1 = 0 → ¬ v2 = 0 := fun x y => z ⟨x, y⟩
        rw [z1, z2]
        simp [runD, evB, evS, evE, evEs, evXs, asgT_v, asgT_t, asgTs_n, asgTs_c, atD, placeD, b_law_drawn_word, e1, e2, e3]
        by_cases y : v1 = 0
        · simp [y, z3 y, e3]
        · simp [y, e3]
  have hA' : A ≤ 100 := by split at hA <;> omega
  obtain ⟨s1, ew, ⟨r4, a, b, f, s6, s7, rfl, hm, hr4, h1, h2, h3, h4⟩⟩ := whl_inv (cond := fun s => tstR (evE TT (some 0) c_law_drawn_word_1 s)) (body := evB TT (some 0) 1000 l_law_drawn_word_1) (Dw (k + 3) A B xm ym v3) (Dw (k + 3) A B xm ym v3 0)
    (dw_turn (by omega) hA' (by omega) (by omega)) 1000 (A + B) _ ⟨r3, A, B, [], .emp, .emp, rfl, rfl, q3.mono (by omega), by simp, by simp, by simp, by simp⟩ (by omega)
  have a0 : a = 0 := by omega
  have b0 : b = 0 := by omega
  subst a0 b0
  refine ⟨f, r4, tt_run 1000 (show runD TT (some 0) 1000 b_law_drawn_word _ = _ from ?_) (by simp), wordB_of ?_ h3 (by omega) (by omega), by omega, by omega, hr4.mono (by omega)⟩
  · have e5 : evB TT (some 0) 1000 b_law_drawn_word.body [.own r, .val (.int xm), .val (.int ym), .emp, .emp, .emp, .emp, .emp] = .ok (.rt (.str f) false) [.own r4, .val (.int xm), .val (.int ym), .val (.int v3), .own (.lst [.int ((0 : Nat) : Int), .int ((0 : Nat) : Int)]), .val (.str f), s6, s7] := by
      rw [show b_law_drawn_word.body = b_law_drawn_word.body.take 3 ++ [.whl c_law_drawn_word_1 l_law_drawn_word_1, .ret (.var 5)] from rfl, evB_app hst]
      simp only [evB, evS, ew]
      simp [runD, evB, evS, evE, evEs, evXs, asgT_v, asgT_t, asgTs_n, asgTs_c, atD, placeD]
    exact run_rt e5 rfl
  · intro z
    subst z
    simp at h1 h2
    omega
end PyV
set_option Elab.async false
set_option linter.all false
set_option maxRecDepth 100000
set_option maxHeartbeats 4000000
namespace PyV
open PySem
/-! ## comprehensions and loops in general -/
section
variable {α : Type} {st : D → Ss → Option Ss} {cond : Ss → R Bool} {elt : Ss → R Rv} {wp : Ss → Ss} {s : Ss}
theorem lcL_mapA {g F : α → D} {P : α → Bool} : ∀ {xs : List α} {acc : List D}, acc.length + xs.length ≤ 16777216 →
    (∀ a ∈ xs, ∃ s1, st (g a) s = some s1 ∧ cond s1 = .ok (P a) s1 ∧ wp s1 = s ∧ (P a = true → ∃ r, elt s1 = .ok r s1 ∧ fz s1 r = some (F a, s1))) →
    lcL st cond elt wp (xs.map g) acc s = .ok (acc ++ (xs.filter P).map F) s
  | [], acc, _, _ => by simp [lcL]
  | d :: ds, acc, hl, h => by
    obtain ⟨s1, h1, h2, h3, h4⟩ := h d List.mem_cons_self
    have hl' : acc.length + (ds.length + 1) ≤ 16777216 := hl
    rw [List.map_cons]
    cases hp : P d with
    | true =>
      obtain ⟨r, h5, h6⟩ := h4 hp
      rw [hp] at h2
      rw [lcL_step h1 h2 h5 h6 (by omega), h3, lcL_mapA (by simp; omega) fun e he => h e (List.mem_cons_of_mem _ he)]
      simp [List.filter_cons, hp]
    | false =>
      rw [hp] at h2
      rw [lcL_skip h1 h2, h3, lcL_mapA (by omega) fun e he => h e (List.mem_cons_of_mem _ he)]
      simp [List.filter_cons, hp]
theorem filter_tt (l : List α) : l.filter (fun _ => true) = l := by induction l with | nil => rfl | cons a l ih => simp [ih]
/-- a comprehension of one for, no if -/
theorem ev_lc {T : Tab} {p : Option Nat} {e : E} {t : PyV.T} {k : Ik} {its : List E} {own : List Nat} {s1 s2 : Ss} {rs : List Rv} {ds : List D} (xs : List α) (g F : α → D) (h1 : evEs T p its s = .ok rs s1) (h2 : fzs s1 rs = some (ds, s2)) (h3 : itemsD k ds = some (xs.map g)) (h4 : noOwn p own s2 = true) (hl : xs.length ≤ 16777216)
    (step : ∀ a ∈ xs, ∃ s', asgT p t (g a) (wipeS own s2) = some s' ∧ wipeS own s' = wipeS own s2 ∧ ∃ r, evE T p e s' = .ok r s' ∧ fz s' r = some (F a, s')) :
    evE T p (.lc e t k its .nop own) s = .ok (.own (.lst (xs.map F))) (restS s2 own (wipeS own s2)) := by
  have key := lcL_mapA (st := asgT p t) (cond := condD T p .nop) (elt := evE T p e) (wp := wipeS own) (s := wipeS own s2) (g := g) (F := F) (P := fun _ => true) (xs := xs) (acc := []) (by simpa using hl) fun a ha => by
    obtain ⟨s', q1, q2, q3⟩ := step a ha
    exact ⟨s', q1, rfl, q2, fun _ => q3⟩
  rw [lc_eq, h1]
  simp only [R.bind, h2, h3, h4, if_true, key, filter_tt, List.nil_append]
/-- .. with an if -/
theorem ev_lcP {T : Tab} {p : Option Nat} {e c : E} {t : PyV.T} {k : Ik} {its : List E} {own : List Nat} {s1 s2 : Ss} {rs : List Rv} {ds : List D} (xs : List α) (g F : α → D) (P : α → Bool) (hc : c ≠ .nop) (h1 : evEs T p its s = .ok rs s1) (h2 : fzs s1 rs = some (ds, s2)) (h3 : itemsD k ds = some (xs.map g)) (h4 : noOwn p own s2 = true) (hl : xs.length ≤ 16777216)
    (step : ∀ a ∈ xs, ∃ s', asgT p t (g a) (wipeS own s2) = some s' ∧ tstR (evE T p c s') = .ok (P a) s' ∧ wipeS own s' = wipeS own s2 ∧ (P a = true → ∃ r, evE T p e s' = .ok r s' ∧ fz s' r = some (F a, s'))) :
    evE T p (.lc e t k its c own) s = .ok (.own (.lst ((xs.filter P).map F))) (restS s2 own (wipeS own s2)) := by
  have hcd : condD T p c = fun s => tstR (evE T p c s) := by
    unfold condD
    cases c <;> first | rfl | exact absurd rfl hc
  have key := lcL_mapA (st := asgT p t) (cond := condD T p c) (elt := evE T p e) (wp := wipeS own) (s := wipeS own s2) (g := g) (F := F) (P := P) (xs := xs) (acc := []) (by simpa using hl) fun a ha => by
    obtain ⟨s', q1, q2, q3, q4⟩ := step a ha
    exact ⟨s', q1, by rw [hcd]; exact q2, q3, q4⟩
  rw [lc_eq, h1]
  simp only [R.bind, h2, h3, h4, if_true, key, List.nil_append]
/-- a loop that goes on to its end, as a fold -/
theorem for_fold {β : Type} {st : D → Ss → Option Ss} {body : Ss → R Fl} (g : α → D) (S : β → Ss) (f : β → α → β) (J : β → Prop) : ∀ {xs : List α} {b : β}, J b →
    (∀ b a, a ∈ xs → J b → ∃ s1, st (g a) (S b) = some s1 ∧ body s1 = .ok .nx (S (f b a)) ∧ J (f b a)) → forL st body (xs.map g) (S b) = .ok .nx (S (xs.foldl f b)) ∧ J (xs.foldl f b)
  | [], b, h, _ => ⟨rfl, h⟩
  | a :: xs, b, h, step => by
    obtain ⟨s1, h1, h2, h3⟩ := step b a List.mem_cons_self h
    have ih := for_fold g S f J (xs := xs) h3 fun b a ha => step b a (List.mem_cons_of_mem _ ha)
    rw [List.map_cons, forL_step h1 h2]
    exact ih
end
theorem evS_for {T : Tab} {p : Option Nat} {n : Nat} {t : PyV.T} {k : Ik} {its : List E} {b : List S} {s s1 s2 : Ss} {rs : List Rv} {ds xs : List D} (h1 : evEs T p its s = .ok rs s1) (h2 : fzs s1 rs = some (ds, s2)) (h3 : itemsD k ds = some xs) : evS T p n (.for_ t k its b) s = forL (asgT p t) (evB T p n b) xs s2 := by
  simp only [evS, h1, R.bind, h2, h3]
theorem allI_eqs (ns : List Int) : allI (ns.map .int) = some ns := allI_map ns
/-! ## boxes -/
@[reducible] def boxD (b : Bx) : D := .tup [.int b.x1, .int b.y1, .int b.x2, .int b.y2]
theorem mulOk_b {i j : Int} (h1 : -(2 ^ 400) < i) (h2 : i < 2 ^ 400) (h3 : -(2 ^ 400) < j) (h4 : j < 2 ^ 400) : mulOk i j = true := mulOk_of (a := 400) (b := 400) (by omega) (by omega) (by decide) (by decide) (by decide)
theorem div_bd {z q B : Int} (hq : 0 < q) (h1 : -B ≤ z) (h2 : z < B) (hB : 0 < B) : -B ≤ z / q ∧ z / q < B := by
  constructor
  · refine Int.le_ediv_of_mul_le hq ?_
    have : -B * q ≤ -B * 1 := Int.mul_le_mul_of_nonpos_left (by omega) (by omega)
    omega
  · refine Int.ediv_lt_of_lt_mul hq ?_
    have : B * 1 ≤ B * q := Int.mul_le_mul_of_nonneg_left (by omega) (by omega)
    omega
theorem mulsF_nn (q lo hi : Int) : 0 ≤ mulsF q lo hi := by
  unfold mulsF
  split <;> omega
theorem mulsF_bd {q lo hi B : Int} (hq : 0 < q) (hB : 0 < B) (h1 : -B < lo) (h2 : lo ≤ B) (h3 : -B ≤ hi) (h4 : hi < B) : mulsF q lo hi ≤ 2 * B := by
  have e1 := div_bd hq h3 h4 hB
  have e2 := div_bd hq (by omega : -B ≤ lo - 1) (by omega) hB
  unfold mulsF
  split <;> omega
@[simp] theorem s_multiples (p : Nat) (lo hi : Int) : TT.G 48 [.int (p : Int), .int lo, .int hi] = .ok (.int (mulsF (2 ^ p) lo hi)) false none := tt_run 0 (show runD TT none 0 b_multiples _ = _ by simp [runD, evB, evS, evE, evEs, evXs, asgT_v, asgT_t, asgTs_n, asgTs_c, atD, placeD, b_multiples, mulsF]) (by simp)
@[simp] theorem s_odd_multiples (p : Nat) (lo hi : Int) : TT.G 49 [.int (p : Int), .int lo, .int hi] = .ok (.int (mulsF (2 ^ p) lo hi - mulsF (2 ^ (p + 1)) lo hi)) false none := tt_run 0 (show runD TT none 0 b_odd_multiples _ = _ by
  have e := s_multiples (p + 1) lo hi
  rw [show ((p + 1 : Nat) : Int) = (p : Int) + 1 by omega] at e
  simp [runD, evB, evS, evE, evEs, evXs, asgT_v, asgT_t, asgTs_n, asgTs_c, atD, placeD, b_odd_multiples, e]) (by simp)
theorem s_aligned (p : Nat) (lo hi : Int) (hp : p ≤ 100000) : TT.G 50 [.int (p : Int), .int lo, .int hi] = .ok (.int (algnF p lo hi)) false none := tt_run 0 (show runD TT none 0 b_aligned _ = _ by
  have s1 := shlOk_one (a := (p : Int)) (by omega) (by omega)
  simp [runD, evB, evS, evE, evEs, evXs, asgT_v, asgT_t, asgTs_n, asgTs_c, atD, placeD, b_aligned, s1, algnF]) (by simp)
@[simp] theorem s_inner_odd (p : Nat) (lo hi : Int) : TT.G 51 [.int (p : Int), .int lo, .int hi] = .ok (.int (oddsF p lo hi)) false none := tt_run 0 (show runD TT none 0 b_inner_odd _ = _ by simp [runD, evB, evS, evE, evEs, evXs, asgT_v, asgT_t, asgTs_n, asgTs_c, atD, placeD, b_inner_odd, oddsF]) (by simp)
/-- sides below 2 ^ 100 -/
def Bx.sm (b : Bx) : Prop := 0 ≤ b.x1 ∧ b.x1 ≤ b.x2 ∧ b.x2 < 2 ^ 100 ∧ 0 ≤ b.y1 ∧ b.y1 ≤ b.y2 ∧ b.y2 < 2 ^ 100
theorem Bx.ok.sm {b : Bx} {l : List Nat} (h : b.ok l) (c1 : l.count 120 ≤ 100) (c2 : l.count 121 ≤ 100) : b.sm := by
  obtain ⟨h1, h2, h3, h4, h5, h6⟩ := h
  have e1 := pow2_le c1
  have e2 := pow2_le c2
  exact ⟨h1, h2, by omega, h4, h5, by omega⟩
theorem Bx.area_bd {b : Bx} (h : b.sm) : 0 < b.area ∧ b.area < 2 ^ 203 := by
  obtain ⟨h1, h2, h3, h4, h5, h6⟩ := h
  unfold Bx.area
  have p : 0 < b.x2 - b.x1 + 1 := by omega
  have q : 0 < b.y2 - b.y1 + 1 := by omega
  refine ⟨Int.mul_pos p q, ?_⟩
  have : (b.x2 - b.x1 + 1) * (b.y2 - b.y1 + 1) ≤ 2 ^ 101 * 2 ^ 101 := Int.mul_le_mul (by omega) (by omega) (by omega) (by decide)
  omega
theorem s_area_of {b : Bx} (h : b.sm) : TT.G 47 [boxD b] = .ok (.int b.area) false none := tt_run 0 (show runD TT none 0 b_area_of _ = _ by
  obtain ⟨h1, h2, h3, h4, h5, h6⟩ := h
  have m := mulOk_b (i := b.x2 - b.x1 + 1) (j := b.y2 - b.y1 + 1) (by omega) (by omega) (by omega) (by omega)
  simp [runD, evB, evS, evE, evEs, evXs, asgT_v, asgT_t, asgTs_n, asgTs_c, atD, placeD, b_area_of, m, Bx.area]) (by simp)
theorem oddsF_bd {i : Nat} {lo hi : Int} (h1 : 0 ≤ lo) (h2 : hi < 2 ^ 100) (h3 : lo ≤ hi) : -(2 ^ 102) ≤ oddsF i lo hi ∧ oddsF i lo hi ≤ 2 ^ 102 := by
  have e1 := mulsF_bd (q := 2 ^ i) (lo := lo + 1) (hi := hi) (B := 2 ^ 100) (p2 i) (by decide) (by omega) (by omega) (by omega) h2
  have e2 := mulsF_bd (q := 2 ^ (i + 1)) (lo := lo + 1) (hi := hi) (B := 2 ^ 100) (p2 _) (by decide) (by omega) (by omega) (by omega) h2
  have n1 := mulsF_nn (2 ^ i) (lo + 1) hi
  have n2 := mulsF_nn (2 ^ (i + 1)) (lo + 1) hi
  unfold oddsF
  omega
theorem algnF_bd {j : Nat} {lo hi : Int} (h1 : 0 ≤ lo) (h2 : hi < 2 ^ 100) (h3 : lo ≤ hi) (hj : j ≤ 200) : 0 ≤ algnF j lo hi ∧ algnF j lo hi ≤ 2 ^ 202 := by
  have := pow2_le hj
  have hp := p2 j
  unfold algnF
  refine ⟨mulsF_nn _ _ _, ?_⟩
  have := mulsF_bd (q := 2 ^ j) (lo := lo) (hi := hi - 2 ^ j + 1) (B := 2 ^ 201) hp (by decide) (by omega) (by omega) (by omega) (by omega)
  omega
theorem s_box_saves {b : Bx} (h : b.sm) (f : Nat × Nat × Nat) (h1 : f.2.1 ≤ 200) (h2 : f.2.2 ≤ 200) : TT.G 52 [boxD b, .str [f.1], .int (f.2.1 : Int), .int (f.2.2 : Int)] = .ok (.int (savF b f)) false none := tt_run 0 (show runD TT none 0 b_box_saves _ = _ by
  obtain ⟨g1, g2, g3, g4, g5, g6⟩ := h
  have a1 := s_aligned f.2.2 b.y1 b.y2 (by omega)
  have a2 := s_aligned f.2.1 b.x1 b.x2 (by omega)
  have o1 := oddsF_bd (i := f.2.1) g1 g3 g2
  have o2 := oddsF_bd (i := f.2.2) g4 g6 g5
  have l1 := algnF_bd (j := f.2.2) g4 g6 g5 h2
  have l2 := algnF_bd (j := f.2.1) g1 g3 g2 h1
  have m1 := mulOk_b (i := oddsF f.2.1 b.x1 b.x2) (j := algnF f.2.2 b.y1 b.y2) (by omega) (by omega) (by omega) (by omega)
  have m2 := mulOk_b (i := oddsF f.2.2 b.y1 b.y2) (j := algnF f.2.1 b.x1 b.x2) (by omega) (by omega) (by omega) (by omega)
  by_cases hc : f.1 = 120
  · simp [runD, evB, evS, evE, evEs, evXs, asgT_v, asgT_t, asgTs_n, asgTs_c, atD, placeD, b_box_saves, a1, m1, savF, hc]
  · simp [runD, evB, evS, evE, evEs, evXs, asgT_v, asgT_t, asgTs_n, asgTs_c, atD, placeD, b_box_saves, a2, m2, savF, hc]) (by simp)
@[simp] theorem s_require_layout (w : List Nat) : TT.G 45 [.obj 0 [ow] [.str w]] = .ok .non false none := tt_run 0 (show runD TT none 0 b_require_layout _ = _ by simp [runD, evB, evS, evE, evEs, evXs, asgT_v, asgT_t, asgTs_n, asgTs_c, atD, placeD, b_require_layout]) (by simp)
theorem s_is_box {b : Bx} {a c : Int} (h1 : 0 ≤ a) (h2 : a ≤ 1000) (h3 : 0 ≤ c) (h4 : c ≤ 1000) (g1 : 0 ≤ b.x1) (g2 : b.x1 ≤ b.x2) (g3 : b.x2 < 2 ^ a.toNat) (g4 : 0 ≤ b.y1) (g5 : b.y1 ≤ b.y2) (g6 : b.y2 < 2 ^ c.toNat) : TT.G 44 [boxD b, .int a, .int c] = .ok (.bl true) false none := tt_run 0 (show runD TT none 0 b_is_box _ = _ by
  have s1 := shlOk_one h1 (by omega)
  have s2 := shlOk_one h3 (by omega)
  simp [runD, evB, evS, evE, evEs, evXs, asgT_v, asgT_t, asgTs_n, asgTs_c, atD, placeD, b_is_box, c_is_box_1, lcL, noOwn, s1, s2, g1, g2, g3, g4, g5, g6]) (by simp)
theorem s_require_box {b : Bx} {w : List Nat} (hw : wordB w = true) (hb : b.ok w) : TT.G 46 [.int (w.count 120 : Nat), .int (w.count 121 : Nat), boxD b] = .ok .non false none := tt_run 0 (show runD TT none 0 b_require_box _ = _ by
  obtain ⟨h1, h2, h3, h4, h5, h6⟩ := hb
  have hl := wordB_len hw
  have c1 : List.count 120 w ≤ 200 := Nat.le_trans List.count_le_length hl
  have c2 : List.count 121 w ≤ 200 := Nat.le_trans List.count_le_length hl
  have e := s_is_box (b := b) (a := (w.count 120 : Nat)) (c := (w.count 121 : Nat)) (by omega) (by omega) (by omega) (by omega) h1 h2 (by simpa using h3) h4 h5 (by simpa using h6)
  simp [runD, evB, evS, evE, evEs, evXs, asgT_v, asgT_t, asgTs_n, asgTs_c, atD, placeD, b_require_box, e]) (by simp)
/-! ## feet as data -/
@[reducible] def footD (f : Nat × Nat × Nat) : D := .tup [.str [f.1], .int (f.2.1 : Int), .int (f.2.2 : Int)]
theorem feetF_N : ∀ (l : List Nat) (i j : Nat), feetF l i j = (feetN l i j).map footD
  | [], _, _ => rfl
  | c :: r, i, j => by
    rw [feetF, feetN, List.map_cons]
    have e1 := feetF_N r (i + 1) j
    have e2 := feetF_N r i (j + 1)
    rw [show ((i + 1 : Nat) : Int) = (i : Int) + 1 by omega] at e1
    rw [show ((j + 1 : Nat) : Int) = (j : Int) + 1 by omega] at e2
    split <;> simp [e1, e2]
theorem keyF_kF : ∀ (l : List Nat) (x y : Int), keyF l x y = kF l x y
  | [], _, _ => rfl
  | c :: r, x, y => by rw [keyF, kF, keyF_kF r, keyF_kF r]
theorem feetN_bd : ∀ {l : List Nat} {i j : Nat} {f : Nat × Nat × Nat}, f ∈ feetN l i j → f.2.1 < i + l.length ∧ f.2.2 < j + l.length
  | [], _, _, _, h => by simp [feetN] at h
  | c :: r, i, j, f, h => by
    rw [feetN] at h
    rw [List.length_cons]
    rcases List.mem_cons.mp h with rfl | h
    · exact ⟨by show i < _; omega, by show j < _; omega⟩
    · split at h
      · have := feetN_bd h; omega
      · have := feetN_bd h; omega
theorem s_feet {w : List Nat} (hp : w.length ≤ 16777216) : TT.G 5 [.str w] = .ok (.lst ((feetN w.reverse 0 0).map footD)) true none := by
  rw [s_feet_of hp]
  have := feetF_N w.reverse 0 0
  rw [← this]
  rfl
end PyV
set_option Elab.async false
set_option linter.all false
set_option maxRecDepth 100000
set_option maxHeartbeats 4000000
namespace PyV
open PySem
theorem sum_eq (ns : List Int) (f : α → Int) (l : List α) : (l.map f).sum = Sg l f := rfl
theorem allI_mapF {α : Type} (f : α → Int) (l : List α) : allI (l.map fun a => D.int (f a)) = some (l.map f) := by
  have := allI_map (l.map f)
  rw [List.map_map] at this
  exact this
/-- the words of the layouts -/
theorem wordB_wd {w : List Nat} (h : wordB w = true) : Wd w := by
  unfold wordB at h
  simp only [Bool.and_eq_true, decide_eq_true_eq, List.all_eq_true, Bool.or_eq_true, beq_iff_eq] at h
  exact h.1.1.2
theorem wordB_c {w : List Nat} (h : wordB w = true) : w.count 120 ≤ 100 ∧ w.count 121 ≤ 100 := by
  unfold wordB at h
  simp only [Bool.and_eq_true, decide_eq_true_eq] at h
  exact ⟨h.1.2, h.2⟩
theorem wordB_len2 {w : List Nat} (h : wordB w = true) : w.length = w.count 120 + w.count 121 := by
  have hw := wordB_wd h
  clear h
  induction w with
  | nil => rfl
  | cons c l ih =>
    have := ih hw.tl
    rw [List.length_cons, List.count_cons, List.count_cons, this]
    rcases hw c List.mem_cons_self with rfl | rfl <;> simp <;> omega
theorem Wd.rev {l : List Nat} (h : Wd l) : Wd l.reverse := fun c hc => h c (List.mem_reverse.mp hc)
theorem Bx.ok.rev {b : Bx} {w : List Nat} (h : b.ok w) : b.ok w.reverse := by
  unfold Bx.ok at h ⊢
  rw [List.count_reverse, List.count_reverse]
  exact h
theorem s_runs_in {w : List Nat} {b : Bx} (hl : w.length ≤ 200) (hb : b.sm) : TT.G 53 [.str w, boxD b] = .ok (.int (runsF w.reverse b)) false none := tt_run 0 (show runD TT none 0 b_runs_in _ = _ by
  have e1 := s_feet (w := w) (by omega)
  have e2 := s_area_of hb
  have e3 := ev_lc (T := TT) (p := none) (e := c_runs_in_1) (t := .tup [.v 2, .v 3, .v 4]) (k := .plain) (its := [.call 5 [.var 0]]) (own := [2, 3, 4]) (s := [.val (.str w), .val (boxD b), .emp, .emp, .emp]) (s1 := [.val (.str w), .val (boxD b), .emp, .emp, .emp]) (s2 := [.val (.str w), .val (boxD b), .emp, .emp, .emp])
    (rs := [.own (.lst ((feetN w.reverse 0 0).map footD))]) (ds := [.lst ((feetN w.reverse 0 0).map footD)]) (feetN w.reverse 0 0) footD (fun f => .int (savF b f)) (by simp [runD, evB, evS, evE, evEs, evXs, asgT_v, asgT_t, asgTs_n, asgTs_c, atD, placeD, e1]) rfl rfl (by rfl) (by rw [feetN_len, List.length_reverse]; omega) fun f hf => by
      have fb := feetN_bd hf
      rw [List.length_reverse] at fb
      have e4 := s_box_saves hb f (by omega) (by omega)
      exact ⟨[.val (.str w), .val (boxD b), .val (.str [f.1]), .val (.int (f.2.1 : Int)), .val (.int (f.2.2 : Int))], by simp [runD, evB, evS, evE, evEs, evXs, asgT_v, asgT_t, asgTs_n, asgTs_c, atD, placeD], by simp, .val (.int (savF b f)), by simp [runD, evB, evS, evE, evEs, evXs, asgT_v, asgT_t, asgTs_n, asgTs_c, atD, placeD, c_runs_in_1, e4], rfl⟩
  simp [runD, evB, evS, evE, evEs, evXs, asgT_v, asgT_t, asgTs_n, asgTs_c, atD, placeD, b_runs_in, e2, e3, allI_mapF]
  rfl) (by simp)
theorem s_count_runs {w : List Nat} {b : Bx} (hw : wordB w = true) (hb : b.ok w) : TT.G 54 [.obj 0 [ow] [.str w], boxD b] = .ok (.int (runsF w.reverse b)) false none := tt_run 0 (show runD TT none 0 b_count_runs _ = _ by
  have e1 := s_require_box hw hb
  have c := wordB_c hw
  have e2 := s_runs_in (w := w) (b := b) (wordB_len hw) (hb.sm c.1 c.2)
  simp [runD, evB, evS, evE, evEs, evXs, asgT_v, asgT_t, asgTs_n, asgTs_c, atD, placeD, b_count_runs, e1, e2]) (by simp)
theorem s_ends {w : List Nat} {b : Bx} (hw : wordB w = true) (hb : b.ok w) : TT.G 55 [.obj 0 [ow] [.str w], boxD b] = .ok (.tup [.int (kF w.reverse b.x1 b.y1), .int (kF w.reverse b.x2 b.y2)]) false none := tt_run 0 (show runD TT none 0 b_ends _ = _ by
  have e1 := s_require_box hw hb
  have hl := wordB_len hw
  have e2 := s_key_of (w := w) (x := b.x1) (y := b.y1) (by omega)
  have e3 := s_key_of (w := w) (x := b.x2) (y := b.y2) (by omega)
  rw [keyF_kF] at e2 e3
  simp [runD, evB, evS, evE, evEs, evXs, asgT_v, asgT_t, asgTs_n, asgTs_c, atD, placeD, b_ends, e1, e2, e3]) (by simp)
theorem s_saved {w : List Nat} {b : Bx} (hw : wordB w = true) (hb : b.ok w) : TT.G 61 [.obj 0 [ow] [.str w], boxD b] = .ok (.lst ((feetN w.reverse 0 0).reverse.map fun f => .int (savF b f))) true none := tt_run 0 (show runD TT none 0 b_saved _ = _ by
  have e1 := s_require_box hw hb
  have c := wordB_c hw
  have hl := wordB_len hw
  have hs := hb.sm c.1 c.2
  have e0 := s_feet (w := w) (by omega)
  have e3 := ev_lc (T := TT) (p := none) (e := c_saved_1) (t := .tup [.v 2, .v 3, .v 4]) (k := .plain) (its := [.rev (.call 5 [.prp 9 (.var 0)])]) (own := [2, 3, 4]) (s := [.val (.obj 0 [ow] [.str w]), .val (boxD b), .emp, .emp, .emp]) (s1 := [.val (.obj 0 [ow] [.str w]), .val (boxD b), .emp, .emp, .emp]) (s2 := [.val (.obj 0 [ow] [.str w]), .val (boxD b), .emp, .emp, .emp])
    (rs := [.own (.lst ((feetN w.reverse 0 0).map footD).reverse)]) (ds := [.lst ((feetN w.reverse 0 0).map footD).reverse]) (feetN w.reverse 0 0).reverse footD (fun f => .int (savF b f)) (by simp [runD, evB, evS, evE, evEs, evXs, asgT_v, asgT_t, asgTs_n, asgTs_c, atD, placeD, e0]) rfl (by rw [← List.map_reverse]; rfl) (by rfl) (by rw [List.length_reverse, feetN_len, List.length_reverse]; omega) fun f hf => by
      have fb := feetN_bd (List.mem_reverse.mp hf)
      rw [List.length_reverse] at fb
      have e4 := s_box_saves hs f (by omega) (by omega)
      exact ⟨[.val (.obj 0 [ow] [.str w]), .val (boxD b), .val (.str [f.1]), .val (.int (f.2.1 : Int)), .val (.int (f.2.2 : Int))], by simp [runD, evB, evS, evE, evEs, evXs, asgT_v, asgT_t, asgTs_n, asgTs_c, atD, placeD], by simp, .val (.int (savF b f)), by simp [runD, evB, evS, evE, evEs, evXs, asgT_v, asgT_t, asgTs_n, asgTs_c, atD, placeD, c_saved_1, e4], rfl⟩
  simp [runD, evB, evS, evE, evEs, evXs, asgT_v, asgT_t, asgTs_n, asgTs_c, atD, placeD, b_saved, e1, e3]) (by simp)
/-! ## the law's own: keys -/
theorem lk_loop (T : Tab) (n : Nat) (w : Sl) : ∀ (l : List Nat) (x y f q : Int) (s3 : Sl), ∃ x' y' q' t3, forL (asgT none (.v 3)) (evB T none n l_law_key_of_1) (l.map fun c => .str [c]) [w, .val (.int x), .val (.int y), s3, .val (.int f), .val (.int q)] =
    .ok .nx [w, .val (.int x'), .val (.int y'), t3, .val (.int (f + q * kF l x y)), .val (.int q')]
  | [], x, y, f, q, s3 => ⟨x, y, q, s3, by simp [forL, kF]⟩
  | c :: l, x, y, f, q, s3 => by
    have m1 : ∀ z : Int, mulOk q (z % 2) = true := fun z => mulOk_r (by omega)
    have m2 : mulOk 2 q = true := mulOk_l (by decide)
    have dv : divOk 2 = true := by decide
    by_cases hc : c = 120
    · obtain ⟨x', y', q', t3, e⟩ := lk_loop T n w l (x / 2) y (f + q * (x % 2)) (2 * q) (.val (.str [c]))
      refine ⟨x', y', q', t3, ?_⟩
      have st : evB T none n l_law_key_of_1 [w, .val (.int x), .val (.int y), .val (.str [c]), .val (.int f), .val (.int q)] = .ok .nx [w, .val (.int (x / 2)), .val (.int y), .val (.str [c]), .val (.int (f + q * (x % 2))), .val (.int (2 * q))] := by
        simp [runD, evB, evS, evE, evEs, evXs, asgT_v, asgT_t, asgTs_n, asgTs_c, atD, placeD, l_law_key_of_1, hc, m1, m2, dv]
      rw [List.map_cons, forL_step rfl st, e, kF, if_pos hc]
      congr 7
      rw [Int.mul_add, Int.add_assoc, ← Int.mul_assoc, Int.mul_comm q 2]
    · obtain ⟨x', y', q', t3, e⟩ := lk_loop T n w l x (y / 2) (f + q * (y % 2)) (2 * q) (.val (.str [c]))
      refine ⟨x', y', q', t3, ?_⟩
      have st : evB T none n l_law_key_of_1 [w, .val (.int x), .val (.int y), .val (.str [c]), .val (.int f), .val (.int q)] = .ok .nx [w, .val (.int x), .val (.int (y / 2)), .val (.str [c]), .val (.int (f + q * (y % 2))), .val (.int (2 * q))] := by
        simp [runD, evB, evS, evE, evEs, evXs, asgT_v, asgT_t, asgTs_n, asgTs_c, atD, placeD, l_law_key_of_1, hc, m1, m2, dv]
      rw [List.map_cons, forL_step rfl st, e, kF, if_neg hc]
      congr 7
      rw [Int.mul_add, Int.add_assoc, ← Int.mul_assoc, Int.mul_comm q 2]
theorem s_law_key {w : List Nat} {x y : Int} (hl : w.length ≤ 1000) : TT.G 19 [.str w, .int x, .int y] = .ok (.int (kF w.reverse x y)) false none := tt_run 0 (show runD TT none 0 b_law_key_of _ = _ by
  obtain ⟨x', y', q', t3, e⟩ := lk_loop TT 0 (.val (.str w)) w.reverse x y 0 1 .emp
  have hl' : w.length ≤ 16777216 := by omega
  rw [List.map_reverse] at e
  simp [runD, evB, evS, evE, evEs, evXs, asgT_v, asgT_t, asgTs_n, asgTs_c, atD, placeD, b_law_key_of, hl']
  rw [e]
  simp [runD, evB, evS, evE, evEs, evXs, asgT_v, asgT_t, asgTs_n, asgTs_c, atD, placeD]) (by simp)
/-! ### a drawn box -/
theorem s_drawn_box_turn {n k : Nat} {r : D} {w : List Nat} {acc : List D} {c : Nat} {s4 s5 s6 : Sl} (hr : Reel k r) (hk : k ≤ 900000) (hw : wordB w = true) (hc : c = 120 ∨ c = 121) (ha : acc.length ≤ 10) :
    ∃ lo hi r' t4 t5 t6, evB TT (some 0) n l_law_drawn_box_1 [.own r, .val (.str w), .own (.lst acc), .val (.str [c]), s4, s5, s6] = .ok .nx [.own r', .val (.str w), .own (.lst (acc ++ [.tup [.int lo, .int hi]])), .val (.str [c]), t4, t5, t6] ∧ 0 ≤ lo ∧ lo ≤ hi ∧ hi < 2 ^ w.count c ∧ Reel (k + 5) r' := by
  have cc := wordB_c hw
  have hcc : w.count c ≤ 100 := by rcases hc with rfl | rfl <;> omega
  have hp := p2 (w.count c)
  have hp2 := pow2_le hcc
  have big : (2 : Int) ^ 100 ≤ 2 ^ 250 := by decide
  have e0 := s_powerN (w.count c) (by omega)
  obtain ⟨v1, r1, e1, a1, b1, q1⟩ := s_spin (m := 2 ^ w.count c) hr (by omega) (by omega)
  obtain ⟨v2, r2, e2, a2, b2, q2⟩ := s_spin (m := 4) q1 (by decide) (by decide)
  obtain ⟨v3, r3, e3, a3, b3, q3⟩ := s_spin (m := 4) q2 (by decide) (by decide)
  have hal : acc.length < 16777216 := by omega
  obtain ⟨lo, hlo, l0, l1⟩ : ∃ lo : Int, (if v2 = 0 then 0 else v1) = lo ∧ 0 ≤ lo ∧ lo < 2 ^ w.count c := by
    refine ⟨_, rfl, ?_, ?_⟩ <;> split <;> omega
  obtain ⟨nr, hnr, n0, n1⟩ : ∃ nr : Int, (if lo + v3 < 2 ^ w.count c - 1 then lo + v3 else 2 ^ w.count c - 1) = nr ∧ lo ≤ nr ∧ nr < 2 ^ w.count c := by
    refine ⟨_, rfl, ?_, ?_⟩ <;> split <;> omega
  obtain ⟨v4, r4, e4, a4, b4, q4⟩ := s_spin (m := 2 ^ w.count c - lo) q3 (by omega) (by omega)
  obtain ⟨v5, r5, e5, a5, b5, q5⟩ := s_spin (m := 4) q4 (by decide) (by decide)
  have st1 : evB TT (some 0) n (l_law_drawn_box_1.take 3) [.own r, .val (.str w), .own (.lst acc), .val (.str [c]), s4, s5, s6] = .ok .nx [.own r3, .val (.str w), .own (.lst acc), .val (.str [c]), .val (.int (2 ^ w.count c)), .val (.int lo), .val (.int nr)] := by
    by_cases z : v2 = 0
    · rw [if_pos z] at hlo
      subst hlo
      simp [runD, evB, evS, evE, evEs, evXs, asgT_v, asgT_t, asgTs_n, asgTs_c, atD, placeD, l_law_drawn_box_1, e0, e1, e2, e3, z]
      simpa using hnr
    · rw [if_neg z] at hlo
      subst hlo
      simp [runD, evB, evS, evE, evEs, evXs, asgT_v, asgT_t, asgTs_n, asgTs_c, atD, placeD, l_law_drawn_box_1, e0, e1, e2, e3, z]
      simpa using hnr
  have hv5 : v5 = 0 ∨ v5 = 1 ∨ v5 = 2 ∨ v5 = 3 := by omega
  have fin : ∀ hi : Int, evB TT (some 0) n (l_law_drawn_box_1.drop 3) [.own r3, .val (.str w), .own (.lst acc), .val (.str [c]), .val (.int (2 ^ w.count c)), .val (.int lo), .val (.int nr)] = .ok .nx [.own r5, .val (.str w), .own (.lst (acc ++ [.tup [.int lo, .int hi]])), .val (.str [c]), .val (.int (2 ^ w.count c)), .val (.int lo), .val (.int nr)] →
      evB TT (some 0) n l_law_drawn_box_1 [.own r, .val (.str w), .own (.lst acc), .val (.str [c]), s4, s5, s6] = .ok .nx [.own r5, .val (.str w), .own (.lst (acc ++ [.tup [.int lo, .int hi]])), .val (.str [c]), .val (.int (2 ^ w.count c)), .val (.int lo), .val (.int nr)] := fun hi h => by
    rw [show l_law_drawn_box_1 = l_law_drawn_box_1.take 3 ++ l_law_drawn_box_1.drop 3 from rfl, evB_app st1, h]
  rcases hv5 with rfl | rfl | rfl | rfl
  · exact ⟨lo, lo + v4, r5, _, _, _, fin _ (by simp [runD, evB, evS, evE, evEs, evXs, asgT_v, asgT_t, asgTs_n, asgTs_c, atD, placeD, l_law_drawn_box_1, e4, e5, hal]), l0, by omega, by omega, q5⟩
  · exact ⟨lo, 2 ^ w.count c - 1, r5, _, _, _, fin _ (by simp [runD, evB, evS, evE, evEs, evXs, asgT_v, asgT_t, asgTs_n, asgTs_c, atD, placeD, l_law_drawn_box_1, e4, e5, hal]), l0, by omega, by omega, q5⟩
  · exact ⟨lo, lo, r5, _, _, _, fin _ (by simp [runD, evB, evS, evE, evEs, evXs, asgT_v, asgT_t, asgTs_n, asgTs_c, atD, placeD, l_law_drawn_box_1, e4, e5, hal]), l0, by omega, by omega, q5⟩
  · exact ⟨lo, nr, r5, _, _, _, fin _ (by simp [runD, evB, evS, evE, evEs, evXs, asgT_v, asgT_t, asgTs_n, asgTs_c, atD, placeD, l_law_drawn_box_1, e4, e5, hal]), l0, by omega, by omega, q5⟩
theorem s_drawn_box {k : Nat} {r : D} {w : List Nat} (hr : Reel k r) (hk : k ≤ 800000) (hw : wordB w = true) : ∃ b r', TT.G 56 [r, .str w] = .ok (boxD b) false (some r') ∧ b.ok w ∧ Reel (k + 10) r' := by
  obtain ⟨x1, x2, r1, t4, t5, t6, e1, a1, a2, a3, q1⟩ := s_drawn_box_turn (n := 0) (acc := []) (c := 120) (s4 := .emp) (s5 := .emp) (s6 := .emp) hr (by omega) hw (by decide) (by simp)
  obtain ⟨y1, y2, r2, u4, u5, u6, e2, b1, b2, b3, q2⟩ := s_drawn_box_turn (n := 0) (acc := [.tup [.int x1, .int x2]]) (c := 121) (s4 := t4) (s5 := t5) (s6 := t6) q1 (by omega) hw (by decide) (by simp)
  refine ⟨⟨x1, y1, x2, y2⟩, r2, tt_run 0 (show runD TT (some 0) 0 b_law_drawn_box _ = _ from ?_) (by simp), ⟨a1, a2, a3, b1, b2, b3⟩, q2⟩
  simp [runD, evB, evS, evE, evEs, evXs, asgT_v, asgT_t, asgTs_n, asgTs_c, atD, placeD, b_law_drawn_box, forL, e1, e2]
end PyV
set_option Elab.async false
set_option linter.all false
set_option maxRecDepth 100000
set_option maxHeartbeats 4000000
namespace PyV
open PySem
/-! ## own lists, at their ends -/
theorem atD_last {α : Type} (xs : List α) (a : α) : atD (xs ++ [a]) (-1) = some a := by
  unfold atD
  have e : (-1 + ((xs ++ [a]).length : Int)).toNat = xs.length := by rw [List.length_append, List.length_singleton]; omega
  rw [if_neg (by decide), if_pos (by rw [List.length_append, List.length_singleton]; omega), e]
  simp
theorem placeD_last {α : Type} (xs : List α) (a : α) : placeD (xs ++ [a]).length (-1) = some xs.length := by
  unfold placeD
  have e : (-1 + ((xs ++ [a]).length : Int)).toNat = xs.length := by rw [List.length_append, List.length_singleton]; omega
  rw [if_neg (by decide), if_pos (by rw [List.length_append, List.length_singleton]; omega), e]
theorem set_last {α : Type} (xs : List α) (a b : α) : (xs ++ [a]).set xs.length b = xs ++ [b] := by simp
theorem eqDs_app_nil (xs : List D) (a : D) : eqDs (xs ++ [a]) [] = false := by cases xs <;> rfl
/-! ## all keys of a box, listed -/
theorem big62_b {i : Int} (h : -(2 ^ 61) ≤ i) (h2 : i ≤ 2 ^ 61) : big62 i = true := by
  unfold big62
  simp
  omega
theorem lk_turn {n : Nat} {w : List Nat} {b : Bx} {x : Int} {acc : List D} (hl : w.length ≤ 1000) (h1 : 0 ≤ b.y1) (h2 : b.y1 ≤ b.y2) (h3 : b.y2 ≤ 2 ^ 23) (ha : acc.length + b.ys.length ≤ 16777216) :
    evB TT none n l_law_listed_keys_1 [.val (.str w), .val (boxD b), .own (.lst acc), .val (.int x), .emp] = .ok .nx [.val (.str w), .val (boxD b), .own (.lst (acc ++ b.ys.map fun y => .int (kF w.reverse x y))), .val (.int x), .emp] := by
  have g1 := big62_b (i := b.y1) (by omega) (by omega)
  have g2 := big62_b (i := b.y2 + 1) (by omega) (by omega)
  have hi : irange b.y1 (b.y2 + 1 - b.y1).toNat 1 = b.ys.map D.int := by
    rw [irange_rng]
    unfold Bx.ys
    congr 2
    omega
  have e3 := ev_lc (T := TT) (p := none) (e := c_law_listed_keys_1) (t := .v 4) (k := .rng) (its := [.sub (.var 1) (.int 1), .bin .add (.sub (.var 1) (.int 3)) (.int 1)]) (own := [4]) (s := [.val (.str w), .val (boxD b), .own (.lst acc), .val (.int x), .emp]) (s1 := [.val (.str w), .val (boxD b), .own (.lst acc), .val (.int x), .emp]) (s2 := [.val (.str w), .val (boxD b), .own (.lst acc), .val (.int x), .emp])
    (rs := [.val (.int b.y1), .val (.int (b.y2 + 1))]) (ds := [.int b.y1, .int (b.y2 + 1)]) b.ys D.int (fun y => .int (kF w.reverse x y)) (by simp [runD, evB, evS, evE, evEs, evXs, asgT_v, asgT_t, asgTs_n, asgTs_c, atD, placeD]) rfl (by simp only [itemsD, g1, g2, and_self, if_true, hi]) (by rfl) (by omega) fun y hy => by
      have e4 := s_law_key (w := w) (x := x) (y := y) hl
      exact ⟨[.val (.str w), .val (boxD b), .own (.lst acc), .val (.int x), .val (.int y)], by simp [runD, evB, evS, evE, evEs, evXs, asgT_v, asgT_t, asgTs_n, asgTs_c, atD, placeD], by simp, .val (.int (kF w.reverse x y)), by simp [runD, evB, evS, evE, evEs, evXs, asgT_v, asgT_t, asgTs_n, asgTs_c, atD, placeD, c_law_listed_keys_1, e4], rfl⟩
  simp [runD, evB, evS, evE, evEs, evXs, asgT_v, asgT_t, asgTs_n, asgTs_c, atD, placeD, l_law_listed_keys_1, e3, ha]
theorem lk_outer {n : Nat} {w : List Nat} {b : Bx} (hl : w.length ≤ 1000) (h1 : 0 ≤ b.y1) (h2 : b.y1 ≤ b.y2) (h3 : b.y2 ≤ 2 ^ 23) : ∀ (xs : List Int) (acc : List D) (s3 : Sl), acc.length + xs.length * b.ys.length ≤ 16777216 →
    ∃ t3, forL (asgT none (.v 3)) (evB TT none n l_law_listed_keys_1) (xs.map .int) [.val (.str w), .val (boxD b), .own (.lst acc), s3, .emp] = .ok .nx [.val (.str w), .val (boxD b), .own (.lst (acc ++ (xs.flatMap fun x => b.ys.map fun y => kF w.reverse x y).map .int)), t3, .emp]
  | [], acc, s3, _ => ⟨s3, by simp [forL]⟩
  | x :: xs, acc, s3, h => by
    rw [List.length_cons, Nat.succ_mul] at h
    obtain ⟨t3, e⟩ := lk_outer hl h1 h2 h3 xs (acc ++ b.ys.map fun y => .int (kF w.reverse x y)) (.val (.int x)) (by simp; omega)
    refine ⟨t3, ?_⟩
    rw [List.map_cons, forL_step rfl (lk_turn hl h1 h2 h3 (by omega)), e, List.flatMap_cons, List.map_append, List.map_map, List.append_assoc]
    rfl
theorem s_listed {w : List Nat} {b : Bx} (hl : w.length ≤ 1000) (h1 : 0 ≤ b.y1) (h2 : b.y1 ≤ b.y2) (h3 : b.y2 ≤ 2 ^ 23) (g1 : 0 ≤ b.x1) (g2 : b.x1 ≤ b.x2) (g3 : b.x2 ≤ 2 ^ 23) (ha : b.xs.length * b.ys.length ≤ 16777216) : TT.G 57 [.str w, boxD b] = .ok (.lst ((sortI (keysF w.reverse b)).map .int)) true none := tt_run 0 (show runD TT none 0 b_law_listed_keys _ = _ by
  have q1 := big62_b (i := b.x1) (by omega) (by omega)
  have q2 := big62_b (i := b.x2 + 1) (by omega) (by omega)
  have hi : irange b.x1 (b.x2 + 1 - b.x1).toNat 1 = b.xs.map D.int := by
    rw [irange_rng]
    unfold Bx.xs
    congr 2
    omega
  obtain ⟨t3, e⟩ := lk_outer (n := 0) hl h1 h2 h3 b.xs [] .emp (by simpa using ha)
  have st : evS TT none 0 (.for_ (.v 3) .rng [.sub (.var 1) (.int 0), .bin .add (.sub (.var 1) (.int 2)) (.int 1)] l_law_listed_keys_1) [.val (.str w), .val (boxD b), .own (.lst []), .emp, .emp] = .ok .nx [.val (.str w), .val (boxD b), .own (.lst ((keysF w.reverse b).map .int)), t3, .emp] := by
    rw [evS_for (rs := [.val (.int b.x1), .val (.int (b.x2 + 1))]) (ds := [.int b.x1, .int (b.x2 + 1)]) (xs := b.xs.map D.int) (s1 := [.val (.str w), .val (boxD b), .own (.lst []), .emp, .emp]) (s2 := [.val (.str w), .val (boxD b), .own (.lst []), .emp, .emp]) (by simp [runD, evB, evS, evE, evEs, evXs, asgT_v, asgT_t, asgTs_n, asgTs_c, atD, placeD]) rfl (by simp only [itemsD, q1, q2, and_self, if_true, hi]), e]
    rfl
  have fin : evB TT none 0 b_law_listed_keys.body [.val (.str w), .val (boxD b), .emp, .emp, .emp] = .ok (.rt (.lst ((sortI (keysF w.reverse b)).map .int)) true) [.val (.str w), .val (boxD b), .own (.lst ((keysF w.reverse b).map .int)), t3, .emp] := by
    unfold b_law_listed_keys
    rw [evB_step (s1 := [.val (.str w), .val (boxD b), .own (.lst []), .emp, .emp]) (by simp [runD, evB, evS, evE, evEs, evXs, asgT_v, asgT_t, asgTs_n, asgTs_c, atD, placeD]), evB_step st]
    simp [runD, evB, evS, evE, evEs, evXs, asgT_v, asgT_t, asgTs_n, asgTs_c, atD, placeD, allI_map]
  exact run_rt fin rfl) (by simp)
/-! ## stretches -/
@[reducible] def pairD (p : Int × Int) : D := .tup [.int p.1, .int p.2]
def strL : Int → Int → List Int → List (Int × Int)
  | a, p, [] => [(a, p)]
  | a, p, k :: ks => if p = k - 1 then strL a k ks else (a, p) :: strL k k ks
def strchs : List Int → List (Int × Int)
  | [] => []
  | k :: ks => strL k k ks
theorem strL_len : ∀ (ks : List Int) (a p : Int), (strL a p ks).length = 1 + brk p ks
  | [], _, _ => rfl
  | k :: ks, a, p => by
    unfold strL brk
    split
    · rw [strL_len ks]; omega
    · rw [List.length_cons, strL_len ks]; omega
theorem strchs_len : ∀ ks : List Int, (strchs ks).length = nStr ks
  | [] => rfl
  | k :: ks => strL_len ks k k
theorem ck_pairs (k : Nat) (ps : List (Int × Int)) : (ps.map pairD).all (ck (k + 1)) = true := by
  rw [List.all_eq_true]
  intro d hd
  obtain ⟨p, _, rfl⟩ := List.mem_map.mp hd
  simp
theorem str_turn {n : Nat} {v : Sl} {ps : List (Int × Int)} {a p k : Int} (hl : ps.length < 1000000) :
    evB TT none n l_law_stretches_1 [v, .own (.lst (ps.map pairD ++ [pairD (a, p)])), .val (.int k)] = .ok .nx [v, .own (.lst (if p = k - 1 then ps.map pairD ++ [pairD (a, k)] else (ps ++ [(a, p)]).map pairD ++ [pairD (k, k)])), .val (.int k)] := by
  have c := ck_pairs 6 ps
  have hl2 : ps.length + 1 < 16777216 := by omega
  have d0 : ∀ p : Int, atD [D.int a, D.int p] 0 = some (D.int a) := fun _ => rfl
  have d1 : ∀ p : Int, atD [D.int a, D.int p] 1 = some (D.int p) := fun _ => rfl
  have a1 := fun p => atD_last (ps.map pairD) (pairD (a, p))
  have a2 : placeD (ps.length + 1) (-1) = some ps.length := by
    have := placeD_last (ps.map pairD) (pairD (a, p))
    simpa using this
  have a3 : ∀ (x y : D), (ps.map pairD ++ [x]).set ps.length y = ps.map pairD ++ [y] := fun x y => by
    have := set_last (ps.map pairD) x y
    simpa using this
  have a4 := fun p => eqDs_app_nil (ps.map pairD) (pairD (a, p))
  by_cases h : p = k - 1
  · subst h
    simp [runD, evB, evS, evE, evEs, evXs, asgT_v, asgT_t, asgTs_n, asgTs_c, l_law_stretches_1, a1, a2, a3, a4, c, d0, d1]
  · simp [runD, evB, evS, evE, evEs, evXs, asgT_v, asgT_t, asgTs_n, asgTs_c, l_law_stretches_1, a1, a2, a3, a4, c, h, d0, d1, hl2]
theorem str_loop {n : Nat} {v : Sl} : ∀ (ks : List Int) (ps : List (Int × Int)) (a p : Int) (s2 : Sl), ps.length + ks.length < 1000000 →
    ∃ t2, forL (asgT none (.v 2)) (evB TT none n l_law_stretches_1) (ks.map .int) [v, .own (.lst (ps.map pairD ++ [pairD (a, p)])), s2] = .ok .nx [v, .own (.lst ((ps ++ strL a p ks).map pairD)), t2]
  | [], ps, a, p, s2, _ => ⟨s2, by simp [forL, strL]⟩
  | k :: ks, ps, a, p, s2, h => by
    rw [List.length_cons] at h
    have st := str_turn (n := n) (v := v) (ps := ps) (a := a) (p := p) (k := k) (by omega)
    by_cases e : p = k - 1
    · rw [if_pos e] at st
      obtain ⟨t2, q⟩ := str_loop (n := n) (v := v) ks ps a k (.val (.int k)) (by omega)
      exact ⟨t2, by rw [List.map_cons, forL_step rfl st, q, strL, if_pos e]⟩
    · rw [if_neg e] at st
      obtain ⟨t2, q⟩ := str_loop (n := n) (v := v) ks (ps ++ [(a, p)]) k k (.val (.int k)) (by simp; omega)
      exact ⟨t2, by rw [List.map_cons, forL_step rfl st, q, strL, if_neg e, List.append_assoc]; rfl⟩
theorem s_stretches {ks : List Int} (h : ks.length < 1000000) : TT.G 58 [.lst (ks.map .int)] = .ok (.lst ((strchs ks).map pairD)) true none := tt_run 0 (show runD TT none 0 b_law_stretches _ = _ by
  cases ks with
  | nil => simp [runD, evB, evS, evE, evEs, evXs, asgT_v, asgT_t, asgTs_n, asgTs_c, atD, placeD, b_law_stretches, forL, strchs]
  | cons k ks =>
    rw [List.length_cons] at h
    have st : evB TT none 0 l_law_stretches_1 [.val (.lst ((k :: ks).map .int)), .own (.lst []), .val (.int k)] = .ok .nx [.val (.lst ((k :: ks).map .int)), .own (.lst (([] : List (Int × Int)).map pairD ++ [pairD (k, k)])), .val (.int k)] := by
      simp [runD, evB, evS, evE, evEs, evXs, asgT_v, asgT_t, asgTs_n, asgTs_c, atD, placeD, l_law_stretches_1]
    obtain ⟨t2, q⟩ := str_loop (n := 0) (v := .val (.lst ((k :: ks).map .int))) ks [] k k (.val (.int k)) (by simp; omega)
    have fin : evB TT none 0 b_law_stretches.body [.val (.lst ((k :: ks).map .int)), .emp, .emp] = .ok (.rt (.lst ((strchs (k :: ks)).map pairD)) true) [.val (.lst ((k :: ks).map .int)), .emp, t2] := by
      unfold b_law_stretches
      rw [evB_step (s1 := [.val (.lst ((k :: ks).map .int)), .own (.lst []), .emp]) (by simp [runD, evB, evS, evE, evEs, evXs, asgT_v, asgT_t, asgTs_n, asgTs_c, atD, placeD]), evB_step (s1 := [.val (.lst ((k :: ks).map .int)), .own (.lst ((strchs (k :: ks)).map pairD)), t2]) (by
        rw [evS_for (rs := [.val (.lst ((k :: ks).map .int))]) (ds := [.lst ((k :: ks).map .int)]) (xs := (k :: ks).map .int) (s1 := [.val (.lst ((k :: ks).map .int)), .own (.lst []), .emp]) (s2 := [.val (.lst ((k :: ks).map .int)), .own (.lst []), .emp]) (by simp [runD, evB, evS, evE, evEs, evXs, asgT_v, asgT_t, asgTs_n, asgTs_c, atD, placeD]) rfl rfl, List.map_cons, forL_step rfl st, q]
        rfl)]
      simp [runD, evB, evS, evE, evEs, evXs, asgT_v, asgT_t, asgTs_n, asgTs_c, atD, placeD]
    exact run_rt fin rfl) (by simp)
end PyV
set_option Elab.async false
set_option linter.all false
set_option maxRecDepth 100000
set_option maxHeartbeats 4000000
namespace PyV
open PySem
/-! ## draws of a bag: three ints, the last one counts -/
def Bag (d : D) : Prop := ∃ a b c : Int, d = .lst [.int a, .int b, .int c] ∧ 0 ≤ a ∧ 0 ≤ c
theorem s_bag (cell : Int) : ∃ d, TT.G 132 [.int cell] = .ok d true none ∧ Bag d := by
  have p1 : powOk 10 18 = true := powOk_of (v := 10) (e := 18) (k := 4) (by decide) (by decide)
  refine ⟨.lst [.int (if cell - 1000000000000000000 > 0 then cell - 1000000000000000000 else 0), .int cell, .int 0], tt_run 0 (show runD TT none 0 b_law_bag _ = _ by simp [runD, evB, evS, evE, evEs, evXs, asgT_v, asgT_t, asgTs_n, asgTs_c, atD, placeD, b_law_bag, p1]) (by simp), _, _, _, rfl, ?_, by decide⟩
  split <;> omega
def pkF (b c : Int) : Int := (b % 2147483629 * 48271 + c * 69621 + 12345) % 2147483647
def pkS (b c : Int) : Int := (pkF b c * pkF b c + c * 40692) % 2147483587
def pkD (b c : Int) : Int := (pkF b c * 2147483587 + pkS b c) / 32
/-- what a draw gives -/
def pkV (a b c m : Int) : Int := if 0 < a then a % m else (if 1000000000000000 < m then pkD b (c + 1) ^ 8 + pkS b (c + 1) else pkD b (c + 1)) % m
def pkA (a m : Int) : Int := if 0 < a then a / m else a
theorem pk_bd (b c : Int) : 0 ≤ pkF b c ∧ pkF b c < 2147483647 ∧ 0 ≤ pkS b c ∧ pkS b c < 2147483587 ∧ 0 ≤ pkD b c ∧ pkD b c < 2 ^ 62 := by
  have f1 : 0 ≤ pkF b c := Int.emod_nonneg _ (by decide)
  have f2 : pkF b c < 2147483647 := Int.emod_lt_of_pos _ (by decide)
  have s1 : 0 ≤ pkS b c := Int.emod_nonneg _ (by decide)
  have s2 : pkS b c < 2147483587 := Int.emod_lt_of_pos _ (by decide)
  unfold pkD
  omega
theorem div250 {m : Int} (hm : 0 < m) (hm2 : m ≤ 2 ^ 250) : divOk m = true := divOk_of hm 251 (by
  have : (2 : Int) ^ 250 < 2 ^ 251 := by decide
  omega) (by decide)
theorem abs62 {z : Int} (h : 0 ≤ z) (h2 : z < 2 ^ 62) : z.natAbs < 2 ^ 62 := by omega
theorem abs64 {z : Int} (h : 0 ≤ z) (h2 : z < 2147483647) : z.natAbs < 2 ^ 64 := by omega
theorem s_pick0 {a b c m : Int} (ha : 0 ≤ a) (hm : 0 < m) (hm2 : m ≤ 2 ^ 250) : TT.G 133 [.lst [.int a, .int b, .int c], .int m] = .ok (.int (pkV a b c m)) false (some (.lst [.int (pkA a m), .int b, .int (c + 1)])) := tt_run 0 (show runD TT (some 0) 0 b_law_pick _ = _ by
  have dm : divOk m = true := div250 hm hm2
  clear hm2
  by_cases h : 0 < a
  · simp [runD, evB, evS, evE, evEs, evXs, asgT_v, asgT_t, asgTs_n, asgTs_c, atD, placeD, b_law_pick, h, hm, dm, pkV, pkA]
  · have a0 : a = 0 := by omega
    have p1 : powOk 10 15 = true := powOk_of (v := 10) (e := 15) (k := 4) (by decide) (by decide)
    have m1 : ∀ z : Int, mulOk z 48271 = true := fun z => mulOk_r (by decide)
    have m2 : ∀ z : Int, mulOk z 69621 = true := fun z => mulOk_r (by decide)
    have m3 : ∀ z : Int, mulOk z 40692 = true := fun z => mulOk_r (by decide)
    have m4 : ∀ z : Int, mulOk z 2147483587 = true := fun z => mulOk_r (by decide)
    obtain ⟨b1, b2, b3, b4, b5, b6⟩ := pk_bd b (c + 1)
    have m5 : mulOk (pkF b (c + 1)) (pkF b (c + 1)) = true := mulOk_r (abs64 b1 b2)
    have q1 : powOk (pkD b (c + 1)) 8 = true := powOk_of (e := 8) (k := 62) (abs62 b5 b6) (by decide)
    have d1 : divOk 32 = true := by decide
    have eF : (b % 2147483629 * 48271 + (c + 1) * 69621 + 12345) % 2147483647 = pkF b (c + 1) := rfl
    have eS : (pkF b (c + 1) * pkF b (c + 1) + (c + 1) * 40692) % 2147483587 = pkS b (c + 1) := rfl
    have eD : (pkF b (c + 1) * 2147483587 + pkS b (c + 1)) / 32 = pkD b (c + 1) := rfl
    by_cases hb : 1000000000000000 < m
    · simp [runD, evB, evS, evE, evEs, evXs, asgT_v, asgT_t, asgTs_n, asgTs_c, atD, placeD, b_law_pick, a0, hm, dm, hb, p1, m1, m2, m3, m4, m5, q1, d1, eF, eS, eD, pkV, pkA]
    · simp [runD, evB, evS, evE, evEs, evXs, asgT_v, asgT_t, asgTs_n, asgTs_c, atD, placeD, b_law_pick, a0, hm, dm, hb, p1, m1, m2, m3, m4, m5, q1, d1, eF, eS, eD, pkV, pkA]) (by simp)
theorem s_pick {d : D} {m : Int} (h : Bag d) (hm : 0 < m) (hm2 : m ≤ 2 ^ 250) : ∃ v d', TT.G 133 [d, .int m] = .ok (.int v) false (some d') ∧ 0 ≤ v ∧ v < m ∧ Bag d' := by
  obtain ⟨a, b, c, rfl, h1, h2⟩ := h
  refine ⟨_, _, s_pick0 h1 hm hm2, ?_, ?_, _, _, _, rfl, ?_, by omega⟩
  · unfold pkV
    split
    · exact Int.emod_nonneg _ (by omega)
    · exact Int.emod_nonneg _ (by omega)
  · unfold pkV
    split
    · exact Int.emod_lt_of_pos _ hm
    · exact Int.emod_lt_of_pos _ hm
  · unfold pkA
    split
    · exact Int.ediv_nonneg h1 (by omega)
    · exact h1
theorem pk_crt (b c s : Int) (hc : 0 ≤ c) (hs : s = 0 ∨ s = 1) : ∃ t : Int, c ≤ t ∧ (t - c) % 2 = 0 ∧ pkF b t = 0 ∧ (t * 40692) % 2147483587 = 32 * s := by
  unfold pkF
  generalize b % 2147483629 = z
  obtain ⟨t0, h0⟩ : ∃ t0 : Int, t0 = (-(z * 48271) - 12345) * 2444134763067375970475481234 + s * 38724031020366129921465358144 := ⟨_, rfl⟩
  obtain ⟨m, h1, h2, h3⟩ : ∃ m : Int, 0 ≤ m ∧ c - t0 ≤ m ∧ (t0 - c + m) % 2 = 0 := by
    clear h0
    by_cases q : c - t0 ≤ 0
    · exact ⟨(t0 - c) % 2, by omega, by omega, by omega⟩
    · exact ⟨c - t0, by omega, by omega, by omega⟩
  refine ⟨t0 + 4611685885283401789 * m, by clear h0; omega, by clear h0; omega, ?_, ?_⟩
  · clear h1 h2 h3
    have e : z * 48271 + (t0 + 4611685885283401789 * m) * 69621 + 12345 = 2147483647 * (z * (-3824915415579259958008004009) + (-978197692306477267543842255) + s * 1255425515083752500985792 + m * 149509954810527) := by
      rw [h0]
      clear h0
      simp only [Int.add_mul, Int.mul_add, Int.neg_mul, Int.sub_mul]
      omega
    rw [e, Int.mul_emod_right]
  · clear h1 h2 h3
    have e : (t0 + 4611685885283401789 * m) * 40692 = 32 * s + 2147483587 * (z * (-2235582115157486291055265224) + (-571735849922710701312946680) + s * 733769645467720428619168 + m * 87385404563724) := by
      rw [h0]
      clear h0
      simp only [Int.add_mul, Int.mul_add, Int.neg_mul, Int.sub_mul]
      omega
    rw [e, Int.add_mul_emod_self_left]
    rcases hs with rfl | rfl <;> rfl
theorem half_up {c t : Int} (h0 : c ≤ t) (h1 : (t - c) % 2 = 0) : c + 2 * (((t - c) / 2).toNat : Int) = t := by omega
theorem half_32 {s : Int} (hs : s = 0 ∨ s = 1) : 32 * s / 32 % 2 = s := by omega
/-- sooner or later a draw of two, each second turn, is the wanted one -/
theorem pk_comes (b c s : Int) (hc : 0 ≤ c) (hs : s = 0 ∨ s = 1) : ∃ j : Nat, pkD b (c + 2 * (j : Int)) % 2 = s := by
  -- first = 0 and second = 32 s, by the rests of the turn
  obtain ⟨t, t0, t1, tp⟩ : ∃ t : Int, c ≤ t ∧ (t - c) % 2 = 0 ∧ pkF b t = 0 ∧ (t * 40692) % 2147483587 = 32 * s := by
    exact pk_crt b c s hc hs
  refine ⟨((t - c) / 2).toNat, ?_⟩
  have e := half_up t0 t1
  rw [e]
  unfold pkD pkS
  rw [tp.1]
  simp only [Int.zero_mul, Int.zero_add, tp.2]
  exact half_32 hs
end PyV
set_option Elab.async false
set_option linter.all false
set_option maxRecDepth 100000
set_option maxHeartbeats 4000000
namespace PyV
open PySem
/-! ## a while that ends, after how many turns ever -/
def WT (cond : Ss → R Bool) (body : Nat → Ss → R Fl) (P : Ss → Prop) (s : Ss) : Prop := ∃ s', P s' ∧ ∃ N0, ∀ n0 N, N0 ≤ N → whlN cond (body n0) N s = .ok .nx s'
theorem WT.stop {cond : Ss → R Bool} {body : Nat → Ss → R Fl} {P : Ss → Prop} {s s1 : Ss} (h : cond s = .ok false s1) (p : P s1) : WT cond body P s := ⟨s1, p, 1, fun n0 N hN => by
  obtain ⟨M, rfl⟩ : ∃ M, N = M + 1 := ⟨N - 1, by omega⟩
  simp only [whlN, h]⟩
theorem WT.step {cond : Ss → R Bool} {body : Nat → Ss → R Fl} {P : Ss → Prop} {s s1 s2 : Ss} (h : cond s = .ok true s1) (hb : ∀ n0, body n0 s1 = .ok .nx s2) (w : WT cond body P s2) : WT cond body P s := by
  obtain ⟨s', p, N0, q⟩ := w
  refine ⟨s', p, N0 + 1, fun n0 N hN => ?_⟩
  obtain ⟨M, rfl⟩ : ∃ M, N = M + 1 := ⟨N - 1, by omega⟩
  simp only [whlN, h, hb]
  exact q n0 M (by omega)
/-! ## a drawn word of so many letters -/
section
variable {X Y way : Int}
@[reducible] def lwS (X Y way : Int) (d : D) (A B : Int) (f : List Nat) (s6 s7 : Sl) : Ss := [.own d, .val (.int X), .val (.int Y), .val (.int way), .own (.lst [.int A, .int B]), .val (.str f), s6, s7]
theorem lw_cond {d : D} {A B : Int} {f : List Nat} {s6 s7 : Sl} : tstR (evE TT (some 0) c_law_word_1 (lwS X Y way d A B f s6 s7)) = .ok (decide (0 < A + B)) (lwS X Y way d A B f s6 s7) := by
  simp [runD, evB, evS, evE, evEs, evXs, asgT_v, asgT_t, asgTs_n, asgTs_c, atD, placeD, c_law_word_1, lwS]
/-- the last three statements -/
theorem lw_end {n0 : Nat} {d : D} {A B m sp : Int} {f : List Nat} (hs : sp = 0 ∨ sp = 1) (hf : f.length ≤ 1000) (h0 : 0 ≤ m) (h1 : m ≤ 100) :
    evB TT (some 0) n0 (l_law_word_1.drop 2) (lwS X Y way d A B f (.val (.int m)) (.val (.int sp))) = .ok .nx (lwS X Y way d (if sp = 0 then A - m else A) (if sp = 0 then B else B - m) (f ++ List.replicate m.toNat (if sp = 0 then 120 else 121)) (.val (.int m)) (.val (.int sp))) := by
  have b1 : m.toNat ≤ 16777216 ∧ -16777216 ≤ m ∧ m ≤ 16777216 := by omega
  have b2 : f.length + m.toNat ≤ 16777216 := by omega
  rcases hs with rfl | rfl
  · simp [runD, evB, evS, evE, evEs, evXs, asgT_v, asgT_t, asgTs_n, asgTs_c, atD, placeD, l_law_word_1, lwS, b1, b2]
  · simp [runD, evB, evS, evE, evEs, evXs, asgT_v, asgT_t, asgTs_n, asgTs_c, atD, placeD, l_law_word_1, lwS, b1, b2]
theorem lw_turn01 {d : D} {A B : Int} {f : List Nat} {s6 s7 : Sl} (hd : Bag d) (hw : way = 0 ∨ way = 1) (hA : 0 ≤ A) (hB : 0 ≤ B) (hA2 : A ≤ 100) (hB2 : B ≤ 100) (hz : 0 < A + B) (hf : f.length ≤ 1000) :
    ∃ d' sp, Bag d' ∧ (sp = 0 ∧ 0 < A ∨ sp = 1 ∧ 0 < B) ∧ ∀ n0, evB TT (some 0) n0 l_law_word_1 (lwS X Y way d A B f s6 s7) = .ok .nx (lwS X Y way d' (if sp = 0 then A - 1 else A) (if sp = 0 then B else B - 1) (f ++ List.replicate (1 : Int).toNat (if sp = 0 then 120 else 121)) (.val (.int 1)) (.val (.int sp))) := by
  have big : (200 : Int) ≤ 2 ^ 250 := by decide
  have k0 : ∀ z : Int, mulOk z 0 = true := fun z => mulOk_r (by decide)
  have fin : ∀ (d' : D) (sp : Int), (sp = 0 ∧ 0 < A ∨ sp = 1 ∧ 0 < B) → (∀ n0, evB TT (some 0) n0 (l_law_word_1.take 2) (lwS X Y way d A B f s6 s7) = .ok .nx (lwS X Y way d' A B f (.val (.int 1)) (.val (.int sp)))) →
      ∀ n0, evB TT (some 0) n0 l_law_word_1 (lwS X Y way d A B f s6 s7) = .ok .nx (lwS X Y way d' (if sp = 0 then A - 1 else A) (if sp = 0 then B else B - 1) (f ++ List.replicate (1 : Int).toNat (if sp = 0 then 120 else 121)) (.val (.int 1)) (.val (.int sp))) := fun d' sp hs h n0 => by
    rw [show l_law_word_1 = l_law_word_1.take 2 ++ l_law_word_1.drop 2 from rfl, evB_app (h n0)]
    exact lw_end (by omega) hf (by decide) (by decide)
  rcases hw with rfl | rfl
  · obtain ⟨v, d1, e1, a1, b1, q1⟩ := s_pick (m := A + B) hd hz (by omega)
    obtain ⟨u, d2, e2, a2, b2, q2⟩ := s_pick (m := 60) q1 (by decide) (by decide)
    by_cases h : A ≤ v
    · exact ⟨d2, 1, q2, .inr ⟨rfl, by omega⟩, fin d2 1 (.inr ⟨rfl, by omega⟩) fun n0 => by
        simp [runD, evB, evS, evE, evEs, evXs, asgT_v, asgT_t, asgTs_n, asgTs_c, atD, placeD, l_law_word_1, lwS, e1, e2, h, k0]
        first | omega | (split <;> omega)⟩
    · exact ⟨d2, 0, q2, .inl ⟨rfl, by omega⟩, fin d2 0 (.inl ⟨rfl, by omega⟩) fun n0 => by
        simp [runD, evB, evS, evE, evEs, evXs, asgT_v, asgT_t, asgTs_n, asgTs_c, atD, placeD, l_law_word_1, lwS, e1, e2, h, k0]
        first | omega | (split <;> omega)⟩
  · obtain ⟨u, d2, e2, a2, b2, q2⟩ := s_pick (m := 60) hd (by decide) (by decide)
    by_cases h : A ≤ B
    · exact ⟨d2, 1, q2, .inr ⟨rfl, by omega⟩, fin d2 1 (.inr ⟨rfl, by omega⟩) fun n0 => by
        simp [runD, evB, evS, evE, evEs, evXs, asgT_v, asgT_t, asgTs_n, asgTs_c, atD, placeD, l_law_word_1, lwS, e2, h, k0]
        first | omega | (split <;> omega)⟩
    · exact ⟨d2, 0, q2, .inl ⟨rfl, by omega⟩, fin d2 0 (.inl ⟨rfl, by omega⟩) fun n0 => by
        simp [runD, evB, evS, evE, evEs, evXs, asgT_v, asgT_t, asgTs_n, asgTs_c, atD, placeD, l_law_word_1, lwS, e2, h, k0]
        first | omega | (split <;> omega)⟩
theorem lw_turn2 {a b c A B : Int} {f : List Nat} {s6 s7 : Sl} (ha : 0 ≤ a) (hA : 0 ≤ A) (hB : 0 ≤ B) (hA2 : A ≤ 100) (hB2 : B ≤ 100) (hf : f.length ≤ 1000) :
    ∃ sp m, sp = pkV a b c 2 ∧ (sp = 0 ∨ sp = 1) ∧ 0 ≤ m ∧ m ≤ (if sp = 0 then A else B) ∧ (0 < (if sp = 0 then A else B) → 0 < m) ∧ ∀ n0, evB TT (some 0) n0 l_law_word_1 (lwS X Y 2 (.lst [.int a, .int b, .int c]) A B f s6 s7) = .ok .nx (lwS X Y 2 (.lst [.int (pkA (pkA a 2) 60), .int b, .int (c + 1 + 1)]) (if sp = 0 then A - m else A) (if sp = 0 then B else B - m) (f ++ List.replicate m.toNat (if sp = 0 then 120 else 121)) (.val (.int m)) (.val (.int sp))) := by
  have e1 := s_pick0 (b := b) (c := c) (m := 2) ha (by decide) (by decide)
  have a2 : 0 ≤ pkA a 2 := by
    unfold pkA
    split <;> omega
  have e2 := s_pick0 (b := b) (c := c + 1) (m := 60) a2 (by decide) (by decide)
  have k1 : ∀ z : Int, mulOk z 1 = true := fun z => mulOk_r (by decide)
  have v1 : pkV a b c 2 = 0 ∨ pkV a b c 2 = 1 := by
    unfold pkV
    split <;> omega
  have v2 : 0 ≤ pkV (pkA a 2) b (c + 1) 60 := by
    unfold pkV
    split
    · exact Int.emod_nonneg _ (by decide)
    · exact Int.emod_nonneg _ (by decide)
  generalize pkV (pkA a 2) b (c + 1) 60 = v at e2 v2
  generalize pkA (pkA a 2) 60 = a3 at e2 ⊢
  generalize pkA a 2 = a4 at e1 e2
  generalize pkV a b c 2 = sp at e1 v1 ⊢
  obtain ⟨m, hm, m0, m1, m2⟩ : ∃ m : Int, (if 1 + v < (if sp = 0 then A else B) then 1 + v else (if sp = 0 then A else B)) = m ∧ 0 ≤ m ∧ m ≤ (if sp = 0 then A else B) ∧ (0 < (if sp = 0 then A else B) → 0 < m) := by
    refine ⟨_, rfl, ?_, ?_, ?_⟩ <;> rcases v1 with rfl | rfl <;> simp <;> split <;> omega
  refine ⟨sp, m, rfl, v1, m0, m1, m2, fun n0 => ?_⟩
  have st : evB TT (some 0) n0 (l_law_word_1.take 2) (lwS X Y 2 (.lst [.int a, .int b, .int c]) A B f s6 s7) = .ok .nx (lwS X Y 2 (.lst [.int a3, .int b, .int (c + 1 + 1)]) A B f (.val (.int m)) (.val (.int sp))) := by
    rcases v1 with rfl | rfl
    · simp only [if_true] at hm
      simp [runD, evB, evS, evE, evEs, evXs, asgT_v, asgT_t, asgTs_n, asgTs_c, atD, placeD, l_law_word_1, lwS, e1, e2, hm, k1]
    · simp only [show ¬ ((1 : Int) = 0) by decide, if_false] at hm
      simp [runD, evB, evS, evE, evEs, evXs, asgT_v, asgT_t, asgTs_n, asgTs_c, atD, placeD, l_law_word_1, lwS, e1, e2, hm, k1]
  rw [show l_law_word_1 = l_law_word_1.take 2 ++ l_law_word_1.drop 2 from rfl, evB_app st]
  exact lw_end v1 hf m0 (by split at m1 <;> omega)
end
end PyV
set_option Elab.async false
set_option linter.all false
set_option maxRecDepth 100000
set_option maxHeartbeats 4000000
namespace PyV
open PySem
section
variable {X Y way : Int}
/-- what holds ahead of each turn: the letters so far and those that are left -/
structure Lw (X0 Y0 A B : Nat) (f : List Nat) : Prop where
  x : f.count 120 + A = X0
  y : f.count 121 + B = Y0
  w : Wd f
  l : f.length = f.count 120 + f.count 121
theorem Lw.x1 {X0 Y0 A B m : Nat} {f : List Nat} (h : Lw X0 Y0 A B f) (hm : m ≤ A) : Lw X0 Y0 (A - m) B (f ++ List.replicate m 120) := by
  obtain ⟨h1, h2, h3, h4⟩ := h
  refine ⟨?_, ?_, fun c hc => ?_, ?_⟩
  · simp [List.count_append, List.count_replicate]; omega
  · simp [List.count_append, List.count_replicate]; omega
  · rcases List.mem_append.mp hc with hc | hc
    · exact h3 c hc
    · exact .inl (List.eq_of_mem_replicate hc)
  · simp [List.count_append, List.count_replicate]; omega
theorem Lw.y1 {X0 Y0 A B m : Nat} {f : List Nat} (h : Lw X0 Y0 A B f) (hm : m ≤ B) : Lw X0 Y0 A (B - m) (f ++ List.replicate m 121) := by
  obtain ⟨h1, h2, h3, h4⟩ := h
  refine ⟨?_, ?_, fun c hc => ?_, ?_⟩
  · simp [List.count_append, List.count_replicate]; omega
  · simp [List.count_append, List.count_replicate]; omega
  · rcases List.mem_append.mp hc with hc | hc
    · exact h3 c hc
    · exact .inr (List.eq_of_mem_replicate hc)
  · simp [List.count_append, List.count_replicate]; omega
def lwP (X Y way : Int) (X0 Y0 : Nat) (s : Ss) : Prop := ∃ d f s6 s7, s = lwS X Y way d 0 0 f s6 s7 ∧ Bag d ∧ Lw X0 Y0 0 0 f
noncomputable abbrev lwC : Ss → R Bool := fun s => tstR (evE TT (some 0) c_law_word_1 s)
noncomputable abbrev lwB : Nat → Ss → R Fl := fun n0 => evB TT (some 0) n0 l_law_word_1
theorem lw_go {X0 Y0 : Nat} (hX : X0 ≤ 100) (hY : Y0 ≤ 100) (hw : way = 0 ∨ way = 1 ∨ way = 2) : ∀ (k A B : Nat), A + B ≤ k → ∀ (d : D) (f : List Nat) (s6 s7 : Sl), Bag d → Lw X0 Y0 A B f → WT lwC lwB (lwP X Y way X0 Y0) (lwS X Y way d (A : Int) (B : Int) f s6 s7)
  | 0, A, B, hk, d, f, s6, s7, hd, h => by
    have a0 : A = 0 := by omega
    have b0 : B = 0 := by omega
    subst a0 b0
    exact WT.stop (lw_cond (X := X) (Y := Y) (way := way)) ⟨d, f, s6, s7, rfl, hd, h⟩
  | k + 1, A, B, hk, d, f, s6, s7, hd, h => by
    by_cases hz : A + B = 0
    · have a0 : A = 0 := by omega
      have b0 : B = 0 := by omega
      subst a0 b0
      exact WT.stop (lw_cond (X := X) (Y := Y) (way := way)) ⟨d, f, s6, s7, rfl, hd, h⟩
    · have hA : A ≤ 100 := by have := h.x; omega
      have hB : B ≤ 100 := by have := h.y; omega
      have hf : f.length ≤ 1000 := by have := h.x; have := h.y; have := h.l; omega
      have ih := lw_go hX hY hw k
      have tr : ∀ (d : D) (s6 s7 : Sl), lwC (lwS X Y way d (A : Int) (B : Int) f s6 s7) = .ok true (lwS X Y way d (A : Int) (B : Int) f s6 s7) := fun d s6 s7 => by
        have e := lw_cond (X := X) (Y := Y) (way := way) (d := d) (A := (A : Int)) (B := (B : Int)) (f := f) (s6 := s6) (s7 := s7)
        rw [decide_eq_true (by omega)] at e
        exact e
      -- a turn that goes on by m letters
      have goes : ∀ (d d' : D) (s6 s7 : Sl) (sp m : Int), Bag d' → (sp = 0 ∨ sp = 1) → 0 < m → m ≤ (if sp = 0 then (A : Int) else (B : Int)) → (∀ n0, lwB n0 (lwS X Y way d (A : Int) (B : Int) f s6 s7) = .ok .nx (lwS X Y way d' (if sp = 0 then (A : Int) - m else A) (if sp = 0 then (B : Int) else B - m) (f ++ List.replicate m.toNat (if sp = 0 then 120 else 121)) (.val (.int m)) (.val (.int sp)))) →
          WT lwC lwB (lwP X Y way X0 Y0) (lwS X Y way d (A : Int) (B : Int) f s6 s7) := fun d d' s6 s7 sp m hd' hs m0 m1 hb => by
        refine WT.step (tr d s6 s7) hb ?_
        obtain ⟨j, rfl⟩ : ∃ j : Nat, m = (j : Int) := ⟨m.toNat, by omega⟩
        rcases hs with rfl | rfl
        · simp only [if_true] at m1 ⊢
          rw [show (A : Int) - (j : Int) = ((A - j : Nat) : Int) by omega, Int.toNat_natCast]
          exact ih (A - j) B (by omega) d' _ _ _ hd' (h.x1 (by omega))
        · simp only [show ¬ ((1 : Int) = 0) by decide, if_false] at m1 ⊢
          rw [show (B : Int) - (j : Int) = ((B - j : Nat) : Int) by omega, Int.toNat_natCast]
          exact ih A (B - j) (by omega) d' _ _ _ hd' (h.y1 (by omega))
      by_cases w2 : way = 2
      · subst w2
        -- the side that is wanted
        obtain ⟨g, hg, hg2⟩ : ∃ g : Int, (g = 0 ∨ g = 1) ∧ 0 < (if g = 0 then (A : Int) else (B : Int)) := by
          by_cases z : 0 < A
          · exact ⟨0, .inl rfl, by simp; omega⟩
          · exact ⟨1, .inr rfl, by simp; omega⟩
        -- no digits left
        have late : ∀ (j : Nat) (b c : Int) (s6 s7 : Sl), 0 ≤ c → pkD b (c + 1 + 2 * (j : Int)) % 2 = g → WT lwC lwB (lwP X Y 2 X0 Y0) (lwS X Y 2 (.lst [.int 0, .int b, .int c]) (A : Int) (B : Int) f s6 s7) := by
          intro j
          induction j with
          | zero =>
            intro b c s6 s7 hc hj
            obtain ⟨sp, m, h1, h2, h3, h4, h5, h6⟩ := lw_turn2 (X := X) (Y := Y) (a := 0) (b := b) (c := c) (A := (A : Int)) (B := (B : Int)) (f := f) (s6 := s6) (s7 := s7) (by decide) (by omega) (by omega) (by omega) (by omega) hf
            have e : sp = g := by
              rw [h1, ← hj]
              unfold pkV
              simp
            subst e
            exact goes _ _ _ _ sp m ⟨_, _, _, rfl, by unfold pkA; simp, by omega⟩ h2 (h5 hg2) h4 h6
          | succ j ihj =>
            intro b c s6 s7 hc hj
            obtain ⟨sp, m, h1, h2, h3, h4, h5, h6⟩ := lw_turn2 (X := X) (Y := Y) (a := 0) (b := b) (c := c) (A := (A : Int)) (B := (B : Int)) (f := f) (s6 := s6) (s7 := s7) (by decide) (by omega) (by omega) (by omega) (by omega) hf
            by_cases hm : m = 0
            · subst hm
              refine WT.step (tr _ _ _) h6 ?_
              have e1 : (if sp = 0 then (A : Int) - 0 else A) = A := by split <;> omega
              have e2 : (if sp = 0 then (B : Int) else B - 0) = B := by split <;> omega
              have e3 : pkA (pkA 0 2) 60 = 0 := by unfold pkA; simp
              rw [e1, e2, e3]
              simp only [Int.toNat_zero, List.replicate_zero, List.append_nil]
              refine ihj b (c + 1 + 1) _ _ (by omega) ?_
              rw [← hj]
              congr 2
              omega
            · exact goes _ _ _ _ sp m ⟨_, _, _, rfl, by unfold pkA; simp, by omega⟩ h2 (by omega) h4 h6
        -- the digits first
        have early : ∀ (q : Nat) (a b c : Int) (s6 s7 : Sl), a.toNat ≤ q → 0 ≤ a → 0 ≤ c → WT lwC lwB (lwP X Y 2 X0 Y0) (lwS X Y 2 (.lst [.int a, .int b, .int c]) (A : Int) (B : Int) f s6 s7) := by
          intro q
          induction q with
          | zero =>
            intro a b c s6 s7 hq ha hc
            have : a = 0 := by omega
            subst this
            obtain ⟨j, hj⟩ := pk_comes b (c + 1) g (by omega) hg
            exact late j b c s6 s7 hc hj
          | succ q ihq =>
            intro a b c s6 s7 hq ha hc
            by_cases a0 : a = 0
            · subst a0
              obtain ⟨j, hj⟩ := pk_comes b (c + 1) g (by omega) hg
              exact late j b c s6 s7 hc hj
            · obtain ⟨sp, m, h1, h2, h3, h4, h5, h6⟩ := lw_turn2 (X := X) (Y := Y) (a := a) (b := b) (c := c) (A := (A : Int)) (B := (B : Int)) (f := f) (s6 := s6) (s7 := s7) ha (by omega) (by omega) (by omega) (by omega) hf
              have l1 : 0 ≤ pkA (pkA a 2) 60 ∧ pkA (pkA a 2) 60 < a := by
                have ap : 0 < a := by omega
                have e4 : pkA a 2 = a / 2 := if_pos ap
                rw [e4]
                unfold pkA
                split <;> omega
              by_cases hm : m = 0
              · subst hm
                refine WT.step (tr _ _ _) h6 ?_
                have e1 : (if sp = 0 then (A : Int) - 0 else A) = A := by split <;> omega
                have e2 : (if sp = 0 then (B : Int) else B - 0) = B := by split <;> omega
                rw [e1, e2]
                simp only [Int.toNat_zero, List.replicate_zero, List.append_nil]
                exact ihq _ b (c + 1 + 1) _ _ (by omega) l1.1 (by omega)
              · exact goes _ _ _ _ sp m ⟨_, _, _, rfl, l1.1, by omega⟩ h2 (by omega) h4 h6
        obtain ⟨a, b, c, rfl, ha, hc⟩ := hd
        exact early a.toNat a b c s6 s7 (Nat.le_refl _) ha hc
      · obtain ⟨d', sp, h1, h2, h3⟩ := lw_turn01 (X := X) (Y := Y) (way := way) (d := d) (A := (A : Int)) (B := (B : Int)) (f := f) (s6 := s6) (s7 := s7) hd (by omega) (by omega) (by omega) (by omega) (by omega) (by omega) hf
        exact goes d d' s6 s7 sp 1 h1 (by omega) (by decide) (by rcases h2 with ⟨rfl, q⟩ | ⟨rfl, q⟩ <;> simp <;> omega) h3
theorem s_law_word {d : D} {x y : Nat} (hd : Bag d) (hx : x ≤ 100) (hy : y ≤ 100) : ∃ w d', TT.G 134 [d, .int (x : Int), .int (y : Int)] = .ok (.str w) false (some d') ∧ Wd w ∧ w.count 120 = x ∧ w.count 121 = y ∧ Bag d' := by
  obtain ⟨v, d1, e1, a1, b1, q1⟩ := s_pick (m := 3) hd (by decide) (by decide)
  obtain ⟨s', ⟨d2, f, s6, s7, rfl, hb, hl⟩, N0, hN⟩ := lw_go (X := (x : Int)) (Y := (y : Int)) (way := v) hx hy (by omega) (x + y) x y (Nat.le_refl _) d1 [] .emp .emp q1 ⟨by simp, by simp, fun c hc => by simp at hc, rfl⟩
  refine ⟨f, d2, tt_run N0 (show runD TT (some 0) N0 b_law_word _ = _ from run_rt (s := lwS x y v d2 0 0 f s6 s7) ?_ rfl) (by simp), hl.w, by have := hl.x; omega, by have := hl.y; omega, hb⟩
  show evB TT (some 0) N0 b_law_word.body [.own d, .val (.int (x : Int)), .val (.int (y : Int)), .emp, .emp, .emp, .emp, .emp] = _
  unfold b_law_word
  rw [evB_step (s1 := lwS x y v d1 x y [] .emp .emp) (by simp [runD, evB, evS, evE, evEs, evXs, asgT_v, asgT_t, asgTs_n, asgTs_c, atD, placeD, e1, lwS]), evB_step (s1 := lwS x y v d2 0 0 f s6 s7) (by
    have := hN N0 N0 (Nat.le_refl _)
    simp only [evS]
    exact this)]
  simp [runD, evB, evS, evE, evEs, evXs, asgT_v, asgT_t, asgTs_n, asgTs_c, atD, placeD, lwS]
end
theorem s_law_bits {d : D} {m : Int} (hd : Bag d) (h0 : 0 < m) (h1 : m ≤ 100) : ∃ (x y : Nat) (d' : D), TT.G 135 [d, .int m] = .ok (.tup [.int (x : Int), .int (y : Int)]) false (some d') ∧ (x : Int) ≤ m ∧ (y : Int) ≤ m ∧ 0 < x + y ∧ Bag d' := by
  have big : (101 : Int) ≤ 2 ^ 250 := by decide
  obtain ⟨v1, d1, e1, a1, b1, q1⟩ := s_pick (m := m + 1) hd (by omega) (by omega)
  obtain ⟨v2, d2, e2, a2, b2, q2⟩ := s_pick (m := m + 1) q1 (by omega) (by omega)
  clear big
  by_cases h : 0 < v1 + v2
  · refine ⟨v1.toNat, v2.toNat, d2, tt_run 0 (show runD TT (some 0) 0 b_law_bits _ = _ from ?_) (by simp), by omega, by omega, by omega, q2⟩
    have z1 : ((v1.toNat : Nat) : Int) = v1 := by omega
    have z2 : ((v2.toNat : Nat) : Int) = v2 := by omega
    rw [z1, z2]
    simp [runD, evB, evS, evE, evEs, evXs, asgT_v, asgT_t, asgTs_n, asgTs_c, atD, placeD, b_law_bits, e1, e2, h]
  · refine ⟨1, m.toNat, d2, tt_run 0 (show runD TT (some 0) 0 b_law_bits _ = _ from ?_) (by simp), by omega, by omega, by omega, q2⟩
    have z2 : ((m.toNat : Nat) : Int) = m := by omega
    rw [z2]
    simp [runD, evB, evS, evE, evEs, evXs, asgT_v, asgT_t, asgTs_n, asgTs_c, atD, placeD, b_law_bits, e1, e2, h]
end PyV
set_option Elab.async false
set_option linter.all false
set_option maxRecDepth 100000
set_option maxHeartbeats 4000000
namespace PyV
open PySem
/-! ## keys and cells, the highest digits first -/
theorem kF_app : ∀ (l m : List Nat) (x y : Int), Wd l → kF (l ++ m) x y = kF l x y + 2 ^ l.length * kF m (x / 2 ^ l.count 120) (y / 2 ^ l.count 121)
  | [], m, x, y, _ => by simp [kF]
  | c :: l, m, x, y, w => by
    rcases w c List.mem_cons_self with rfl | rfl
    · rw [List.cons_append, kF, if_pos rfl, kF_app l m (x / 2) y w.tl, kF, if_pos rfl, List.count_cons_self, List.count_cons_of_ne (by decide), div_two, List.length_cons, Int.pow_succ]
      generalize kF m (x / 2 / 2 ^ l.count 120) (y / 2 ^ l.count 121) = z
      rw [Int.mul_add, Int.add_assoc, ← Int.mul_assoc, Int.mul_comm (2 ^ l.length) 2]
    · rw [List.cons_append, kF, if_neg (by decide), kF_app l m x (y / 2) w.tl, kF, if_neg (by decide), List.count_cons_self, List.count_cons_of_ne (by decide), div_two, List.length_cons, Int.pow_succ]
      generalize kF m (x / 2 ^ l.count 120) (y / 2 / 2 ^ l.count 121) = z
      rw [Int.mul_add, Int.add_assoc, ← Int.mul_assoc, Int.mul_comm (2 ^ l.length) 2]
theorem lky_loop {n : Nat} {w : Sl} {x y : Int} : ∀ (r : List Nat) (f : Int) (s3 : Sl), Wd r → ∃ t3 t5 t6, forL (asgT none (.v 3)) (evB TT none n l_law_key_1) (r.map fun c => .str [c]) [w, .val (.int x), .val (.int y), s3, .val (.int f), .val (.int (r.count 120 : Nat)), .val (.int (r.count 121 : Nat))] =
    .ok .nx [w, .val (.int x), .val (.int y), t3, .val (.int (f * 2 ^ r.length + kF r.reverse x y)), t5, t6]
  | [], f, s3, _ => ⟨s3, _, _, by simp [forL, kF]; exact ⟨rfl, rfl⟩⟩
  | c :: r, f, s3, wd => by
    have m1 : ∀ z : Int, mulOk 2 z = true := fun z => mulOk_l (by decide)
    have hr := kF_app r.reverse [c] x y wd.tl.rev
    rw [List.count_reverse, List.count_reverse, List.length_reverse] at hr
    rcases wd c List.mem_cons_self with rfl | rfl
    · obtain ⟨t3, t5, t6, e⟩ := lky_loop (n := n) (w := w) (x := x) (y := y) r (2 * f + x / 2 ^ r.count 120 % 2) (.val (.str [120])) wd.tl
      refine ⟨t3, t5, t6, ?_⟩
      have st : evB TT none n l_law_key_1 [w, .val (.int x), .val (.int y), .val (.str [120]), .val (.int f), .val (.int ((120 :: r).count 120 : Nat)), .val (.int ((120 :: r).count 121 : Nat))] = .ok .nx [w, .val (.int x), .val (.int y), .val (.str [120]), .val (.int (2 * f + x / 2 ^ r.count 120 % 2)), .val (.int (r.count 120 : Nat)), .val (.int (r.count 121 : Nat))] := by
        have e1 : (((120 :: r).count 120 : Nat) : Int) = (r.count 120 : Nat) + 1 := by rw [List.count_cons_self]; omega
        have e2 : (((120 :: r).count 121 : Nat) : Int) = (r.count 121 : Nat) := by rw [List.count_cons_of_ne (by decide)]
        have e3 : ((r.count 120 : Nat) : Int) + 1 - 1 = (r.count 120 : Nat) := by omega
        rw [e1, e2]
        simp [runD, evB, evS, evE, evEs, evXs, asgT_v, asgT_t, asgTs_n, asgTs_c, atD, placeD, l_law_key_1, e3, m1, bit1]
      have ar : f * 2 ^ (120 :: r).length + (kF r.reverse x y + 2 ^ r.length * kF [120] (x / 2 ^ r.count 120) (y / 2 ^ r.count 121)) = (2 * f + x / 2 ^ r.count 120 % 2) * 2 ^ r.length + kF r.reverse x y := by
        rw [kF, if_pos rfl, List.length_cons, Int.pow_succ, kF, Int.mul_zero, Int.add_zero]
        generalize kF r.reverse x y = z
        generalize (2 : Int) ^ r.length = q
        generalize x / 2 ^ r.count 120 % 2 = b
        rw [Int.add_mul, Int.mul_comm 2 f, Int.mul_assoc, Int.mul_comm 2 q, Int.mul_comm b q]
        omega
      rw [List.map_cons, forL_step rfl st, e, List.reverse_cons, hr, ar]
    · obtain ⟨t3, t5, t6, e⟩ := lky_loop (n := n) (w := w) (x := x) (y := y) r (2 * f + y / 2 ^ r.count 121 % 2) (.val (.str [121])) wd.tl
      refine ⟨t3, t5, t6, ?_⟩
      have st : evB TT none n l_law_key_1 [w, .val (.int x), .val (.int y), .val (.str [121]), .val (.int f), .val (.int ((121 :: r).count 120 : Nat)), .val (.int ((121 :: r).count 121 : Nat))] = .ok .nx [w, .val (.int x), .val (.int y), .val (.str [121]), .val (.int (2 * f + y / 2 ^ r.count 121 % 2)), .val (.int (r.count 120 : Nat)), .val (.int (r.count 121 : Nat))] := by
        have e1 : (((121 :: r).count 121 : Nat) : Int) = (r.count 121 : Nat) + 1 := by rw [List.count_cons_self]; omega
        have e2 : (((121 :: r).count 120 : Nat) : Int) = (r.count 120 : Nat) := by rw [List.count_cons_of_ne (by decide)]
        have e3 : ((r.count 121 : Nat) : Int) + 1 - 1 = (r.count 121 : Nat) := by omega
        rw [e1, e2]
        simp [runD, evB, evS, evE, evEs, evXs, asgT_v, asgT_t, asgTs_n, asgTs_c, atD, placeD, l_law_key_1, e3, m1, bit1]
      have ar : f * 2 ^ (121 :: r).length + (kF r.reverse x y + 2 ^ r.length * kF [121] (x / 2 ^ r.count 120) (y / 2 ^ r.count 121)) = (2 * f + y / 2 ^ r.count 121 % 2) * 2 ^ r.length + kF r.reverse x y := by
        rw [kF, if_neg (by decide), List.length_cons, Int.pow_succ, kF, Int.mul_zero, Int.add_zero]
        generalize kF r.reverse x y = z
        generalize (2 : Int) ^ r.length = q
        generalize y / 2 ^ r.count 121 % 2 = b
        rw [Int.add_mul, Int.mul_comm 2 f, Int.mul_assoc, Int.mul_comm 2 q, Int.mul_comm b q]
        omega
      rw [List.map_cons, forL_step rfl st, e, List.reverse_cons, hr, ar]
theorem s_bkey {w : List Nat} {x y : Int} (wd : Wd w) (hl : w.length ≤ 1000) : TT.G 136 [.str w, .int x, .int y] = .ok (.int (kF w.reverse x y)) false none := tt_run 0 (show runD TT none 0 b_law_key _ = _ by
  obtain ⟨t3, t5, t6, e⟩ := lky_loop (n := 0) (w := .val (.str w)) (x := x) (y := y) w 0 .emp wd
  rw [Int.zero_mul, Int.zero_add] at e
  have fin : evB TT none 0 b_law_key.body [.val (.str w), .val (.int x), .val (.int y), .emp, .emp, .emp, .emp] = .ok (.rt (.int (kF w.reverse x y)) false) [.val (.str w), .val (.int x), .val (.int y), t3, .val (.int (kF w.reverse x y)), t5, t6] := by
    unfold b_law_key
    rw [evB_step (s1 := [.val (.str w), .val (.int x), .val (.int y), .emp, .val (.int 0), .val (.int (w.count 120 : Nat)), .val (.int (w.count 121 : Nat))]) (by simp [runD, evB, evS, evE, evEs, evXs, asgT_v, asgT_t, asgTs_n, asgTs_c, atD, placeD]), evB_step (s1 := [.val (.str w), .val (.int x), .val (.int y), t3, .val (.int (kF w.reverse x y)), t5, t6]) (by
      rw [evS_for (rs := [.val (.str w)]) (ds := [.str w]) (xs := w.map fun c => .str [c]) (s1 := [.val (.str w), .val (.int x), .val (.int y), .emp, .val (.int 0), .val (.int (w.count 120 : Nat)), .val (.int (w.count 121 : Nat))]) (s2 := [.val (.str w), .val (.int x), .val (.int y), .emp, .val (.int 0), .val (.int (w.count 120 : Nat)), .val (.int (w.count 121 : Nat))]) (by simp [runD, evB, evS, evE, evEs, evXs, asgT_v, asgT_t, asgTs_n, asgTs_c, atD, placeD]) rfl rfl, e])]
    simp [runD, evB, evS, evE, evEs, evXs, asgT_v, asgT_t, asgTs_n, asgTs_c, atD, placeD]
  exact run_rt fin rfl) (by simp)
/-! ### the cell with a key -/
theorem ar_cell (y b z : Int) (j : Nat) : y + b * 2 ^ j + 2 ^ (j + 1) * z = y + 2 ^ j * (b + 2 * z) := by
  rw [Int.pow_succ, Int.mul_add, Int.mul_comm b, Int.add_assoc, Int.mul_assoc]
theorem lcl_loop {n : Nat} {w : Sl} {k : Int} : ∀ (l : List Nat) (r i j : Nat) (x y : Int) (s6 s7 : Sl), Wd l → i + j + l.length ≤ 100000 → ∃ t4 t5 t6 t7, forL (asgT none (.tup [.v 6, .v 7])) (evB TT none n l_law_cell_1) (enumD r (l.map fun c => .str [c])) [w, .val (.int k), .val (.int x), .val (.int y), .val (.int (i : Int)), .val (.int (j : Int)), s6, s7] =
    .ok .nx [w, .val (.int k), .val (.int (x + 2 ^ i * (cellF l (k / 2 ^ r)).1)), .val (.int (y + 2 ^ j * (cellF l (k / 2 ^ r)).2)), t4, t5, t6, t7]
  | [], r, i, j, x, y, s6, s7, _, _ => ⟨_, _, s6, s7, by simp [forL, cellF]; exact ⟨rfl, rfl⟩⟩
  | c :: l, r, i, j, x, y, s6, s7, wd, hl => by
    rw [List.length_cons] at hl
    have hd := mod2 (k / 2 ^ r)
    have k1 := shlOk_bit (d := k / 2 ^ r % 2) (r := i) hd (by omega)
    have k2 := shlOk_bit (d := k / 2 ^ r % 2) (r := j) hd (by omega)
    rcases wd c List.mem_cons_self with rfl | rfl
    · obtain ⟨t4, t5, t6, t7, e⟩ := lcl_loop (n := n) (w := w) (k := k) l (r + 1) (i + 1) j (x + k / 2 ^ r % 2 * 2 ^ i) y (.val (.int (r : Int))) (.val (.str [120])) wd.tl (by omega)
      refine ⟨t4, t5, t6, t7, ?_⟩
      have st : evB TT none n l_law_cell_1 [w, .val (.int k), .val (.int x), .val (.int y), .val (.int (i : Int)), .val (.int (j : Int)), .val (.int (r : Int)), .val (.str [120])] = .ok .nx [w, .val (.int k), .val (.int (x + k / 2 ^ r % 2 * 2 ^ i)), .val (.int y), .val (.int ((i + 1 : Nat) : Int)), .val (.int (j : Int)), .val (.int (r : Int)), .val (.str [120])] := by
        simp [runD, evB, evS, evE, evEs, evXs, asgT_v, asgT_t, asgTs_n, asgTs_c, atD, placeD, l_law_cell_1, bit1, k1]
      rw [List.map_cons, enumD, forL_step (s1 := [w, .val (.int k), .val (.int x), .val (.int y), .val (.int (i : Int)), .val (.int (j : Int)), .val (.int (r : Int)), .val (.str [120])]) (by simp [runD, evB, evS, evE, evEs, evXs, asgT_v, asgT_t, asgTs_n, asgTs_c, atD, placeD]) st, e, cellF, if_pos rfl, div_pow]
      simp only [ar_cell]
    · obtain ⟨t4, t5, t6, t7, e⟩ := lcl_loop (n := n) (w := w) (k := k) l (r + 1) i (j + 1) x (y + k / 2 ^ r % 2 * 2 ^ j) (.val (.int (r : Int))) (.val (.str [121])) wd.tl (by omega)
      refine ⟨t4, t5, t6, t7, ?_⟩
      have st : evB TT none n l_law_cell_1 [w, .val (.int k), .val (.int x), .val (.int y), .val (.int (i : Int)), .val (.int (j : Int)), .val (.int (r : Int)), .val (.str [121])] = .ok .nx [w, .val (.int k), .val (.int x), .val (.int (y + k / 2 ^ r % 2 * 2 ^ j)), .val (.int (i : Int)), .val (.int ((j + 1 : Nat) : Int)), .val (.int (r : Int)), .val (.str [121])] := by
        simp [runD, evB, evS, evE, evEs, evXs, asgT_v, asgT_t, asgTs_n, asgTs_c, atD, placeD, l_law_cell_1, bit1, k2]
      rw [List.map_cons, enumD, forL_step (s1 := [w, .val (.int k), .val (.int x), .val (.int y), .val (.int (i : Int)), .val (.int (j : Int)), .val (.int (r : Int)), .val (.str [121])]) (by simp [runD, evB, evS, evE, evEs, evXs, asgT_v, asgT_t, asgTs_n, asgTs_c, atD, placeD]) st, e, cellF, if_neg (by decide), div_pow]
      simp only [ar_cell]
theorem s_bcell {w : List Nat} {k : Int} (wd : Wd w) (hl : w.length ≤ 1000) : TT.G 137 [.str w, .int k] = .ok (.tup [.int (cellF w.reverse k).1, .int (cellF w.reverse k).2]) false none := tt_run 0 (show runD TT none 0 b_law_cell _ = _ by
  obtain ⟨t4, t5, t6, t7, e⟩ := lcl_loop (n := 0) (w := .val (.str w)) (k := k) w.reverse 0 0 0 0 0 .emp .emp wd.rev (by rw [List.length_reverse]; omega)
  have hl' : w.length ≤ 16777216 := by omega
  have e0 : ((0 : Nat) : Int) = 0 := rfl
  simp only [e0, Int.pow_zero, Int.ediv_one, Int.one_mul, Int.zero_add] at e
  have fin : evB TT none 0 b_law_cell.body [.val (.str w), .val (.int k), .emp, .emp, .emp, .emp, .emp, .emp] = .ok (.rt (.tup [.int (cellF w.reverse k).1, .int (cellF w.reverse k).2]) false) [.val (.str w), .val (.int k), .val (.int (cellF w.reverse k).1), .val (.int (cellF w.reverse k).2), t4, t5, t6, t7] := by
    unfold b_law_cell
    rw [evB_step (s1 := [.val (.str w), .val (.int k), .val (.int 0), .val (.int 0), .val (.int 0), .val (.int 0), .emp, .emp]) (by simp [runD, evB, evS, evE, evEs, evXs, asgT_v, asgT_t, asgTs_n, asgTs_c, atD, placeD]), evB_step (s1 := [.val (.str w), .val (.int k), .val (.int (cellF w.reverse k).1), .val (.int (cellF w.reverse k).2), t4, t5, t6, t7]) (by
      rw [evS_for (rs := [.val (.str w.reverse)]) (ds := [.str w.reverse]) (xs := enumD 0 (w.reverse.map fun c => .str [c])) (s1 := [.val (.str w), .val (.int k), .val (.int 0), .val (.int 0), .val (.int 0), .val (.int 0), .emp, .emp]) (s2 := [.val (.str w), .val (.int k), .val (.int 0), .val (.int 0), .val (.int 0), .val (.int 0), .emp, .emp]) (by simp [runD, evB, evS, evE, evEs, evXs, asgT_v, asgT_t, asgTs_n, asgTs_c, atD, placeD, hl']) rfl (by rfl), e])]
    simp [runD, evB, evS, evE, evEs, evXs, asgT_v, asgT_t, asgTs_n, asgTs_c, atD, placeD]
  exact run_rt fin rfl) (by simp)
end PyV
set_option Elab.async false
set_option linter.all false
set_option maxRecDepth 100000
set_option maxHeartbeats 4000000
namespace PyV
open PySem
theorem lt_unique : ∀ {l m : List Int}, l.Pairwise (· < ·) → m.Pairwise (· < ·) → (∀ x, x ∈ l ↔ x ∈ m) → l = m
  | [], [], _, _, _ => rfl
  | [], b :: m, _, _, h => absurd ((h b).mpr List.mem_cons_self) (by simp)
  | a :: l, [], _, _, h => absurd ((h a).mp List.mem_cons_self) (by simp)
  | a :: l, b :: m, hl, hm, h => by
    obtain ⟨l1, l2⟩ := List.pairwise_cons.mp hl
    obtain ⟨m1, m2⟩ := List.pairwise_cons.mp hm
    have e : a = b := by
      rcases List.mem_cons.mp ((h a).mp List.mem_cons_self) with z | z
      · exact z
      · rcases List.mem_cons.mp ((h b).mpr List.mem_cons_self) with y | y
        · exact y.symm
        · have := m1 a z
          have := l1 b y
          omega
    subst e
    rw [lt_unique l2 m2 fun x => ⟨fun q => ?_, fun q => ?_⟩]
    · rcases List.mem_cons.mp ((h x).mp (List.mem_cons_of_mem _ q)) with z | z
      · have := l1 x q; omega
      · exact z
    · rcases List.mem_cons.mp ((h x).mpr (List.mem_cons_of_mem _ q)) with z | z
      · have := m1 x q; omega
      · exact z
/-! ## a drawn side, a drawn box -/
theorem s_law_side {d : D} {n : Nat} (hd : Bag d) (hn : n ≤ 100) : ∃ lo hi d', TT.G 138 [d, .int (n : Int)] = .ok (.tup [.int lo, .int hi]) false (some d') ∧ 0 ≤ lo ∧ lo ≤ hi ∧ hi < 2 ^ n ∧ Bag d' := by
  have hp := p2 n
  have hp2 : (2 : Int) ^ n ≤ 2 ^ 100 := pow2_le hn
  have big : (2 : Int) ^ 100 ≤ 2 ^ 250 := by decide
  have s1 := shlOk_one (a := (n : Int)) (by omega) (by omega)
  obtain ⟨low, d1, e1, a1, b1, q1⟩ := s_pick (m := 2 ^ n) hd hp (by omega)
  obtain ⟨high, d2, e2, a2, b2, q2⟩ := s_pick (m := 2 ^ n) q1 hp (by omega)
  obtain ⟨way, d3, e3, a3, b3, q3⟩ := s_pick (m := 5) q2 (by decide) (by decide)
  obtain ⟨pw, d4, e4, a4, b4, q4⟩ := s_pick (m := (n : Int) + 1) q3 (by omega) (by omega)
  obtain ⟨v, d5, e5, a5, b5, q5⟩ := s_pick (m := 4) q4 (by decide) (by decide)
  clear big
  have s2 := shlOk_one (a := pw) a4 (by omega)
  have t1 : (2 : Int) ^ n - 1 + 1 = 2 ^ n := by omega
  have st : evB TT (some 0) 0 (b_law_side.body.take 3) [.own d, .val (.int (n : Int)), .emp, .emp, .emp, .emp, .emp, .emp] = .ok .nx [.own d4, .val (.int (n : Int)), .val (.int (2 ^ n - 1)), .val (.int low), .val (.int high), .val (.int way), .val (.int (2 ^ pw.toNat)), .emp] := by
    simp [runD, evB, evS, evE, evEs, evXs, asgT_v, asgT_t, asgTs_n, asgTs_c, atD, placeD, b_law_side, s1, t1, e1, e2, e3, e4, s2]
  have fin : ∀ (lo hi : Int) (d' : D) (s : Ss), evB TT (some 0) 0 (b_law_side.body.drop 3) [.own d4, .val (.int (n : Int)), .val (.int (2 ^ n - 1)), .val (.int low), .val (.int high), .val (.int way), .val (.int (2 ^ pw.toNat)), .emp] = .ok (.rt (.tup [.int lo, .int hi]) false) (.own d' :: s) → TT.G 138 [d, .int (n : Int)] = .ok (.tup [.int lo, .int hi]) false (some d') := fun lo hi d' s h =>
    tt_run 0 (show runD TT (some 0) 0 b_law_side _ = _ from run_rt (s := .own d' :: s) (by
      show evB TT (some 0) 0 b_law_side.body [.own d, .val (.int (n : Int)), .emp, .emp, .emp, .emp, .emp, .emp] = _
      rw [show b_law_side.body = b_law_side.body.take 3 ++ b_law_side.body.drop 3 from rfl, evB_app st, h]) rfl) (by simp)
  by_cases w0 : way = 0
  · exact ⟨0, 2 ^ n - 1, d4, fin _ _ _ _ (by simp [runD, evB, evS, evE, evEs, evXs, asgT_v, asgT_t, asgTs_n, asgTs_c, atD, placeD, b_law_side, w0]; rfl), by decide, by omega, by omega, q4⟩
  by_cases w1 : way = 1
  · obtain ⟨hi, hhi, g1, g2⟩ : ∃ hi : Int, (if low + v < 2 ^ n - 1 then low + v else 2 ^ n - 1) = hi ∧ low ≤ hi ∧ hi < 2 ^ n := by
      refine ⟨_, rfl, ?_, ?_⟩ <;> split <;> omega
    exact ⟨low, hi, d5, fin _ _ _ _ (by simp [runD, evB, evS, evE, evEs, evXs, asgT_v, asgT_t, asgTs_n, asgTs_c, atD, placeD, b_law_side, w1, e5, hhi]; rfl), a1, g1, g2, q5⟩
  by_cases w2 : way = 2
  · have hq := p2 pw.toNat
    have hq2 : (2 : Int) ^ pw.toNat ≤ 2 ^ 100 := pow2_le (by omega)
    have dv : divOk (2 ^ pw.toNat) = true := divOk_of hq 300 (by
      generalize (2 : Int) ^ pw.toNat = z at hq hq2
      omega) (by decide)
    have f0 : 0 ≤ low / 2 ^ pw.toNat := Int.ediv_nonneg a1 (by omega)
    have f1 : low / 2 ^ pw.toNat * 2 ^ pw.toNat ≤ low := Int.ediv_mul_le _ (by omega)
    have f2 : 0 ≤ low / 2 ^ pw.toNat * 2 ^ pw.toNat := Int.mul_nonneg f0 (by omega)
    have f3 : low / 2 ^ pw.toNat ≤ low := Int.ediv_le_self _ a1
    have m1 := mulOk_b (i := low / 2 ^ pw.toNat) (j := 2 ^ pw.toNat) (by omega) (by omega) (by omega) (by omega)
    have m2 := mulOk_b (i := 2 ^ pw.toNat) (j := 1 + v) (by omega) (by omega) (by omega) (by omega)
    have f4 : (2 : Int) ^ pw.toNat * 1 ≤ 2 ^ pw.toNat * (1 + v) := Int.mul_le_mul_of_nonneg_left (by omega) (by omega)
    obtain ⟨hi, hhi, g1, g2⟩ : ∃ hi : Int, (if low / 2 ^ pw.toNat * 2 ^ pw.toNat + 2 ^ pw.toNat * (1 + v) - 1 < 2 ^ n - 1 then low / 2 ^ pw.toNat * 2 ^ pw.toNat + 2 ^ pw.toNat * (1 + v) - 1 else 2 ^ n - 1) = hi ∧ low / 2 ^ pw.toNat * 2 ^ pw.toNat ≤ hi ∧ hi < 2 ^ n := by
      refine ⟨_, rfl, ?_, ?_⟩ <;> split <;> omega
    exact ⟨low / 2 ^ pw.toNat * 2 ^ pw.toNat, hi, d5, fin _ _ _ _ (by
      have hs : ∀ x : Int, (x - 1 < 2 ^ n - 1) = (x < 2 ^ n) := fun x => by rw [eq_iff_iff]; omega
      have hhi2 := hhi
      simp only [hs] at hhi2
      simp [runD, evB, evS, evE, evEs, evXs, asgT_v, asgT_t, asgTs_n, asgTs_c, atD, placeD, b_law_side, w2, e5, dv, m1, m2, hq, hhi, hhi2]; rfl), f2, g1, g2, q5⟩
  · obtain ⟨lo, hlo, l1, l2⟩ : ∃ lo : Int, (if high < low then high else low) = lo ∧ 0 ≤ lo ∧ lo ≤ low ∧ lo ≤ high := by
      refine ⟨_, rfl, ?_, ?_⟩ <;> split <;> omega
    obtain ⟨hi, hhi, g1, g2⟩ : ∃ hi : Int, (if low < high then high else low) = hi ∧ low ≤ hi ∧ hi < 2 ^ n := by
      refine ⟨_, rfl, ?_, ?_⟩ <;> split <;> omega
    exact ⟨lo, hi, d4, fin _ _ _ _ (by simp [runD, evB, evS, evE, evEs, evXs, asgT_v, asgT_t, asgTs_n, asgTs_c, atD, placeD, b_law_side, w0, w1, w2, hlo, hhi]; rfl), l1, by omega, g2, q4⟩
theorem s_law_box {d : D} {x y : Nat} (hd : Bag d) (hx : x ≤ 100) (hy : y ≤ 100) : ∃ b d', TT.G 139 [d, .int (x : Int), .int (y : Int)] = .ok (boxD b) false (some d') ∧ (0 ≤ b.x1 ∧ b.x1 ≤ b.x2 ∧ b.x2 < 2 ^ x) ∧ (0 ≤ b.y1 ∧ b.y1 ≤ b.y2 ∧ b.y2 < 2 ^ y) ∧ Bag d' := by
  obtain ⟨x1, x2, d1, e1, a1, a2, a3, q1⟩ := s_law_side hd hx
  obtain ⟨y1, y2, d2, e2, b1, b2, b3, q2⟩ := s_law_side q1 hy
  refine ⟨⟨x1, y1, x2, y2⟩, d2, tt_run 0 (show runD TT (some 0) 0 b_law_box _ = _ from ?_) (by simp), ⟨a1, a2, a3⟩, ⟨b1, b2, b3⟩, q2⟩
  simp [runD, evB, evS, evE, evEs, evXs, asgT_v, asgT_t, asgTs_n, asgTs_c, atD, placeD, b_law_box, e1, e2]
/-! ## the keys of a box, row by row, sorted -/
theorem bk_turn {n : Nat} {w : List Nat} {b : Bx} {y : Int} {acc : List D} (wd : Wd w) (hl : w.length ≤ 1000) (h1 : 0 ≤ b.x1) (h2 : b.x1 ≤ b.x2) (h3 : b.x2 ≤ 2 ^ 23) (ha : acc.length + b.xs.length ≤ 16777216) :
    evB TT none n l_law_keys_1 [.val (.str w), .val (boxD b), .own (.lst acc), .val (.int y), .emp] = .ok .nx [.val (.str w), .val (boxD b), .own (.lst (acc ++ b.xs.map fun x => .int (kF w.reverse x y))), .val (.int y), .emp] := by
  have g1 := big62_b (i := b.x1) (by omega) (by omega)
  have g2 := big62_b (i := b.x2 + 1) (by omega) (by omega)
  have hi : irange b.x1 (b.x2 + 1 - b.x1).toNat 1 = b.xs.map D.int := by
    rw [irange_rng]
    unfold Bx.xs
    congr 2
    omega
  have e3 := ev_lc (T := TT) (p := none) (e := c_law_keys_1) (t := .v 4) (k := .rng) (its := [.sub (.var 1) (.int 0), .bin .add (.sub (.var 1) (.int 2)) (.int 1)]) (own := [4]) (s := [.val (.str w), .val (boxD b), .own (.lst acc), .val (.int y), .emp]) (s1 := [.val (.str w), .val (boxD b), .own (.lst acc), .val (.int y), .emp]) (s2 := [.val (.str w), .val (boxD b), .own (.lst acc), .val (.int y), .emp])
    (rs := [.val (.int b.x1), .val (.int (b.x2 + 1))]) (ds := [.int b.x1, .int (b.x2 + 1)]) b.xs D.int (fun x => .int (kF w.reverse x y)) (by simp [runD, evB, evS, evE, evEs, evXs, asgT_v, asgT_t, asgTs_n, asgTs_c, atD, placeD]) rfl (by simp only [itemsD, g1, g2, and_self, if_true, hi]) (by rfl) (by omega) fun x hx => by
      have e4 := s_bkey (w := w) (x := x) (y := y) wd hl
      exact ⟨[.val (.str w), .val (boxD b), .own (.lst acc), .val (.int y), .val (.int x)], by simp [runD, evB, evS, evE, evEs, evXs, asgT_v, asgT_t, asgTs_n, asgTs_c, atD, placeD], by simp, .val (.int (kF w.reverse x y)), by simp [runD, evB, evS, evE, evEs, evXs, asgT_v, asgT_t, asgTs_n, asgTs_c, atD, placeD, c_law_keys_1, e4], rfl⟩
  simp [runD, evB, evS, evE, evEs, evXs, asgT_v, asgT_t, asgTs_n, asgTs_c, atD, placeD, l_law_keys_1, e3, ha]
theorem bk_outer {n : Nat} {w : List Nat} {b : Bx} (wd : Wd w) (hl : w.length ≤ 1000) (h1 : 0 ≤ b.x1) (h2 : b.x1 ≤ b.x2) (h3 : b.x2 ≤ 2 ^ 23) : ∀ (ys : List Int) (acc : List D) (s3 : Sl), acc.length + ys.length * b.xs.length ≤ 16777216 →
    ∃ t3, forL (asgT none (.v 3)) (evB TT none n l_law_keys_1) (ys.map .int) [.val (.str w), .val (boxD b), .own (.lst acc), s3, .emp] = .ok .nx [.val (.str w), .val (boxD b), .own (.lst (acc ++ (ys.flatMap fun y => b.xs.map fun x => kF w.reverse x y).map .int)), t3, .emp]
  | [], acc, s3, _ => ⟨s3, by simp [forL]⟩
  | y :: ys, acc, s3, h => by
    rw [List.length_cons, Nat.succ_mul] at h
    obtain ⟨t3, e⟩ := bk_outer wd hl h1 h2 h3 ys (acc ++ b.xs.map fun x => .int (kF w.reverse x y)) (.val (.int y)) (by simp; omega)
    refine ⟨t3, ?_⟩
    rw [List.map_cons, forL_step rfl (bk_turn wd hl h1 h2 h3 (by omega)), e, List.flatMap_cons, List.map_append, List.map_map, List.append_assoc]
    rfl
theorem rows_sort {l : List Nat} {b : Bx} (w : Wd l) (hb : b.ok l) : sortI (b.ys.flatMap fun y => b.xs.map fun x => kF l x y) = sortI (keysF l b) := by
  have mem : ∀ k, k ∈ (b.ys.flatMap fun y => b.xs.map fun x => kF l x y) ↔ k ∈ keysF l b := fun k => by
    rw [mem_keysF]
    simp only [List.mem_flatMap, List.mem_map, Bx.has_iff, Bx.mem_xs, Bx.mem_ys]
    constructor
    · rintro ⟨y, hy, x, hx, e⟩
      exact ⟨x, y, ⟨hx, hy⟩, e⟩
    · rintro ⟨x, y, ⟨hx, hy⟩, e⟩
      exact ⟨y, hy, x, hx, e⟩
  have nd : (b.ys.flatMap fun y => b.xs.map fun x => kF l x y).Nodup := by
    have key : ∀ (ys : List Int), ys.Nodup → (∀ y ∈ ys, b.y1 ≤ y ∧ y ≤ b.y2) → (ys.flatMap fun y => b.xs.map fun x => kF l x y).Nodup := by
      intro ys
      induction ys with
      | nil => intro _ _; exact List.nodup_nil
      | cons y ys ih =>
        intro hn hm
        rw [List.flatMap_cons, List.nodup_append]
        have hy := hm y List.mem_cons_self
        refine ⟨?_, ih (List.nodup_cons.mp hn).2 fun z hz => hm z (List.mem_cons_of_mem _ hz), ?_⟩
        · unfold List.Nodup
          rw [List.pairwise_map]
          refine List.Pairwise.imp_of_mem ?_ (rng_nodup _ _ : b.xs.Nodup)
          intro x z h1 h2 hne e
          have t1 : b.has x y = true := Bx.has_iff.mpr ⟨Bx.mem_xs.mp h1, hy⟩
          have t2 : b.has z y = true := Bx.has_iff.mpr ⟨Bx.mem_xs.mp h2, hy⟩
          exact hne (kF_inj w (Bx.gd hb t1) (Bx.gd hb t2) e).1
        · intro k hk k' hk' e
          subst e
          obtain ⟨x, hx, rfl⟩ := List.mem_map.mp hk
          obtain ⟨v, hv, hk2⟩ := List.mem_flatMap.mp hk'
          obtain ⟨u, hu, e⟩ := List.mem_map.mp hk2
          have t1 : b.has x y = true := Bx.has_iff.mpr ⟨Bx.mem_xs.mp hx, hy⟩
          have t2 : b.has u v = true := Bx.has_iff.mpr ⟨Bx.mem_xs.mp hu, hm v (List.mem_cons_of_mem _ hv)⟩
          have := (kF_inj w (Bx.gd hb t2) (Bx.gd hb t1) e).2
          subst this
          exact (List.nodup_cons.mp hn).1 hv
    exact key b.ys (rng_nodup _ _) fun y hy => Bx.mem_ys.mp hy
  refine lt_unique (sortI_lt nd) (sortI_lt (keysF_nodup w hb)) fun x => ?_
  rw [(sortI_perm _).mem_iff, (sortI_perm _).mem_iff]
  exact mem x
theorem s_bkeys {w : List Nat} {b : Bx} (wd : Wd w) (hb : b.ok w) (hl : w.length ≤ 1000) (h3 : b.x2 ≤ 2 ^ 23) (g3 : b.y2 ≤ 2 ^ 23) (ha : b.ys.length * b.xs.length ≤ 16777216) : TT.G 140 [.str w, boxD b] = .ok (.lst ((sortI (keysF w.reverse b)).map .int)) true none := tt_run 0 (show runD TT none 0 b_law_keys _ = _ by
  obtain ⟨h1, h2, _, g1, g2, _⟩ := id hb
  have q1 := big62_b (i := b.y1) (by omega) (by omega)
  have q2 := big62_b (i := b.y2 + 1) (by omega) (by omega)
  have hi : irange b.y1 (b.y2 + 1 - b.y1).toNat 1 = b.ys.map D.int := by
    rw [irange_rng]
    unfold Bx.ys
    congr 2
    omega
  obtain ⟨t3, e⟩ := bk_outer (n := 0) wd hl h1 h2 h3 b.ys [] .emp (by simpa using ha)
  have st : evS TT none 0 (.for_ (.v 3) .rng [.sub (.var 1) (.int 1), .bin .add (.sub (.var 1) (.int 3)) (.int 1)] l_law_keys_1) [.val (.str w), .val (boxD b), .own (.lst []), .emp, .emp] = .ok .nx [.val (.str w), .val (boxD b), .own (.lst ((b.ys.flatMap fun y => b.xs.map fun x => kF w.reverse x y).map .int)), t3, .emp] := by
    rw [evS_for (rs := [.val (.int b.y1), .val (.int (b.y2 + 1))]) (ds := [.int b.y1, .int (b.y2 + 1)]) (xs := b.ys.map D.int) (s1 := [.val (.str w), .val (boxD b), .own (.lst []), .emp, .emp]) (s2 := [.val (.str w), .val (boxD b), .own (.lst []), .emp, .emp]) (by simp [runD, evB, evS, evE, evEs, evXs, asgT_v, asgT_t, asgTs_n, asgTs_c, atD, placeD]) rfl (by simp only [itemsD, q1, q2, and_self, if_true, hi]), e]
    rfl
  have fin : evB TT none 0 b_law_keys.body [.val (.str w), .val (boxD b), .emp, .emp, .emp] = .ok (.rt (.lst ((sortI (keysF w.reverse b)).map .int)) true) [.val (.str w), .val (boxD b), .own (.lst ((b.ys.flatMap fun y => b.xs.map fun x => kF w.reverse x y).map .int)), t3, .emp] := by
    unfold b_law_keys
    rw [evB_step (s1 := [.val (.str w), .val (boxD b), .own (.lst []), .emp, .emp]) (by simp [runD, evB, evS, evE, evEs, evXs, asgT_v, asgT_t, asgTs_n, asgTs_c, atD, placeD]), evB_step st, ← rows_sort wd.rev hb.rev]
    simp [runD, evB, evS, evE, evEs, evXs, asgT_v, asgT_t, asgTs_n, asgTs_c, atD, placeD, allI_map]
  exact run_rt fin rfl) (by simp)
end PyV
set_option Elab.async false
set_option linter.all false
set_option maxRecDepth 100000
set_option maxHeartbeats 4000000
namespace PyV
open PySem
theorem atD_head {α β : Type} {xs : List α} {a : α} {f : α → β} (h : xs.head? = some a) : atD (xs.map f) 0 = some (f a) := by
  cases xs with
  | nil => cases h
  | cons b xs => cases h; rfl
theorem atD_lst {α β : Type} {xs : List α} {a : α} {f : α → β} (h : xs.getLast? = some a) : atD (xs.map f) (-1) = some (f a) := by
  have hn : xs ≠ [] := fun z => by rw [z] at h; cases h
  have e := (List.dropLast_concat_getLast hn).symm
  have e2 : xs.getLast hn = a := by
    rw [List.getLast?_eq_some_getLast hn] at h
    exact Option.some.inj h
  rw [e, e2, List.map_append]
  exact atD_last _ _
theorem showOk_b {i : Int} (h1 : -(2 ^ 400) < i) (h2 : i < 2 ^ 400) : i.natAbs.log2 < 1920 := by
  have := log2_lt (n := i.natAbs) (k := 400) (by omega) (by decide)
  omega
/-- a loop that keeps what holds -/
theorem for_keep {st : D → Ss → Option Ss} {body : Ss → R Fl} (I : Ss → Prop) : ∀ {xs : List D} {s : Ss}, I s → (∀ d ∈ xs, ∀ s, I s → ∃ s1 s2, st d s = some s1 ∧ body s1 = .ok .nx s2 ∧ I s2) → ∃ s', forL st body xs s = .ok .nx s' ∧ I s'
  | [], s, h, _ => ⟨s, rfl, h⟩
  | d :: ds, s, h, step => by
    obtain ⟨s1, s2, h1, h2, h3⟩ := step d List.mem_cons_self s h
    obtain ⟨s', e, q⟩ := for_keep I h3 fun x hx => step x (List.mem_cons_of_mem _ hx)
    exact ⟨s', by rw [forL_step h1 h2]; exact e, q⟩
/-- .. with a number that goes up -/
theorem for_count {st : D → Ss → Option Ss} {body : Ss → R Fl} (I : Nat → Ss → Prop) (c : Nat) : ∀ {xs : List D} {k : Nat} {s : Ss}, I k s → (∀ d ∈ xs, ∀ j s, k ≤ j → j ≤ k + c * xs.length → I j s → ∃ s1 s2, st d s = some s1 ∧ body s1 = .ok .nx s2 ∧ I (j + c) s2) → ∃ s', forL st body xs s = .ok .nx s' ∧ I (k + c * xs.length) s'
  | [], k, s, h, _ => ⟨s, rfl, h⟩
  | d :: ds, k, s, h, step => by
    have e0 : c * (ds.length + 1) = c + c * ds.length := by rw [Nat.mul_add, Nat.mul_one, Nat.add_comm]
    obtain ⟨s1, s2, h1, h2, h3⟩ := step d List.mem_cons_self k s (Nat.le_refl _) (Nat.le_add_right _ _) h
    obtain ⟨s', e, q⟩ := for_count I c (xs := ds) (k := k + c) h3 fun x hx j s hj hj2 hI => step x (List.mem_cons_of_mem _ hx) j s (by omega) (by rw [List.length_cons, e0]; omega) hI
    refine ⟨s', by rw [forL_step h1 h2]; exact e, ?_⟩
    rw [List.length_cons, e0, ← Nat.add_assoc]
    exact q
/-- range(max(1, min(C, len(script)))) -/
theorem rng_script (T : Tab) (p : Option Nat) (ns : List Int) (C : Nat) (Ci : Int) (hCi : Ci = (C : Int)) (hC : 1 ≤ C) (hC2 : C ≤ 1000) (r : Ss) : ∃ m : Nat, m ≤ C ∧ evEs T p [.bi .max [.int 1, .bi .min [.int Ci, .bi .len [.var 0]]]] (.val (.lst (ns.map .int)) :: r) = .ok [.val (.int (m : Int))] (.val (.lst (ns.map .int)) :: r) ∧ itemsD .rng [.int (m : Int)] = some (irange 0 m 1) := by
  subst hCi
  obtain ⟨m, hm, hmv⟩ : ∃ m : Nat, m ≤ C ∧ (if 1 < (if (ns.length : Int) < (C : Int) then (ns.length : Int) else (C : Int)) then (if (ns.length : Int) < (C : Int) then (ns.length : Int) else (C : Int)) else 1) = (m : Int) := by
    refine ⟨(if 1 < (if (ns.length : Int) < (C : Int) then (ns.length : Int) else (C : Int)) then (if (ns.length : Int) < (C : Int) then (ns.length : Int) else (C : Int)) else 1).toNat, ?_, ?_⟩
    · split <;> split <;> omega
    · split <;> split <;> omega
  have hb := big62_b (i := (m : Int)) (by omega) (by omega)
  refine ⟨m, hm, ?_, ?_⟩
  · have hmv2 := hmv
    simp only [Int.ofNat_lt] at hmv2
    simp [runD, evB, evS, evE, evEs, evXs, asgT_v, asgT_t, asgTs_n, asgTs_c, atD, placeD, hmv2]
  · simp only [itemsD, hb, if_true, Int.toNat_natCast]
theorem mem_irange0 {d : D} {m : Nat} (h : d ∈ irange 0 m 1) : ∃ j : Nat, j < m ∧ d = .int (j : Int) := by
  simp only [irange, List.mem_map, List.mem_range] at h
  obtain ⟨j, hj, rfl⟩ := h
  exact ⟨j, hj, by simp⟩
theorem whole_rev (w : List Nat) : whole w.reverse = whole w := by
  unfold whole
  rw [List.count_reverse, List.count_reverse]
theorem brk_le : ∀ (ks : List Int) (p : Int), brk p ks ≤ ks.length
  | [], _ => Nat.le_refl _
  | k :: ks, p => by
    have := brk_le ks k
    unfold brk
    rw [List.length_cons]
    split <;> omega
theorem nStr_le : ∀ ks : List Int, nStr ks ≤ ks.length
  | [] => Nat.le_refl _
  | k :: ks => by
    have := brk_le ks k
    show 1 + brk k ks ≤ ks.length + 1
    omega
/-! ## law k04 -/
theorem k04_small {w : List Nat} {b : Bx} (c1 : w.count 120 ≤ 4) (c2 : w.count 121 ≤ 4) (hb : b.ok w) : b.x2 < 16 ∧ b.y2 < 16 ∧ b.xs.length * b.ys.length ≤ 256 := by
  obtain ⟨h1, h2, h3, h4, h5, h6⟩ := hb
  have e1 := pow2_le c1
  have e2 := pow2_le c2
  have x : b.x2 < 16 := by omega
  have y : b.y2 < 16 := by omega
  refine ⟨x, y, ?_⟩
  unfold Bx.xs Bx.ys
  rw [rng_len, rng_len]
  exact Nat.mul_le_mul (by omega : _ ≤ 16) (by omega : _ ≤ 16)
theorem k04_turn {n k : Nat} {r : D} {w : List Nat} {m : Int} {s3 s4 s5 s6 s7 : Sl} (hr : Reel k r) (hk : k ≤ 800000) (hw : wordB w = true) (c1 : w.count 120 ≤ 4) (c2 : w.count 121 ≤ 4) (h3 : s3 = .own (.obj 0 [ow] [.str w]) ∨ s3 = .val (.obj 0 [ow] [.str w])) :
    ∃ r' t6 t7, evB TT (some 0) n l_law_right_3_1 [.own r, .val (.int m), .val (.str w), s3, s4, s5, s6, s7] = .ok .nx [.own r', .val (.int m), .val (.str w), .val (.obj 0 [ow] [.str w]), s4, s5, t6, t7] ∧ Reel (k + 10) r' := by
  obtain ⟨b, r', e1, hb, q⟩ := s_drawn_box hr hk hw
  obtain ⟨bx, by_, bl⟩ := k04_small c1 c2 hb
  have hl := wordB_len hw
  have hb2 := hb
  obtain ⟨h1, h2, h4, h5, h6, h7⟩ := hb2
  have e2 := s_listed (w := w) (b := b) (by omega) h5 h6 (by omega) h1 h2 (by omega) (by omega)
  have e3 := s_count_runs hw hb
  have e5 := s_ends hw hb
  have wd := (wordB_wd hw).rev
  have hr2 := runs_listed wd hb.rev
  obtain ⟨ks, hks, k0, k1, k2⟩ := sort_ends wd hb.rev
  have hlen : ks.length = (keysF w.reverse b).length := by rw [← hks]; exact (sortI_perm _).length_eq
  have hlen2 := keysF_len hb.rev
  have ha := Bx.area_bd (hb.sm (wordB_c hw).1 (wordB_c hw).2)
  have hlen3 : (keysF w.reverse b).length = b.xs.length * b.ys.length := by
    have : ∀ xs : List Int, (xs.flatMap fun x => b.ys.map fun y => kF w.reverse x y).length = xs.length * b.ys.length := fun xs => by
      induction xs with
      | nil => simp
      | cons x xs ih => rw [List.flatMap_cons, List.length_append, ih, List.length_map, List.length_cons, Nat.succ_mul]; omega
    exact this b.xs
  rw [hks] at e2 hr2
  have e4 := s_stretches (ks := ks) (by omega)
  have hn := strchs_len ks
  have hs : ((strchs ks).length : Int) = runsF w.reverse b := by rw [hn]; exact hr2
  have nl := nStr_le ks
  have g1 := kF_nn w.reverse b.x1 b.y1
  have g2 := kF_lt w.reverse b.x1 b.y1
  have g3 := kF_nn w.reverse b.x2 b.y2
  have g4 := kF_lt w.reverse b.x2 b.y2
  have gp : (2 : Int) ^ w.reverse.length ≤ 2 ^ 200 := pow2_le (by rw [List.length_reverse]; omega)
  have o1 := showOk_b (i := kF w.reverse b.x1 b.y1) (by omega) (by omega)
  have o2 := showOk_b (i := kF w.reverse b.x2 b.y2) (by omega) (by omega)
  have o3 := showOk_b (i := runsF w.reverse b) (by omega) (by omega)
  have a0 := atD_head (f := D.int) k1
  have a1 := atD_lst (f := D.int) k2
  rcases h3 with rfl | rfl
  · exact ⟨r', .val (boxD b), .val (.lst (ks.map .int)), by simp [runD, evB, evS, evE, evEs, evXs, asgT_v, asgT_t, asgTs_n, asgTs_c, l_law_right_3_1, e1, e2, e3, e4, e5, hs, o1, o2, o3, a0, a1, showOk, showOks, szD, szs], q⟩
  · exact ⟨r', .val (boxD b), .val (.lst (ks.map .int)), by simp [runD, evB, evS, evE, evEs, evXs, asgT_v, asgT_t, asgTs_n, asgTs_c, l_law_right_3_1, e1, e2, e3, e4, e5, hs, o1, o2, o3, a0, a1, showOk, showOks, szD, szs], q⟩
theorem s_whole_count {w : List Nat} (hw : wordB w = true) : TT.G 54 [.obj 0 [ow] [.str w], .tup [.int 0, .int 0, .int (2 ^ w.count 120 - 1), .int (2 ^ w.count 121 - 1)]] = .ok (.int 1) false none := by
  have e := s_count_runs (b := whole w) hw (whole_ok w)
  have h := runs_whole (wordB_wd hw).rev
  rw [whole_rev] at h
  rw [h] at e
  exact e
theorem s_whole_ends {w : List Nat} (hw : wordB w = true) : TT.G 55 [.obj 0 [ow] [.str w], .tup [.int 0, .int 0, .int (2 ^ w.count 120 - 1), .int (2 ^ w.count 121 - 1)]] = .ok (.tup [.int 0, .int (2 ^ w.length - 1)]) false none := by
  have e := s_ends (b := whole w) hw (whole_ok w)
  have h := kF_top (wordB_wd hw).rev
  rw [List.count_reverse, List.count_reverse, List.length_reverse] at h
  have e2 : (whole w).x1 = 0 := rfl
  have e3 : (whole w).y1 = 0 := rfl
  have e4 : (whole w).x2 = 2 ^ w.count 120 - 1 := rfl
  have e5 : (whole w).y2 = 2 ^ w.count 121 - 1 := rfl
  rw [e2, e3, e4, e5, kF_zero, h] at e
  exact e
theorem s_k04_right {k : Nat} {r : D} {m : Int} (hr : Reel k r) (hk : k ≤ 700000) (h1 : 2 ≤ m) (h2 : m ≤ 4) : ∃ r', TT.G 59 [r, .int m] = .ok (.bl true) false (some r') ∧ Reel (k + 2000) r' := by
  obtain ⟨v, r1, e1, a1, b1, q1⟩ := s_spin (m := 2) hr (by decide) (by decide)
  obtain ⟨y, hy, y1, y2⟩ : ∃ y : Int, (v = 0 ∧ y = m ∨ v = 1 ∧ y = 3) ∧ 0 ≤ y ∧ y ≤ 4 := by
    have : v = 0 ∨ v = 1 := by omega
    rcases this with h | h
    · exact ⟨m, .inl ⟨h, rfl⟩, by omega, by omega⟩
    · exact ⟨3, .inr ⟨h, rfl⟩, by omega, by omega⟩
  obtain ⟨w, r2, e2, hw, c1, c2, q2⟩ := s_drawn_word (xm := m) (ym := y) q1 (by omega) (by omega) (by omega) y1 (by omega)
  have c1' : w.count 120 ≤ 4 := by split at c1 <;> omega
  have c2' : w.count 121 ≤ 4 := by omega
  have hn := s_new hw
  have hl := wordB_len hw
  have hl' : w.length ≤ 16777216 := by omega
  have st : evB TT (some 0) 0 (b_law_right_3.body.take 2) [.own r, .val (.int m), .emp, .emp, .emp, .emp, .emp, .emp] = .ok .nx [.own r2, .val (.int m), .val (.str w), .own (.obj 0 [ow] [.str w]), .emp, .emp, .emp, .emp] := by
    rcases hy with ⟨rfl, rfl⟩ | ⟨rfl, rfl⟩
    · simp [runD, evB, evS, evE, evEs, evXs, asgT_v, asgT_t, asgTs_n, asgTs_c, atD, placeD, b_law_right_3, e1, e2, hn]
    · simp [runD, evB, evS, evE, evEs, evXs, asgT_v, asgT_t, asgTs_n, asgTs_c, atD, placeD, b_law_right_3, e1, e2, hn]
  obtain ⟨s', ef, r3, s3, s4, s6, s7, rfl, g3, q3⟩ := for_count (st := asgT (some 0) (.v 4)) (body := evB TT (some 0) 0 l_law_right_3_1) (fun j s => ∃ r s3 s4 s6 s7, s = [.own r, .val (.int m), .val (.str w), s3, s4, .emp, s6, s7] ∧ (s3 = .own (.obj 0 [ow] [.str w]) ∨ s3 = .val (.obj 0 [ow] [.str w])) ∧ Reel j r) 10 (xs := irange 0 4 1) (k := k + 1001)
    (s := [.own r2, .val (.int m), .val (.str w), .own (.obj 0 [ow] [.str w]), .emp, .emp, .emp, .emp]) ⟨r2, _, _, _, _, rfl, .inl rfl, q2⟩ fun d hd j s hj hj2 ⟨r, s3, s4, s6, s7, hs, h3, hq⟩ => by
      subst hs
      simp at hj2
      obtain ⟨r', t6, t7, e, q⟩ := k04_turn (n := 0) (m := m) (s4 := .val d) (s5 := .emp) (s6 := s6) (s7 := s7) hq (by omega) hw c1' c2' h3
      exact ⟨_, _, rfl, e, r', _, _, _, _, rfl, .inr rfl, q⟩
  have st2 : evS TT (some 0) 0 (.for_ (.v 4) .rng [.int 4] l_law_right_3_1) [.own r2, .val (.int m), .val (.str w), .own (.obj 0 [ow] [.str w]), .emp, .emp, .emp, .emp] = .ok .nx [.own r3, .val (.int m), .val (.str w), s3, s4, .emp, s6, s7] := by
    rw [evS_for (rs := [.val (.int 4)]) (ds := [.int 4]) (xs := irange 0 4 1) (s1 := [.own r2, .val (.int m), .val (.str w), .own (.obj 0 [ow] [.str w]), .emp, .emp, .emp, .emp]) (s2 := [.own r2, .val (.int m), .val (.str w), .own (.obj 0 [ow] [.str w]), .emp, .emp, .emp, .emp]) (by simp [runD, evB, evS, evE, evEs, evXs, asgT_v, asgT_t, asgTs_n, asgTs_c, atD, placeD]) rfl (by rfl), ef]
  have w1 := s_whole_count hw
  have w2 := s_whole_ends hw
  have p1 := s_powerN (w.count 120) (by omega)
  have p3 := s_powerN (w.count 121) (by omega)
  have p4 := s_powerN w.length (by omega)
  have fin : ∃ s, evB TT (some 0) 0 (b_law_right_3.body.drop 3) [.own r3, .val (.int m), .val (.str w), s3, s4, .emp, s6, s7] = .ok (.rt (.bl true) false) (.own r3 :: s) := by
    rcases g3 with rfl | rfl
    · exact ⟨_, by simp [runD, evB, evS, evE, evEs, evXs, asgT_v, asgT_t, asgTs_n, asgTs_c, atD, placeD, b_law_right_3, w1, w2, p1, p3, p4, hl']; rfl⟩
    · exact ⟨_, by simp [runD, evB, evS, evE, evEs, evXs, asgT_v, asgT_t, asgTs_n, asgTs_c, atD, placeD, b_law_right_3, w1, w2, p1, p3, p4, hl']; rfl⟩
  obtain ⟨s, fin⟩ := fin
  have all : evB TT (some 0) 0 b_law_right_3.body [.own r, .val (.int m), .emp, .emp, .emp, .emp, .emp, .emp] = .ok (.rt (.bl true) false) (.own r3 :: s) := by
    rw [show b_law_right_3.body = b_law_right_3.body.take 2 ++ (.for_ (.v 4) .rng [.int 4] l_law_right_3_1 :: b_law_right_3.body.drop 3) from rfl, evB_app st, evB_step st2, fin]
  exact ⟨r3, tt_run 0 (show runD TT (some 0) 0 b_law_right_3 _ = _ from run_rt all rfl) (by simp), q3.mono (by simp)⟩
end PyV
set_option Elab.async false
set_option linter.all false
set_option maxRecDepth 100000
set_option maxHeartbeats 4000000
namespace PyV
open PySem
/-! ## what the laws over bags take from the script: its first numbers, and a nought -/
theorem cut_map {ns : List Int} {C : Nat} : cutD (ns.map D.int) none (some (C : Int)) = (ns.take C).map .int := by
  unfold cutD clipD
  have : ¬ (C : Int) < 0 := by omega
  simp only [this, if_false, Int.toNat_natCast, List.drop_zero, Nat.sub_zero, List.length_map]
  rw [List.map_take]
  by_cases h : C ≤ ns.length
  · rw [Nat.min_eq_left h]
  · rw [Nat.min_eq_right (by omega), List.take_of_length_le (by simp), List.take_of_length_le (by simp; omega)]
theorem script_cut {T : Tab} {p : Option Nat} {ns : List Int} {C : Nat} {Ci : Int} {r : Ss} (hns : ns.length ≤ 63) (hC : Ci = (C : Int)) : evEs T p [.bin .add (.slc (.var 0) .nop (.int Ci)) (.lst [.int 0])] (.val (.lst (ns.map .int)) :: r) = .ok [.own (.lst ((ns.take C ++ [0]).map .int))] (.val (.lst (ns.map .int)) :: r) := by
  subst hC
  have e := cut_map (ns := ns) (C := C)
  have h : ns.length + 1 ≤ 16777216 := by omega
  have h2 : (List.take C ns).length + 1 ≤ 16777216 := by rw [List.length_take]; omega
  have h3 : min C ns.length + 1 ≤ 16777216 := by omega
  simp [runD, evB, evS, evE, evEs, evXs, asgT_v, asgT_t, asgTs_n, asgTs_c, atD, placeD, e, h2, h3, -List.map_take]
/-- the loop over them -/
theorem script_loop {T : Tab} {n : Nat} {ns : List Int} {C : Nat} {Ci : Int} {body : List S} (I : Ss → Prop) (r : Ss) (hns : ns.length ≤ 63) (hC : Ci = (C : Int)) (h0 : I (.val (.lst (ns.map .int)) :: r))
    (step : ∀ (z : Int) s, I s → ∃ s1 s2, asgT none (.v 1) (.int z) s = some s1 ∧ evB T none n body s1 = .ok .nx s2 ∧ I s2) :
    ∃ s', evS T none n (.for_ (.v 1) .plain [.bin .add (.slc (.var 0) .nop (.int Ci)) (.lst [.int 0])] body) (.val (.lst (ns.map .int)) :: r) = .ok .nx s' ∧ I s' := by
  rw [evS_for (script_cut hns hC) rfl rfl]
  exact for_keep I h0 fun d hd s hs => by
    obtain ⟨z, _, rfl⟩ := List.mem_map.mp hd
    exact step z s hs
end PyV
set_option Elab.async false
set_option linter.all false
set_option maxRecDepth 100000
set_option maxHeartbeats 4000000
namespace PyV
open PySem
/-! ## count_ahead -/
def chS (m : Int) (f : Int) (t : Nat) : Int := f * (m - (t : Int)) / ((t : Int) + 1)
def chF (m s : Int) : Int := (List.range s.toNat).foldl (chS m) 1
theorem ch_loop {n : Nat} {m s : Int} (h1 : 0 ≤ m) (h2 : m ≤ 1000) : ∀ (xs : List Nat) (f : Int) (s3 : Sl), (∀ t ∈ xs, t ≤ 1000) → ∃ t3, forL (asgT none (.v 3)) (evB TT none n l_choices_1) (xs.map fun (k : Nat) => .int (0 + (k : Int) * 1)) [.val (.int m), .val (.int s), .val (.int f), s3] =
    .ok .nx [.val (.int m), .val (.int s), .val (.int (xs.foldl (chS m) f)), t3]
  | [], f, s3, _ => ⟨s3, rfl⟩
  | t :: xs, f, s3, h => by
    have ht := h t List.mem_cons_self
    have mk := mulOk_r (i := f) (j := m - (t : Int)) (by omega)
    have dk := divOk_of (j := (t : Int) + 1) (by omega) 20 (by omega) (by decide)
    obtain ⟨t3, e⟩ := ch_loop (n := n) (m := m) (s := s) h1 h2 xs (chS m f t) (.val (.int (t : Int))) fun t ht => h t (List.mem_cons_of_mem _ ht)
    refine ⟨t3, ?_⟩
    rw [List.map_cons, show (0 : Int) + (t : Int) * 1 = t by omega, forL_step (s1 := [.val (.int m), .val (.int s), .val (.int f), .val (.int (t : Int))]) rfl (by simp [runD, evB, evS, evE, evEs, evXs, asgT_v, asgT_t, asgTs_n, asgTs_c, atD, placeD, l_choices_1, mk, dk]; rfl), List.foldl_cons]
    exact e
theorem s_choices {m s : Int} (h1 : 0 ≤ m) (h2 : m ≤ 1000) (h3 : 0 ≤ s) (h4 : s ≤ 1000) : TT.G 209 [.int m, .int s] = .ok (.int (chF m s)) false none := tt_run 0 (show runD TT none 0 b_choices _ = _ by
  have q := big62_b (i := s) (by omega) (by omega)
  obtain ⟨t3, e⟩ := ch_loop (n := 0) (m := m) (s := s) h1 h2 (List.range s.toNat) 1 .emp fun t ht => by
    have := List.mem_range.mp ht
    omega
  have st : evS TT none 0 (.for_ (.v 3) .rng [.var 1] l_choices_1) [.val (.int m), .val (.int s), .val (.int 1), .emp] = .ok .nx [.val (.int m), .val (.int s), .val (.int (chF m s)), t3] := by
    rw [evS_for (rs := [.val (.int s)]) (ds := [.int s]) (xs := irange 0 s.toNat 1) (s1 := [.val (.int m), .val (.int s), .val (.int 1), .emp]) (s2 := [.val (.int m), .val (.int s), .val (.int 1), .emp]) (by simp [runD, evB, evS, evE, evEs, evXs, asgT_v, asgT_t, asgTs_n, asgTs_c, atD, placeD]) rfl (by simp only [itemsD, q, if_true])]
    exact e
  have fin : evB TT none 0 b_choices.body [.val (.int m), .val (.int s), .emp, .emp] = .ok (.rt (.int (chF m s)) false) [.val (.int m), .val (.int s), .val (.int (chF m s)), t3] := by
    unfold b_choices
    rw [evB_step (s1 := [.val (.int m), .val (.int s), .val (.int 1), .emp]) (by simp [runD, evB, evS, evE, evEs, evXs, asgT_v, asgT_t, asgTs_n, asgTs_c, atD, placeD]), evB_step st]
    simp [runD, evB, evS, evE, evEs, evXs, asgT_v, asgT_t, asgTs_n, asgTs_c, atD, placeD]
  exact run_rt fin rfl) (by simp)
theorem ediv_abs {z k : Int} (hk : 1 ≤ k) : (z / k).natAbs ≤ z.natAbs := by
  rcases Int.le_total 0 z with h | h
  · have h1 : 0 ≤ z / k := Int.ediv_nonneg h (by omega)
    have h2 : z / k ≤ z := Int.ediv_le_self k h
    omega
  · have h1 : z / k ≤ 0 := Int.ediv_le_of_le_mul (by omega) (by rw [Int.zero_mul]; exact h)
    have h2 : z ≤ z / k := by
      refine Int.le_ediv_of_mul_le (by omega) ?_
      have : z * (k - 1) ≤ 0 := Int.mul_nonpos_of_nonpos_of_nonneg h (by omega)
      rw [Int.mul_sub, Int.mul_one] at this
      omega
    omega
theorem chS_bd {m f : Int} {t : Nat} (h : (m - (t : Int)).natAbs ≤ 256) : (chS m f t).natAbs ≤ f.natAbs * 256 := by
  unfold chS
  refine Nat.le_trans (ediv_abs (by omega)) ?_
  rw [Int.natAbs_mul]
  exact Nat.mul_le_mul_left _ h
theorem chL_bd {m : Int} (h1 : 0 ≤ m) (h2 : m ≤ 256) : ∀ (xs : List Nat) (f : Int), (∀ t ∈ xs, t ≤ 256) → (xs.foldl (chS m) f).natAbs ≤ f.natAbs * 256 ^ xs.length
  | [], f, _ => by simp
  | t :: xs, f, h => by
    have ht := h t List.mem_cons_self
    have ih := chL_bd h1 h2 xs (chS m f t) fun t ht => h t (List.mem_cons_of_mem _ ht)
    have s := chS_bd (m := m) (f := f) (t := t) (by omega)
    rw [List.foldl_cons, List.length_cons, Nat.pow_succ, Nat.mul_comm (256 ^ xs.length), ← Nat.mul_assoc]
    exact Nat.le_trans ih (Nat.mul_le_mul_right _ s)
theorem chF_bd {m s : Int} (h1 : 0 ≤ m) (h2 : m ≤ 256) (h3 : 0 ≤ s) (h4 : s ≤ 256) : (chF m s).natAbs < 2 ^ 3000 := by
  have := chL_bd h1 h2 (List.range s.toNat) 1 fun t ht => by
    have := List.mem_range.mp ht
    omega
  rw [List.length_range] at this
  have e : (256 : Nat) ^ s.toNat ≤ 256 ^ 256 := Nat.pow_le_pow_right (by decide) (by omega)
  have e2 : (256 : Nat) ^ 256 < 2 ^ 3000 := by decide
  unfold chF
  have e3 : (1 : Int).natAbs = 1 := rfl
  rw [e3, Nat.one_mul] at this
  exact Nat.lt_of_le_of_lt (Nat.le_trans this e) e2
def wwS (a b i : Int) (f k : Int) : Int := f + chF (i + k) i * chF (a - i - 1 + b - k) (a - i - 1)
def wwF (a b i j : Int) : Int := (rng (j + 1) (b - j).toNat).foldl (wwS a b i) 0
theorem ww_loop {n : Nat} {a b i j : Int} (ha : a ≤ 100) (hb : 0 ≤ b) (hb2 : b ≤ 100) (hi : 0 ≤ i) (hia : i < a) : ∀ (xs : List Int) (f : Int) (s5 s6 : Sl), (∀ t ∈ xs, 0 ≤ t ∧ t ≤ b) → ∃ t5 t6, forL (asgT none (.v 5)) (evB TT none n l_words_with_x_ahead_1) (xs.map .int) [.val (.int a), .val (.int b), .val (.int i), .val (.int j), .val (.int f), s5, s6] =
    .ok .nx [.val (.int a), .val (.int b), .val (.int i), .val (.int j), .val (.int (xs.foldl (wwS a b i) f)), t5, t6]
  | [], f, s5, s6, _ => ⟨s5, s6, rfl⟩
  | t :: xs, f, s5, s6, h => by
    obtain ⟨t0, t1⟩ := h t List.mem_cons_self
    have c1 := s_choices (m := i + t) (s := i) (by omega) (by omega) (by omega) (by omega)
    have c2 := s_choices (m := a - i - 1 + b - t) (s := a - i - 1) (by omega) (by omega) (by omega) (by omega)
    have b1 := chF_bd (m := i + t) (s := i) (by omega) (by omega) (by omega) (by omega)
    have b2 := chF_bd (m := a - i - 1 + b - t) (s := a - i - 1) (by omega) (by omega) (by omega) (by omega)
    have mk := mulOk_of b1 b2 (by decide) (by decide) (by decide)
    obtain ⟨t5, t6, e⟩ := ww_loop (n := n) (j := j) ha hb hb2 hi hia xs (wwS a b i f t) (.val (.int t)) (.val (.int (a - i - 1))) fun t ht => h t (List.mem_cons_of_mem _ ht)
    refine ⟨t5, t6, ?_⟩
    rw [List.map_cons, forL_step (s1 := [.val (.int a), .val (.int b), .val (.int i), .val (.int j), .val (.int f), .val (.int t), s6]) (s2 := [.val (.int a), .val (.int b), .val (.int i), .val (.int j), .val (.int (wwS a b i f t)), .val (.int t), .val (.int (a - i - 1))]) rfl (by unfold wwS; generalize chF (i + t) i = P at *; generalize chF (a - i - 1 + b - t) (a - i - 1) = Q at *; clear e b1 b2; simp [runD, evB, evS, evE, evEs, evXs, asgT_v, asgT_t, asgTs_n, asgTs_c, atD, placeD, l_words_with_x_ahead_1, c1, c2, mk]), List.foldl_cons]
    exact e
theorem s_ww {a b i j : Int} (ha : a ≤ 100) (hb : 0 ≤ b) (hb2 : b ≤ 100) (hi : 0 ≤ i) (hia : i < a) (hj : 0 ≤ j) (hj2 : j ≤ 100) : TT.G 210 [.int a, .int b, .int i, .int j] = .ok (.int (wwF a b i j)) false none := tt_run 0 (show runD TT none 0 b_words_with_x_ahead _ = _ by
  have q1 := big62_b (i := j + 1) (by omega) (by omega)
  have q2 := big62_b (i := b + 1) (by omega) (by omega)
  have hi2 : irange (j + 1) (b + 1 - (j + 1)).toNat 1 = (rng (j + 1) (b - j).toNat).map D.int := by
    rw [irange_rng, show (b + 1 - (j + 1)).toNat = (b - j).toNat by omega]
  obtain ⟨t5, t6, e⟩ := ww_loop (n := 0) (j := j) ha hb hb2 hi hia (rng (j + 1) (b - j).toNat) 0 .emp .emp fun t ht => by
    have := mem_rng.mp ht
    omega
  have st : evS TT none 0 (.for_ (.v 5) .rng [.bin .add (.var 3) (.int 1), .bin .add (.var 1) (.int 1)] l_words_with_x_ahead_1) [.val (.int a), .val (.int b), .val (.int i), .val (.int j), .val (.int 0), .emp, .emp] = .ok .nx [.val (.int a), .val (.int b), .val (.int i), .val (.int j), .val (.int (wwF a b i j)), t5, t6] := by
    rw [evS_for (rs := [.val (.int (j + 1)), .val (.int (b + 1))]) (ds := [.int (j + 1), .int (b + 1)]) (xs := (rng (j + 1) (b - j).toNat).map D.int) (s1 := [.val (.int a), .val (.int b), .val (.int i), .val (.int j), .val (.int 0), .emp, .emp]) (s2 := [.val (.int a), .val (.int b), .val (.int i), .val (.int j), .val (.int 0), .emp, .emp]) (by simp [runD, evB, evS, evE, evEs, evXs, asgT_v, asgT_t, asgTs_n, asgTs_c, atD, placeD]) rfl (by simp only [itemsD, q1, q2, and_self, if_true, hi2])]
    exact e
  have fin : evB TT none 0 b_words_with_x_ahead.body [.val (.int a), .val (.int b), .val (.int i), .val (.int j), .emp, .emp, .emp] = .ok (.rt (.int (wwF a b i j)) false) [.val (.int a), .val (.int b), .val (.int i), .val (.int j), .val (.int (wwF a b i j)), t5, t6] := by
    unfold b_words_with_x_ahead
    rw [evB_step (s1 := [.val (.int a), .val (.int b), .val (.int i), .val (.int j), .val (.int 0), .emp, .emp]) (by simp [runD, evB, evS, evE, evEs, evXs, asgT_v, asgT_t, asgTs_n, asgTs_c, atD, placeD]), evB_step st]
    simp [runD, evB, evS, evE, evEs, evXs, asgT_v, asgT_t, asgTs_n, asgTs_c, atD, placeD]
  exact run_rt fin rfl) (by simp)
/-- what count_ahead answers -/
def cnF (a b x y u v : Int) : Int := if (x = u ∧ y = v) ∨ (u ≤ x ∧ v ≤ y) then 0 else if x ≤ u ∧ y ≤ v then chF (a + b) a else
  if x < u then wwF a b ((Builtin.Int.intBits (Builtin.bitXor x u) : Int) - 1) ((Builtin.Int.intBits (Builtin.bitXor y v) : Int) - 1) else chF (a + b) a - wwF a b ((Builtin.Int.intBits (Builtin.bitXor x u) : Int) - 1) ((Builtin.Int.intBits (Builtin.bitXor y v) : Int) - 1)
end PyV
set_option Elab.async false
set_option linter.all false
set_option maxRecDepth 100000
set_option maxHeartbeats 4000000
namespace PyV
open PySem
/-! ## ranks: from the first letter on -/
theorem Wd.rv {l : List Nat} (h : Wd l) : Wd l.reverse := fun c hc => h c (List.mem_reverse.mp hc)
theorem kF_cat : ∀ (l m : List Nat) (x y : Int), Wd l → kF (l ++ m) x y = kF l x y + 2 ^ l.length * kF m (x / 2 ^ l.count 120) (y / 2 ^ l.count 121)
  | [], m, x, y, _ => by simp [kF]
  | c :: l, m, x, y, w => by
    rcases w c List.mem_cons_self with rfl | rfl
    · rw [List.cons_append, kF, if_pos rfl, kF_cat l m (x / 2) y w.tl, kF, if_pos rfl, List.count_cons_self, List.count_cons_of_ne (by decide), div_two, List.length_cons, Int.pow_succ]
      generalize kF m (x / 2 / 2 ^ l.count 120) (y / 2 ^ l.count 121) = z
      rw [Int.mul_add, Int.add_assoc, ← Int.mul_assoc, Int.mul_comm (2 ^ l.length) 2]
    · rw [List.cons_append, kF, if_neg (by decide), kF_cat l m x (y / 2) w.tl, kF, if_neg (by decide), List.count_cons_self, List.count_cons_of_ne (by decide), div_two, List.length_cons, Int.pow_succ]
      generalize kF m (x / 2 ^ l.count 120) (y / 2 / 2 ^ l.count 121) = z
      rw [Int.mul_add, Int.add_assoc, ← Int.mul_assoc, Int.mul_comm (2 ^ l.length) 2]
theorem kF_modx : ∀ (l : List Nat) (x y m : Int), kF l (x + 2 ^ l.count 120 * m) y = kF l x y
  | [], _, _, _ => rfl
  | c :: l, x, y, m => by
    unfold kF
    split
    · rename_i hc
      subst hc
      rw [List.count_cons_self, Int.pow_succ]
      have e : x + 2 ^ l.count 120 * 2 * m = x + 2 * (2 ^ l.count 120 * m) := by
        rw [← Int.mul_assoc, Int.mul_comm (2 ^ l.count 120) 2]
      have ih := kF_modx l (x / 2) y m
      rw [e]
      generalize (2 : Int) ^ l.count 120 * m = z at ih ⊢
      rw [show (x + 2 * z) / 2 = x / 2 + z by omega, ih]
      omega
    · rename_i hc
      rw [List.count_cons_of_ne (by omega), kF_modx l x (y / 2) m]
theorem kF_mody : ∀ (l : List Nat) (x y m : Int), Wd l → kF l x (y + 2 ^ l.count 121 * m) = kF l x y
  | [], _, _, _, _ => rfl
  | c :: l, x, y, m, w => by
    rcases w c List.mem_cons_self with rfl | rfl
    · rw [kF, kF, if_pos rfl, if_pos rfl, List.count_cons_of_ne (by decide), kF_mody l (x / 2) y m w.tl]
    · rw [kF, kF, if_neg (by decide), if_neg (by decide), List.count_cons_self, Int.pow_succ]
      have e : y + 2 ^ l.count 121 * 2 * m = y + 2 * (2 ^ l.count 121 * m) := by
        rw [← Int.mul_assoc, Int.mul_comm (2 ^ l.count 121) 2]
      have ih := kF_mody l x (y / 2) m w.tl
      rw [e]
      generalize (2 : Int) ^ l.count 121 * m = z at ih ⊢
      rw [show (y + 2 * z) / 2 = y / 2 + z by omega, ih]
      omega
/-- the key, of a word from its first letter on -/
def kT (w : List Nat) (u v : Int) : Int := kF w.reverse u v
theorem kT_nn (w : List Nat) (u v : Int) : 0 ≤ kT w u v := kF_nn _ _ _
theorem kT_lt (w : List Nat) (u v : Int) : kT w u v < 2 ^ w.length := by
  have := kF_lt w.reverse u v
  rw [List.length_reverse] at this
  exact this
theorem kT_x {r : List Nat} (w : Wd r) (u v : Int) : kT (120 :: r) u v = kT r u v + 2 ^ r.length * (u / 2 ^ r.count 120 % 2) := by
  unfold kT
  rw [List.reverse_cons, kF_cat _ _ _ _ w.rv, List.length_reverse, List.count_reverse, List.count_reverse]
  simp [kF]
theorem kT_y {r : List Nat} (w : Wd r) (u v : Int) : kT (121 :: r) u v = kT r u v + 2 ^ r.length * (v / 2 ^ r.count 121 % 2) := by
  unfold kT
  rw [List.reverse_cons, kF_cat _ _ _ _ w.rv, List.length_reverse, List.count_reverse, List.count_reverse]
  simp [kF]
theorem kT_modx (r : List Nat) (u v : Int) : kT r (u - 2 ^ r.count 120) v = kT r u v := by
  unfold kT
  have := kF_modx r.reverse u v (-1)
  rw [List.count_reverse] at this
  rw [← this]
  congr 1
  omega
theorem kT_mody {r : List Nat} (w : Wd r) (u v : Int) : kT r u (v - 2 ^ r.count 121) = kT r u v := by
  unfold kT
  have := kF_mody r.reverse u v (-1) w.rv
  rw [List.count_reverse] at this
  rw [← this]
  congr 1
  omega
/-! ### how many cells of a box are in a block -/
def winB (a n u : Int) : Bool := decide (a ≤ u) && decide (u < a + n)
def comF (lo hi a z : Int) : Int := if (if z < hi then z else hi) - (if a > lo then a else lo) + 1 > 0 then (if z < hi then z else hi) - (if a > lo then a else lo) + 1 else 0
theorem cnt_com {lo hi a n : Int} (h : lo ≤ hi) : Sg (rng lo (hi - lo + 1).toNat) (fun u => b01 (winB a n u)) = comF lo hi a (a + n - 1) := by
  have e : ∀ u ∈ rng lo (hi - lo + 1).toNat, b01 (winB a n u) = b01 (decide (u % 1 = 0) && decide ((if a > lo then a else lo) ≤ u) && decide (u ≤ (if a + n - 1 < hi then a + n - 1 else hi))) := fun u hu => by
    have := mem_rng.mp hu
    congr 1
    unfold winB
    rw [Bool.eq_iff_iff]
    simp only [Bool.and_eq_true, decide_eq_true_eq, Int.emod_one, true_and]
    split <;> split <;> omega
  rw [Sg_congr e, cnt_win (by decide) (by split <;> omega) (by split <;> omega)]
  unfold mulsF comF
  simp only [Int.ediv_one]
  split <;> split <;> split <;> omega
/-- the cells of a box in a block from (x, y) on, with the key of a test -/
def blkS (b : Bx) (w : List Nat) (x y : Int) (P : Int → Bool) : Int :=
  Sg b.xs fun u => Sg b.ys fun v => b01 (winB x (2 ^ w.count 120) u && winB y (2 ^ w.count 121) v && P (kT w (u - x) (v - y)))
def cinF (b : Bx) (x y : Int) (i j : Nat) : Int := comF b.x1 b.x2 x (x + 2 ^ i - 1) * comF b.y1 b.y2 y (y + 2 ^ j - 1)
theorem blk_all {b : Bx} (h1 : b.x1 ≤ b.x2) (h2 : b.y1 ≤ b.y2) (w : List Nat) (x y : Int) : blkS b w x y (fun _ => true) = cinF b x y (w.count 120) (w.count 121) := by
  unfold blkS cinF Bx.xs Bx.ys
  rw [← cnt_com h1, ← cnt_com h2, ← Sg_prod]
  refine Sg_congr fun u _ => Sg_congr fun v _ => ?_
  rw [← b01_and, Bool.and_true]
theorem blk_none {b : Bx} (w : List Nat) (x y : Int) : blkS b w x y (fun _ => false) = 0 := by
  unfold blkS
  exact Sg_zero fun u _ => Sg_zero fun v _ => by simp
theorem blk_nn {b : Bx} (w : List Nat) (x y : Int) (P : Int → Bool) : 0 ≤ blkS b w x y P := Sg_nonneg fun u _ => Sg_nonneg fun v _ => b01_nn _
theorem blk_le {b : Bx} (w : List Nat) (x y : Int) {P Q : Int → Bool} (h : ∀ k, P k = true → Q k = true) : blkS b w x y P ≤ blkS b w x y Q := by
  refine Sg_le fun u _ => Sg_le fun v _ => ?_
  cases hp : P (kT w (u - x) (v - y)) with
  | false => rw [Bool.and_false]; exact b01_nn _
  | true => rw [h _ hp]; exact Int.le_refl _
theorem blk_congr {b : Bx} (w : List Nat) (x y : Int) {P Q : Int → Bool} (h : ∀ k, 0 ≤ k → k < 2 ^ w.length → P k = Q k) : blkS b w x y P = blkS b w x y Q := by
  refine Sg_congr fun u _ => Sg_congr fun v _ => ?_
  rw [h _ (kT_nn _ _ _) (kT_lt _ _ _)]
/-- a block by its halves -/
theorem blk_x {b : Bx} {r : List Nat} (w : Wd r) (x y : Int) (P : Int → Bool) : blkS b (120 :: r) x y P = blkS b r x y P + blkS b r (x + 2 ^ r.count 120) y fun k => P (k + 2 ^ r.length) := by
  unfold blkS
  rw [← Sg_add]
  refine Sg_congr fun u _ => ?_
  rw [← Sg_add]
  refine Sg_congr fun v _ => ?_
  have hp := p2 (r.count 120)
  rw [List.count_cons_self, List.count_cons_of_ne (by decide), kT_x w, Int.pow_succ, ← Int.sub_sub, kT_modx]
  generalize (2 : Int) ^ r.count 120 = q at *
  unfold winB
  by_cases h1 : x ≤ u ∧ u < x + q
  · have e : (u - x) / q = 0 := Int.ediv_eq_zero_of_lt (by omega) (by omega)
    have t1 : u < x + q * 2 := by omega
    have t2 : ¬ x + q ≤ u := by omega
    simp [h1.1, h1.2, t1, t2, e]
  · by_cases h2 : x + q ≤ u ∧ u < x + q * 2
    · have e : (u - x) / q = 1 := by
        have : u - x = (u - x - q) + q * 1 := by omega
        rw [this, Int.add_mul_ediv_left _ _ (by omega), Int.ediv_eq_zero_of_lt (by omega) (by omega)]
        rfl
      have t1 : x ≤ u := by omega
      have t2 : ¬ u < x + q := by omega
      have t3 : u < x + q + q := by omega
      simp [h2.1, h2.2, t1, t2, t3, e]
    · by_cases t1 : x ≤ u
      · have t2 : ¬ u < x + q := by omega
        have t3 : ¬ u < x + q * 2 := by omega
        have t4 : ¬ u < x + q + q := by omega
        simp [t1, t2, t3, t4]
      · have t2 : ¬ x + q ≤ u := by omega
        simp [t1, t2]
theorem blk_y {b : Bx} {r : List Nat} (w : Wd r) (x y : Int) (P : Int → Bool) : blkS b (121 :: r) x y P = blkS b r x y P + blkS b r x (y + 2 ^ r.count 121) fun k => P (k + 2 ^ r.length) := by
  unfold blkS
  rw [← Sg_add]
  refine Sg_congr fun u _ => ?_
  rw [← Sg_add]
  refine Sg_congr fun v _ => ?_
  have hp := p2 (r.count 121)
  rw [List.count_cons_self, List.count_cons_of_ne (by decide), kT_y w, Int.pow_succ, ← Int.sub_sub v, kT_mody w]
  generalize (2 : Int) ^ r.count 121 = q at *
  unfold winB
  by_cases h1 : y ≤ v ∧ v < y + q
  · have e : (v - y) / q = 0 := Int.ediv_eq_zero_of_lt (by omega) (by omega)
    have t1 : v < y + q * 2 := by omega
    have t2 : ¬ y + q ≤ v := by omega
    simp [h1.1, h1.2, t1, t2, e]
  · by_cases h2 : y + q ≤ v ∧ v < y + q * 2
    · have e : (v - y) / q = 1 := by
        have : v - y = (v - y - q) + q * 1 := by omega
        rw [this, Int.add_mul_ediv_left _ _ (by omega), Int.ediv_eq_zero_of_lt (by omega) (by omega)]
        rfl
      have t1 : y ≤ v := by omega
      have t2 : ¬ v < y + q := by omega
      have t3 : v < y + q + q := by omega
      simp [h2.1, h2.2, t1, t2, t3, e]
    · by_cases t1 : y ≤ v
      · have t2 : ¬ v < y + q := by omega
        have t3 : ¬ v < y + q * 2 := by omega
        have t4 : ¬ v < y + q + q := by omega
        simp [t1, t2, t3, t4]
      · have t2 : ¬ y + q ≤ v := by omega
        simp [t1, t2]
/-- a rank, letter by letter -/
def rkF (b : Bx) : List Nat → Int → Int → Int → Int
  | [], _, _, _ => 0
  | c :: r, x, y, k => if k / 2 ^ r.length % 2 = 1 then cinF b x y (r.count 120) (r.count 121) + (if c = 120 then rkF b r (x + 2 ^ r.count 120) y k else rkF b r x (y + 2 ^ r.count 121) k) else rkF b r x y k
theorem mod_top (k : Int) (n : Nat) : k % 2 ^ (n + 1) = k % 2 ^ n + 2 ^ n * (k / 2 ^ n % 2) := by
  have hq := p2 n
  have h1 := Int.emod_add_mul_ediv k (2 ^ n)
  rw [Int.pow_succ]
  generalize (2 : Int) ^ n = q at *
  have h2 := Int.emod_add_mul_ediv (k / q) 2
  have e2 : k = (k % q + q * (k / q % 2)) + q * 2 * (k / q / 2) := by
    rw [Int.mul_assoc, Int.add_assoc, ← Int.mul_add, h2]
    exact h1.symm
  have b1 := Int.emod_nonneg k (by omega : q ≠ 0)
  have b2 := Int.emod_lt_of_pos k hq
  have b3 : k / q % 2 = 0 ∨ k / q % 2 = 1 := by omega
  have e3 : (k % q + q * (k / q % 2) + q * 2 * (k / q / 2)) % (q * 2) = k % q + q * (k / q % 2) := by
    rw [Int.add_mul_emod_self_left, Int.emod_eq_of_lt]
    · rcases b3 with z | z <;> rw [z] <;> omega
    · rcases b3 with z | z <;> rw [z] <;> omega
  rw [← e2] at e3
  exact e3
theorem rk_blk {b : Bx} (h1 : b.x1 ≤ b.x2) (h2 : b.y1 ≤ b.y2) : ∀ {w : List Nat} (x y k : Int), Wd w → rkF b w x y k = blkS b w x y fun z => decide (z < k % 2 ^ w.length)
  | [], x, y, k, _ => by
    unfold rkF blkS
    symm
    refine Sg_zero fun u _ => Sg_zero fun v _ => ?_
    have : ¬ kT [] (u - x) (v - y) < k % 2 ^ ([] : List Nat).length := by
      simp [kT, kF, Int.emod_one]
    simp only [decide_eq_false this, Bool.and_false]
    rfl
  | c :: r, x, y, k, w => by
    have hq := p2 r.length
    have m0 := Int.emod_nonneg k (by omega : (2 : Int) ^ r.length ≠ 0)
    have m1 := Int.emod_lt_of_pos k hq
    have halves : ∀ x' y' : Int, k / 2 ^ r.length % 2 = 1 → rkF b (c :: r) x y k = cinF b x y (r.count 120) (r.count 121) + rkF b r x' y' k → (blkS b (c :: r) x y fun z => decide (z < k % 2 ^ (c :: r).length)) = (blkS b r x y fun z => decide (z < k % 2 ^ (c :: r).length)) + (blkS b r x' y' fun z => decide (z + 2 ^ r.length < k % 2 ^ (c :: r).length)) → rkF b (c :: r) x y k = blkS b (c :: r) x y fun z => decide (z < k % 2 ^ (c :: r).length) := fun x' y' hk e1 e2 => by
      rw [e1, e2, rk_blk h1 h2 x' y' k w.tl, ← blk_all h1 h2]
      congr 1
      · refine blk_congr _ _ _ fun z z0 z1 => ?_
        symm
        rw [decide_eq_true_eq, List.length_cons, mod_top, hk]
        omega
      · refine blk_congr _ _ _ fun z z0 z1 => ?_
        rw [List.length_cons, mod_top, hk]
        congr 1
        rw [eq_iff_iff]
        omega
    have low : ∀ x' y' : Int, k / 2 ^ r.length % 2 ≠ 1 → (blkS b (c :: r) x y fun z => decide (z < k % 2 ^ (c :: r).length)) = (blkS b r x y fun z => decide (z < k % 2 ^ (c :: r).length)) + (blkS b r x' y' fun z => decide (z + 2 ^ r.length < k % 2 ^ (c :: r).length)) → rkF b (c :: r) x y k = blkS b (c :: r) x y fun z => decide (z < k % 2 ^ (c :: r).length) := fun x' y' hk e2 => by
      have hk0 : k / 2 ^ r.length % 2 = 0 := by omega
      rw [rkF, if_neg hk, rk_blk h1 h2 x y k w.tl, e2]
      have n0 : (blkS b r x' y' fun z => decide (z + 2 ^ r.length < k % 2 ^ (c :: r).length)) = 0 := by
        rw [← blk_none r x' y' (b := b)]
        refine blk_congr _ _ _ fun z z0 z1 => ?_
        rw [List.length_cons, mod_top, hk0]
        simp
        omega
      rw [n0, Int.add_zero]
      refine blk_congr _ _ _ fun z z0 z1 => ?_
      rw [List.length_cons, mod_top, hk0]
      simp
    rcases w c List.mem_cons_self with rfl | rfl
    · have e := blk_x (b := b) w.tl x y fun z => decide (z < k % 2 ^ (120 :: r).length)
      by_cases hk : k / 2 ^ r.length % 2 = 1
      · exact halves _ _ hk (by rw [rkF, if_pos hk, if_pos rfl]) e
      · exact low _ _ hk e
    · have e := blk_y (b := b) w.tl x y fun z => decide (z < k % 2 ^ (121 :: r).length)
      by_cases hk : k / 2 ^ r.length % 2 = 1
      · exact halves _ _ hk (by rw [rkF, if_pos hk, if_neg (by decide)]) e
      · exact low _ _ hk e
/-- .. of the whole grid: the keys of the box that are less -/
theorem blk_whole {w : List Nat} {b : Bx} (hb : b.ok w) (P : Int → Bool) : blkS b w 0 0 P = Sg (keysF w.reverse b) fun k => b01 (P k) := by
  rw [Sg_keys]
  unfold blkS kT
  obtain ⟨h1, h2, h3, h4, h5, h6⟩ := hb
  refine Sg_congr fun u hu => Sg_congr fun v hv => ?_
  have a1 := Bx.mem_xs.mp hu
  have a2 := Bx.mem_ys.mp hv
  have t1 : winB 0 (2 ^ w.count 120) u = true := by unfold winB; simp; omega
  have t2 : winB 0 (2 ^ w.count 121) v = true := by unfold winB; simp; omega
  rw [t1, t2, Int.sub_zero, Int.sub_zero]
  rfl
theorem rk_keys {w : List Nat} {b : Bx} (wd : Wd w) (hb : b.ok w) {k : Int} (h0 : 0 ≤ k) (h1 : k < 2 ^ w.length) : rkF b w 0 0 k = Sg (keysF w.reverse b) fun z => b01 (decide (z < k)) := by
  rw [rk_blk hb.2.1 hb.2.2.2.2.1 0 0 k wd, blk_whole hb, Int.emod_eq_of_lt h0 h1]
end PyV
set_option Elab.async false
set_option linter.all false
set_option maxRecDepth 100000
set_option maxHeartbeats 4000000
namespace PyV
open PySem
/-! ## the cell with an index -/
def ciF (b : Bx) : List Nat → Int → Int → Int → Int × Int
  | [], x, y, _ => (x, y)
  | c :: r, x, y, k => if cinF b x y (r.count 120) (r.count 121) ≤ k then (if c = 120 then ciF b r (x + 2 ^ r.count 120) y (k - cinF b x y (r.count 120) (r.count 121)) else ciF b r x (y + 2 ^ r.count 121) (k - cinF b x y (r.count 120) (r.count 121))) else ciF b r x y k
theorem com_one {lo hi a : Int} (h : lo ≤ hi) : comF lo hi a (a + 1 - 1) = if lo ≤ a ∧ a ≤ hi then 1 else 0 := by
  unfold comF
  split <;> split <;> split <;> split <;> omega
theorem win_iff {a n u : Int} : winB a n u = true ↔ a ≤ u ∧ u < a + n := by
  unfold winB
  simp only [Bool.and_eq_true, decide_eq_true_eq]
theorem ci_spec {b : Bx} (h1 : b.x1 ≤ b.x2) (h2 : b.y1 ≤ b.y2) : ∀ {w : List Nat} (x y k : Int), Wd w → 0 ≤ k → k < cinF b x y (w.count 120) (w.count 121) →
    b.has (ciF b w x y k).1 (ciF b w x y k).2 = true ∧ winB x (2 ^ w.count 120) (ciF b w x y k).1 = true ∧ winB y (2 ^ w.count 121) (ciF b w x y k).2 = true ∧
      (blkS b w x y fun z => decide (z < kT w ((ciF b w x y k).1 - x) ((ciF b w x y k).2 - y))) = k
  | [], x, y, k, _, k0, k1 => by
    have e1 := com_one (a := x) h1
    have e2 := com_one (a := y) h2
    simp only [cinF, List.count_nil, Int.pow_zero] at k1
    rw [e1, e2] at k1
    have hx : b.x1 ≤ x ∧ x ≤ b.x2 := by
      by_cases q : b.x1 ≤ x ∧ x ≤ b.x2
      · exact q
      · rw [if_neg q, Int.zero_mul] at k1; omega
    have hy : b.y1 ≤ y ∧ y ≤ b.y2 := by
      by_cases q : b.y1 ≤ y ∧ y ≤ b.y2
      · exact q
      · rw [if_neg q, Int.mul_zero] at k1; omega
    rw [if_pos hx, if_pos hy] at k1
    have hk : k = 0 := by omega
    refine ⟨Bx.has_iff.mpr ⟨hx, hy⟩, win_iff.mpr ?_, win_iff.mpr ?_, ?_⟩
    · simp [ciF]; omega
    · simp [ciF]; omega
    · rw [hk, ← blk_none ([] : List Nat) x y (b := b)]
      refine blk_congr _ _ _ fun z z0 z1 => ?_
      simp [kT, kF]
      omega
  | c :: r, x, y, k, w, k0, k1 => by
    have hq := p2 r.length
    rcases w c List.mem_cons_self with rfl | rfl
    · have hp := p2 (r.count 120)
      have tot := blk_x (b := b) w.tl x y fun _ => true
      rw [blk_all h1 h2, blk_all h1 h2, blk_all h1 h2] at tot
      rw [tot] at k1
      by_cases hm : cinF b x y (r.count 120) (r.count 121) ≤ k
      · rw [ciF, if_pos hm, if_pos rfl]
        obtain ⟨a1, a2, a3, a4⟩ := ci_spec h1 h2 (x + 2 ^ r.count 120) y (k - cinF b x y (r.count 120) (r.count 121)) w.tl (by omega) (by omega)
        generalize ciF b r (x + 2 ^ r.count 120) y (k - cinF b x y (r.count 120) (r.count 121)) = p at *
        have a2' := win_iff.mp a2
        refine ⟨a1, win_iff.mpr ?_, ?_, ?_⟩
        · rw [List.count_cons_self, Int.pow_succ]; omega
        · rw [List.count_cons_of_ne (by decide)]; exact a3
        · have e : (p.1 - x) / 2 ^ r.count 120 % 2 = 1 := by
            have : p.1 - x = (p.1 - x - 2 ^ r.count 120) + 2 ^ r.count 120 * 1 := by omega
            rw [this, Int.add_mul_ediv_left _ _ (by omega), Int.ediv_eq_zero_of_lt (by omega) (by omega)]
            rfl
          have eK : kT (120 :: r) (p.1 - x) (p.2 - y) = kT r (p.1 - (x + 2 ^ r.count 120)) (p.2 - y) + 2 ^ r.length := by
            rw [kT_x w.tl, e, ← Int.sub_sub, kT_modx, Int.mul_one]
          have nn := kT_nn r (p.1 - (x + 2 ^ r.count 120)) (p.2 - y)
          rw [eK, blk_x w.tl]
          generalize kT r (p.1 - (x + 2 ^ r.count 120)) (p.2 - y) = K at *
          have s1 : (blkS b r x y fun z => decide (z < K + 2 ^ r.length)) = cinF b x y (r.count 120) (r.count 121) := by
            rw [← blk_all h1 h2]
            refine blk_congr _ _ _ fun z z0 z1 => ?_
            rw [decide_eq_true_eq]
            omega
          have s2 : (blkS b r (x + 2 ^ r.count 120) y fun z => decide (z + 2 ^ r.length < K + 2 ^ r.length)) = blkS b r (x + 2 ^ r.count 120) y fun z => decide (z < K) := blk_congr _ _ _ fun z z0 z1 => by
            congr 1
            rw [eq_iff_iff]
            omega
          rw [s1, s2, a4]
          omega
      · rw [ciF, if_neg hm]
        obtain ⟨a1, a2, a3, a4⟩ := ci_spec h1 h2 x y k w.tl k0 (by omega)
        generalize ciF b r x y k = p at *
        have a2' := win_iff.mp a2
        refine ⟨a1, win_iff.mpr ?_, ?_, ?_⟩
        · rw [List.count_cons_self, Int.pow_succ]; omega
        · rw [List.count_cons_of_ne (by decide)]; exact a3
        · have e : (p.1 - x) / 2 ^ r.count 120 % 2 = 0 := by
            rw [Int.ediv_eq_zero_of_lt (by omega) (by omega)]
            rfl
          have eK : kT (120 :: r) (p.1 - x) (p.2 - y) = kT r (p.1 - x) (p.2 - y) := by
            rw [kT_x w.tl, e, Int.mul_zero, Int.add_zero]
          have lt := kT_lt r (p.1 - x) (p.2 - y)
          rw [eK, blk_x w.tl]
          generalize kT r (p.1 - x) (p.2 - y) = K at *
          have s2 : (blkS b r (x + 2 ^ r.count 120) y fun z => decide (z + 2 ^ r.length < K)) = 0 := by
            rw [← blk_none r (x + 2 ^ r.count 120) y (b := b)]
            refine blk_congr _ _ _ fun z z0 z1 => ?_
            simp
            omega
          rw [s2, a4, Int.add_zero]
    · have hp := p2 (r.count 121)
      have tot := blk_y (b := b) w.tl x y fun _ => true
      rw [blk_all h1 h2, blk_all h1 h2, blk_all h1 h2] at tot
      rw [tot] at k1
      by_cases hm : cinF b x y (r.count 120) (r.count 121) ≤ k
      · rw [ciF, if_pos hm, if_neg (by decide)]
        obtain ⟨a1, a2, a3, a4⟩ := ci_spec h1 h2 x (y + 2 ^ r.count 121) (k - cinF b x y (r.count 120) (r.count 121)) w.tl (by omega) (by omega)
        generalize ciF b r x (y + 2 ^ r.count 121) (k - cinF b x y (r.count 120) (r.count 121)) = p at *
        have a3' := win_iff.mp a3
        refine ⟨a1, ?_, win_iff.mpr ?_, ?_⟩
        · rw [List.count_cons_of_ne (by decide)]; exact a2
        · rw [List.count_cons_self, Int.pow_succ]; omega
        · have e : (p.2 - y) / 2 ^ r.count 121 % 2 = 1 := by
            have : p.2 - y = (p.2 - y - 2 ^ r.count 121) + 2 ^ r.count 121 * 1 := by omega
            rw [this, Int.add_mul_ediv_left _ _ (by omega), Int.ediv_eq_zero_of_lt (by omega) (by omega)]
            rfl
          have eK : kT (121 :: r) (p.1 - x) (p.2 - y) = kT r (p.1 - x) (p.2 - (y + 2 ^ r.count 121)) + 2 ^ r.length := by
            rw [kT_y w.tl, e, ← Int.sub_sub p.2, kT_mody w.tl, Int.mul_one]
          have nn := kT_nn r (p.1 - x) (p.2 - (y + 2 ^ r.count 121))
          rw [eK, blk_y w.tl]
          generalize kT r (p.1 - x) (p.2 - (y + 2 ^ r.count 121)) = K at *
          have s1 : (blkS b r x y fun z => decide (z < K + 2 ^ r.length)) = cinF b x y (r.count 120) (r.count 121) := by
            rw [← blk_all h1 h2]
            refine blk_congr _ _ _ fun z z0 z1 => ?_
            rw [decide_eq_true_eq]
            omega
          have s2 : (blkS b r x (y + 2 ^ r.count 121) fun z => decide (z + 2 ^ r.length < K + 2 ^ r.length)) = blkS b r x (y + 2 ^ r.count 121) fun z => decide (z < K) := blk_congr _ _ _ fun z z0 z1 => by
            congr 1
            rw [eq_iff_iff]
            omega
          rw [s1, s2, a4]
          omega
      · rw [ciF, if_neg hm]
        obtain ⟨a1, a2, a3, a4⟩ := ci_spec h1 h2 x y k w.tl k0 (by omega)
        generalize ciF b r x y k = p at *
        have a3' := win_iff.mp a3
        refine ⟨a1, ?_, win_iff.mpr ?_, ?_⟩
        · rw [List.count_cons_of_ne (by decide)]; exact a2
        · rw [List.count_cons_self, Int.pow_succ]; omega
        · have e : (p.2 - y) / 2 ^ r.count 121 % 2 = 0 := by
            rw [Int.ediv_eq_zero_of_lt (by omega) (by omega)]
            rfl
          have eK : kT (121 :: r) (p.1 - x) (p.2 - y) = kT r (p.1 - x) (p.2 - y) := by
            rw [kT_y w.tl, e, Int.mul_zero, Int.add_zero]
          have lt := kT_lt r (p.1 - x) (p.2 - y)
          rw [eK, blk_y w.tl]
          generalize kT r (p.1 - x) (p.2 - y) = K at *
          have s2 : (blkS b r x (y + 2 ^ r.count 121) fun z => decide (z + 2 ^ r.length < K)) = 0 := by
            rw [← blk_none r x (y + 2 ^ r.count 121) (b := b)]
            refine blk_congr _ _ _ fun z z0 z1 => ?_
            simp
            omega
          rw [s2, a4, Int.add_zero]
theorem Bx.ok.rv2 {b : Bx} {w : List Nat} (h : b.ok w) : b.ok w.reverse := by
  unfold Bx.ok at h ⊢
  rw [List.count_reverse, List.count_reverse]
  exact h
/-- .. of the whole grid: a cell of the box, just so many keys of it are less -/
theorem cin_whole {w : List Nat} {b : Bx} (hb : b.ok w) : cinF b 0 0 (w.count 120) (w.count 121) = b.area := by
  rw [← blk_all hb.2.1 hb.2.2.2.2.1, blk_whole hb, ← keysF_len hb.rv2, ← Sg_one]
  exact Sg_congr fun _ _ => rfl
theorem ci_keys {w : List Nat} {b : Bx} (wd : Wd w) (hb : b.ok w) {k : Int} (h0 : 0 ≤ k) (h1 : k < b.area) :
    b.has (ciF b w 0 0 k).1 (ciF b w 0 0 k).2 = true ∧ Sg (keysF w.reverse b) (fun z => b01 (decide (z < kF w.reverse (ciF b w 0 0 k).1 (ciF b w 0 0 k).2))) = k := by
  obtain ⟨a1, a2, a3, a4⟩ := ci_spec hb.2.1 hb.2.2.2.2.1 0 0 k wd h0 (by rw [cin_whole hb]; exact h1)
  refine ⟨a1, ?_⟩
  rw [blk_whole hb, Int.sub_zero, Int.sub_zero] at a4
  exact a4
/-! ### ascending keys and their ranks -/
/-- in an ascending list as many are less as stand ahead -/
theorem asc_rank : ∀ {s : List Int} {i : Nat} {k : Int}, s.Pairwise (· < ·) → s[i]? = some k → Sg s (fun z => b01 (decide (z < k))) = i
  | [], _, _, _, h => by simp at h
  | a :: s, 0, k, hs, h => by
    simp at h
    subst h
    rw [Sg_cons, Sg_zero fun z hz => by
      have := (List.pairwise_cons.mp hs).1 z hz
      have : ¬ z < a := by omega
      simp [this]]
    simp
  | a :: s, i + 1, k, hs, h => by
    rw [List.getElem?_cons_succ] at h
    have := (List.pairwise_cons.mp hs).1 k (List.mem_of_getElem? h)
    rw [Sg_cons, asc_rank (List.pairwise_cons.mp hs).2 h]
    simp [this]
    omega
theorem asc_at {s : List Int} {i : Nat} {k : Int} (hs : s.Pairwise (· < ·)) (hk : k ∈ s) (h : Sg s (fun z => b01 (decide (z < k))) = i) : s[i]? = some k := by
  obtain ⟨j, hj⟩ := List.getElem?_of_mem hk
  have := asc_rank hs hj
  have : j = i := by omega
  subst this
  exact hj
end PyV
set_option Elab.async false
set_option linter.all false
set_option maxRecDepth 100000
set_option maxHeartbeats 4000000
namespace PyV
open PySem
/-! ## ranks -/
@[simp] theorem s_common (lo hi a z : Int) : TT.G 164 [.int lo, .int hi, .int a, .int z] = .ok (.int (comF lo hi a z)) false none := tt_run 0 (show runD TT none 0 b_common _ = _ by simp [runD, evB, evS, evE, evEs, evXs, asgT_v, asgT_t, asgTs_n, asgTs_c, atD, placeD, b_common, comF]) (by simp)
theorem com_bd {lo hi a z : Int} (h : lo ≤ hi) : 0 ≤ comF lo hi a z ∧ comF lo hi a z ≤ hi - lo + 1 := by
  unfold comF
  split <;> split <;> split <;> omega
theorem cin_bd {b : Bx} (h : b.sm) (x y : Int) (i j : Nat) : 0 ≤ cinF b x y i j ∧ cinF b x y i j < 2 ^ 203 := by
  obtain ⟨h1, h2, h3, h4, h5, h6⟩ := h
  have e1 := com_bd (a := x) (z := x + 2 ^ i - 1) h2
  have e2 := com_bd (a := y) (z := y + 2 ^ j - 1) h5
  unfold cinF
  refine ⟨Int.mul_nonneg e1.1 e2.1, ?_⟩
  have : comF b.x1 b.x2 x (x + 2 ^ i - 1) * comF b.y1 b.y2 y (y + 2 ^ j - 1) ≤ 2 ^ 101 * 2 ^ 101 := Int.mul_le_mul (by omega) (by omega) e2.1 (by decide)
  omega
theorem s_cells_in {b : Bx} (h : b.sm) (x y : Int) (i j : Nat) (hi : i ≤ 100000) (hj : j ≤ 100000) : TT.G 165 [boxD b, .int x, .int y, .int (i : Int), .int (j : Int)] = .ok (.int (cinF b x y i j)) false none := tt_run 0 (show runD TT none 0 b_cells_in _ = _ by
  obtain ⟨h1, h2, h3, h4, h5, h6⟩ := h
  have s1 := shlOk_one (a := (i : Int)) (by omega) (by omega)
  have s2 := shlOk_one (a := (j : Int)) (by omega) (by omega)
  have e1 := com_bd (a := x) (z := x + 2 ^ i - 1) h2
  have e2 := com_bd (a := y) (z := y + 2 ^ j - 1) h5
  have m := mulOk_b (i := comF b.x1 b.x2 x (x + 2 ^ i - 1)) (j := comF b.y1 b.y2 y (y + 2 ^ j - 1)) (by omega) (by omega) (by omega) (by omega)
  simp [runD, evB, evS, evE, evEs, evXs, asgT_v, asgT_t, asgTs_n, asgTs_c, atD, placeD, b_cells_in, s1, s2, m, cinF]) (by simp)
theorem feetN_app : ∀ (a m : List Nat) (i j : Nat), Wd a → feetN (a ++ m) i j = feetN a i j ++ feetN m (i + a.count 120) (j + a.count 121)
  | [], m, i, j, _ => by simp [feetN]
  | c :: a, m, i, j, w => by
    rcases w c List.mem_cons_self with rfl | rfl
    · rw [List.cons_append, feetN, feetN, if_pos rfl, if_pos rfl, feetN_app a m (i + 1) j w.tl, List.count_cons_self, List.count_cons_of_ne (by decide), List.cons_append]
      congr 3
      omega
    · rw [List.cons_append, feetN, feetN, if_neg (by decide), if_neg (by decide), feetN_app a m i (j + 1) w.tl, List.count_cons_self, List.count_cons_of_ne (by decide), List.cons_append]
      congr 3
      omega
/-- the foot of the letter with so many behind it -/
theorem feet_at {p r : List Nat} {c : Nat} (w : Wd (p ++ c :: r)) : (feetN (p ++ c :: r).reverse 0 0)[r.length]? = some (c, r.count 120, r.count 121) := by
  have wr : Wd r := fun z hz => w z (List.mem_append_right _ (List.mem_cons_of_mem _ hz))
  rw [List.reverse_append, List.reverse_cons, List.append_assoc, feetN_app _ _ _ _ wr.rev, List.getElem?_append_right (by rw [feetN_len, List.length_reverse]; exact Nat.le_refl _), feetN_len, List.length_reverse, Nat.sub_self]
  simp [feetN, List.count_reverse]
/-- n - 1, .., 0 -/
def dn : Nat → List D
  | 0 => []
  | n + 1 => .int (n : Int) :: dn n
theorem irange_dn : ∀ (n : Nat), irange ((n : Int) - 1) n (-1) = dn n
  | 0 => rfl
  | n + 1 => by
    rw [dn, ← irange_dn n]
    simp only [irange]
    rw [List.range_succ_eq_map, List.map_cons, List.map_map]
    congr 1
    · simp
      try omega
    · apply List.map_congr_left
      intro k _
      simp
      try omega
theorem rng_dn {n : Nat} (h : n ≤ 1000000) : itemsD .rng [.int ((n : Int) - 1), .int (-1), .int (-1)] = some (dn n) := by
  have b1 := big62_of' (i := (n : Int) - 1) (by omega) (by omega)
  have b2 : big62 (-1) = true := by decide
  have e : (((n : Int) - 1) - (-1)).toNat = n := by omega
  show (if big62 ((n : Int) - 1) = true ∧ big62 (-1) = true then some (irange ((n : Int) - 1) (((n : Int) - 1) - (-1)).toNat (-1)) else none) = _
  rw [if_pos ⟨b1, b2⟩, e, irange_dn]
theorem atD_feet {p r : List Nat} {c : Nat} (w : Wd (p ++ c :: r)) : atD ((feetN (p ++ c :: r).reverse 0 0).map footD) (r.length : Int) = some (.tup [.str [c], .int (r.count 120 : Nat), .int (r.count 121 : Nat)]) := by
  unfold atD
  rw [if_pos (by omega), Int.toNat_natCast, List.getElem?_map, feet_at w]
  rfl
theorem rk_loop {n : Nat} {b : Bx} {k : Int} {s0 : Sl} (hb : b.sm) (W : List Nat) (hW : Wd W) (hl : W.length ≤ 1000) : ∀ (r p : List Nat), W = p ++ r → ∀ (f x y : Int) (s3 s8 s9 s10 : Sl), ∃ t3 x' y' t8 t9 t10,
    forL (asgT none (.v 3)) (evB TT none n l_rank_in_1) (dn r.length) [s0, .val (boxD b), .val (.int k), s3, .val (.int f), .val (.int x), .val (.int y), .own (.lst ((feetN W.reverse 0 0).map footD)), s8, s9, s10] =
      .ok .nx [s0, .val (boxD b), .val (.int k), t3, .val (.int (f + rkF b r x y k)), .val (.int x'), .val (.int y'), .own (.lst ((feetN W.reverse 0 0).map footD)), t8, t9, t10]
  | [], p, _, f, x, y, s3, s8, s9, s10 => ⟨s3, x, y, s8, s9, s10, by simp [forL, dn, rkF]⟩
  | c :: r, p, hp, f, x, y, s3, s8, s9, s10 => by
    have w2 : Wd (p ++ c :: r) := hp ▸ hW
    have at_ := atD_feet w2
    rw [← hp] at at_
    have hlen : r.length ≤ 1000 := by
      have := congrArg List.length hp
      rw [List.length_append, List.length_cons] at this
      omega
    have c1 : r.count 120 ≤ 1000 := Nat.le_trans List.count_le_length hlen
    have c2 : r.count 121 ≤ 1000 := Nat.le_trans List.count_le_length hlen
    have hp' : W = (p ++ [c]) ++ r := by rw [hp, List.append_assoc]; rfl
    have ci := s_cells_in hb x y (r.count 120) (r.count 121) (by omega) (by omega)
    have sx := shlOk_one (a := (r.count 120 : Nat)) (by omega) (by omega)
    have sy := shlOk_one (a := (r.count 121 : Nat)) (by omega) (by omega)
    rw [List.length_cons, dn]
    by_cases hk : k / 2 ^ r.length % 2 = 1
    · by_cases hc : c = 120
      · subst hc
        obtain ⟨t3, x', y', t8, t9, t10, e⟩ := rk_loop (n := n) (k := k) (s0 := s0) hb W hW hl r (p ++ [120]) hp' (f + cinF b x y (r.count 120) (r.count 121)) (x + 2 ^ r.count 120) y (.val (.int (r.length : Int))) (.val (.str [120])) (.val (.int (r.count 120 : Nat))) (.val (.int (r.count 121 : Nat)))
        refine ⟨t3, x', y', t8, t9, t10, ?_⟩
        rw [forL_step (s1 := [s0, .val (boxD b), .val (.int k), .val (.int (r.length : Int)), .val (.int f), .val (.int x), .val (.int y), .own (.lst ((feetN W.reverse 0 0).map footD)), s8, s9, s10]) (by simp [runD, evB, evS, evE, evEs, evXs, asgT_v, asgT_t, asgTs_n, asgTs_c, atD, placeD]) (by simp [runD, evB, evS, evE, evEs, evXs, asgT_v, asgT_t, asgTs_n, asgTs_c, l_rank_in_1, at_, bit1, hk, ci, sx]; rfl), e, rkF, if_pos hk, if_pos rfl, Int.add_assoc]
      · obtain ⟨t3, x', y', t8, t9, t10, e⟩ := rk_loop (n := n) (k := k) (s0 := s0) hb W hW hl r (p ++ [c]) hp' (f + cinF b x y (r.count 120) (r.count 121)) x (y + 2 ^ r.count 121) (.val (.int (r.length : Int))) (.val (.str [c])) (.val (.int (r.count 120 : Nat))) (.val (.int (r.count 121 : Nat)))
        refine ⟨t3, x', y', t8, t9, t10, ?_⟩
        rw [forL_step (s1 := [s0, .val (boxD b), .val (.int k), .val (.int (r.length : Int)), .val (.int f), .val (.int x), .val (.int y), .own (.lst ((feetN W.reverse 0 0).map footD)), s8, s9, s10]) (by simp [runD, evB, evS, evE, evEs, evXs, asgT_v, asgT_t, asgTs_n, asgTs_c, atD, placeD]) (by simp [runD, evB, evS, evE, evEs, evXs, asgT_v, asgT_t, asgTs_n, asgTs_c, l_rank_in_1, at_, bit1, hk, ci, sy, hc]; rfl), e, rkF, if_pos hk, if_neg hc, Int.add_assoc]
    · obtain ⟨t3, x', y', t8, t9, t10, e⟩ := rk_loop (n := n) (k := k) (s0 := s0) hb W hW hl r (p ++ [c]) hp' f x y (.val (.int (r.length : Int))) (.val (.str [c])) (.val (.int (r.count 120 : Nat))) (.val (.int (r.count 121 : Nat)))
      refine ⟨t3, x', y', t8, t9, t10, ?_⟩
      rw [forL_step (s1 := [s0, .val (boxD b), .val (.int k), .val (.int (r.length : Int)), .val (.int f), .val (.int x), .val (.int y), .own (.lst ((feetN W.reverse 0 0).map footD)), s8, s9, s10]) (by simp [runD, evB, evS, evE, evEs, evXs, asgT_v, asgT_t, asgTs_n, asgTs_c, atD, placeD]) (by simp [runD, evB, evS, evE, evEs, evXs, asgT_v, asgT_t, asgTs_n, asgTs_c, l_rank_in_1, at_, bit1, hk]; rfl), e, rkF, if_neg hk]
theorem s_rank_in {w : List Nat} {b : Bx} {k : Int} (wd : Wd w) (hb : b.sm) (hl : w.length ≤ 1000) : TT.G 166 [.str w, boxD b, .int k] = .ok (.int (rkF b w 0 0 k)) false none := tt_run 0 (show runD TT none 0 b_rank_in _ = _ by
  have e0 := s_feet (w := w) (by omega)
  obtain ⟨t3, x', y', t8, t9, t10, e⟩ := rk_loop (n := 0) (k := k) (s0 := .val (.str w)) hb w wd hl w [] rfl 0 0 0 .emp .emp .emp .emp
  rw [Int.zero_add] at e
  have hfl : (feetN w.reverse 0 0).length = w.length := by rw [feetN_len, List.length_reverse]
  have fin : evB TT none 0 b_rank_in.body [.val (.str w), .val (boxD b), .val (.int k), .emp, .emp, .emp, .emp, .emp, .emp, .emp, .emp] = .ok (.rt (.int (rkF b w 0 0 k)) false) [.val (.str w), .val (boxD b), .val (.int k), t3, .val (.int (rkF b w 0 0 k)), .val (.int x'), .val (.int y'), .own (.lst ((feetN w.reverse 0 0).map footD)), t8, t9, t10] := by
    unfold b_rank_in
    rw [evB_step (s1 := [.val (.str w), .val (boxD b), .val (.int k), .emp, .val (.int 0), .val (.int 0), .val (.int 0), .own (.lst ((feetN w.reverse 0 0).map footD)), .emp, .emp, .emp]) (by simp [runD, evB, evS, evE, evEs, evXs, asgT_v, asgT_t, asgTs_n, asgTs_c, atD, placeD, e0]), evB_step (s1 := [.val (.str w), .val (boxD b), .val (.int k), t3, .val (.int (rkF b w 0 0 k)), .val (.int x'), .val (.int y'), .own (.lst ((feetN w.reverse 0 0).map footD)), t8, t9, t10]) (by
      rw [evS_for (rs := [.val (.int ((w.length : Int) - 1)), .val (.int (-1)), .val (.int (-1))]) (ds := [.int ((w.length : Int) - 1), .int (-1), .int (-1)]) (xs := dn w.length) (s1 := [.val (.str w), .val (boxD b), .val (.int k), .emp, .val (.int 0), .val (.int 0), .val (.int 0), .own (.lst ((feetN w.reverse 0 0).map footD)), .emp, .emp, .emp]) (s2 := [.val (.str w), .val (boxD b), .val (.int k), .emp, .val (.int 0), .val (.int 0), .val (.int 0), .own (.lst ((feetN w.reverse 0 0).map footD)), .emp, .emp, .emp]) (by simp [runD, evB, evS, evE, evEs, evXs, asgT_v, asgT_t, asgTs_n, asgTs_c, atD, placeD, hfl]) rfl (rng_dn (by omega)), e])]
    simp [runD, evB, evS, evE, evEs, evXs, asgT_v, asgT_t, asgTs_n, asgTs_c, atD, placeD]
  exact run_rt fin rfl) (by simp)
theorem ci_loop {n : Nat} {b : Bx} {s0 s2 : Sl} (hb : b.sm) (W : List Nat) (hW : Wd W) (hl : W.length ≤ 1000) : ∀ (r p : List Nat), W = p ++ r → ∀ (f x y : Int) (s3 s8 s9 s10 s11 : Sl), ∃ t3 f' t8 t9 t10 t11,
    forL (asgT none (.v 3)) (evB TT none n l_cell_in_1) (dn r.length) [s0, .val (boxD b), s2, s3, .val (.int f), .val (.int x), .val (.int y), .own (.lst ((feetN W.reverse 0 0).map footD)), s8, s9, s10, s11] =
      .ok .nx [s0, .val (boxD b), s2, t3, f', .val (.int (ciF b r x y f).1), .val (.int (ciF b r x y f).2), .own (.lst ((feetN W.reverse 0 0).map footD)), t8, t9, t10, t11]
  | [], p, _, f, x, y, s3, s8, s9, s10, s11 => ⟨s3, _, s8, s9, s10, s11, by simp [forL, dn, ciF]; rfl⟩
  | c :: r, p, hp, f, x, y, s3, s8, s9, s10, s11 => by
    have w2 : Wd (p ++ c :: r) := hp ▸ hW
    have at_ := atD_feet w2
    rw [← hp] at at_
    have hlen : r.length ≤ 1000 := by
      have := congrArg List.length hp
      rw [List.length_append, List.length_cons] at this
      omega
    have c1 : r.count 120 ≤ 1000 := Nat.le_trans List.count_le_length hlen
    have c2 : r.count 121 ≤ 1000 := Nat.le_trans List.count_le_length hlen
    have hp' : W = (p ++ [c]) ++ r := by rw [hp, List.append_assoc]; rfl
    have ci := s_cells_in hb x y (r.count 120) (r.count 121) (by omega) (by omega)
    have sx := shlOk_one (a := (r.count 120 : Nat)) (by omega) (by omega)
    have sy := shlOk_one (a := (r.count 121 : Nat)) (by omega) (by omega)
    rw [List.length_cons, dn]
    by_cases hk : cinF b x y (r.count 120) (r.count 121) ≤ f
    · by_cases hc : c = 120
      · subst hc
        obtain ⟨t3, f', t8, t9, t10, t11, e⟩ := ci_loop (n := n) (s0 := s0) (s2 := s2) hb W hW hl r (p ++ [120]) hp' (f - cinF b x y (r.count 120) (r.count 121)) (x + 2 ^ r.count 120) y (.val (.int (r.length : Int))) (.val (.int (cinF b x y (r.count 120) (r.count 121)))) (.val (.str [120])) (.val (.int (r.count 120 : Nat))) (.val (.int (r.count 121 : Nat)))
        refine ⟨t3, f', t8, t9, t10, t11, ?_⟩
        rw [forL_step (s1 := [s0, .val (boxD b), s2, .val (.int (r.length : Int)), .val (.int f), .val (.int x), .val (.int y), .own (.lst ((feetN W.reverse 0 0).map footD)), s8, s9, s10, s11]) (by simp [runD, evB, evS, evE, evEs, evXs, asgT_v, asgT_t, asgTs_n, asgTs_c, atD, placeD]) (by simp [runD, evB, evS, evE, evEs, evXs, asgT_v, asgT_t, asgTs_n, asgTs_c, l_cell_in_1, at_, hk, ci, sx]; rfl), e, ciF, if_pos hk, if_pos rfl]
      · obtain ⟨t3, f', t8, t9, t10, t11, e⟩ := ci_loop (n := n) (s0 := s0) (s2 := s2) hb W hW hl r (p ++ [c]) hp' (f - cinF b x y (r.count 120) (r.count 121)) x (y + 2 ^ r.count 121) (.val (.int (r.length : Int))) (.val (.int (cinF b x y (r.count 120) (r.count 121)))) (.val (.str [c])) (.val (.int (r.count 120 : Nat))) (.val (.int (r.count 121 : Nat)))
        refine ⟨t3, f', t8, t9, t10, t11, ?_⟩
        rw [forL_step (s1 := [s0, .val (boxD b), s2, .val (.int (r.length : Int)), .val (.int f), .val (.int x), .val (.int y), .own (.lst ((feetN W.reverse 0 0).map footD)), s8, s9, s10, s11]) (by simp [runD, evB, evS, evE, evEs, evXs, asgT_v, asgT_t, asgTs_n, asgTs_c, atD, placeD]) (by simp [runD, evB, evS, evE, evEs, evXs, asgT_v, asgT_t, asgTs_n, asgTs_c, l_cell_in_1, at_, hk, ci, sy, hc]; rfl), e, ciF, if_pos hk, if_neg hc]
    · obtain ⟨t3, f', t8, t9, t10, t11, e⟩ := ci_loop (n := n) (s0 := s0) (s2 := s2) hb W hW hl r (p ++ [c]) hp' f x y (.val (.int (r.length : Int))) (.val (.int (cinF b x y (r.count 120) (r.count 121)))) (.val (.str [c])) (.val (.int (r.count 120 : Nat))) (.val (.int (r.count 121 : Nat)))
      refine ⟨t3, f', t8, t9, t10, t11, ?_⟩
      rw [forL_step (s1 := [s0, .val (boxD b), s2, .val (.int (r.length : Int)), .val (.int f), .val (.int x), .val (.int y), .own (.lst ((feetN W.reverse 0 0).map footD)), s8, s9, s10, s11]) (by simp [runD, evB, evS, evE, evEs, evXs, asgT_v, asgT_t, asgTs_n, asgTs_c, atD, placeD]) (by simp [runD, evB, evS, evE, evEs, evXs, asgT_v, asgT_t, asgTs_n, asgTs_c, l_cell_in_1, at_, hk, ci]; rfl), e, ciF, if_neg hk]
theorem s_cell_in {w : List Nat} {b : Bx} {k : Int} (wd : Wd w) (hb : b.sm) (hl : w.length ≤ 1000) : TT.G 167 [.str w, boxD b, .int k] = .ok (.tup [.int (ciF b w 0 0 k).1, .int (ciF b w 0 0 k).2]) false none := tt_run 0 (show runD TT none 0 b_cell_in _ = _ by
  have e0 := s_feet (w := w) (by omega)
  obtain ⟨t3, f', t8, t9, t10, t11, e⟩ := ci_loop (n := 0) (s0 := .val (.str w)) (s2 := .val (.int k)) hb w wd hl w [] rfl k 0 0 .emp .emp .emp .emp .emp
  have hfl : (feetN w.reverse 0 0).length = w.length := by rw [feetN_len, List.length_reverse]
  have fin : evB TT none 0 b_cell_in.body [.val (.str w), .val (boxD b), .val (.int k), .emp, .emp, .emp, .emp, .emp, .emp, .emp, .emp, .emp] = .ok (.rt (.tup [.int (ciF b w 0 0 k).1, .int (ciF b w 0 0 k).2]) false) [.val (.str w), .val (boxD b), .val (.int k), t3, f', .val (.int (ciF b w 0 0 k).1), .val (.int (ciF b w 0 0 k).2), .own (.lst ((feetN w.reverse 0 0).map footD)), t8, t9, t10, t11] := by
    unfold b_cell_in
    rw [evB_step (s1 := [.val (.str w), .val (boxD b), .val (.int k), .emp, .val (.int k), .val (.int 0), .val (.int 0), .own (.lst ((feetN w.reverse 0 0).map footD)), .emp, .emp, .emp, .emp]) (by simp [runD, evB, evS, evE, evEs, evXs, asgT_v, asgT_t, asgTs_n, asgTs_c, atD, placeD, e0]), evB_step (s1 := [.val (.str w), .val (boxD b), .val (.int k), t3, f', .val (.int (ciF b w 0 0 k).1), .val (.int (ciF b w 0 0 k).2), .own (.lst ((feetN w.reverse 0 0).map footD)), t8, t9, t10, t11]) (by
      rw [evS_for (rs := [.val (.int ((w.length : Int) - 1)), .val (.int (-1)), .val (.int (-1))]) (ds := [.int ((w.length : Int) - 1), .int (-1), .int (-1)]) (xs := dn w.length) (s1 := [.val (.str w), .val (boxD b), .val (.int k), .emp, .val (.int k), .val (.int 0), .val (.int 0), .own (.lst ((feetN w.reverse 0 0).map footD)), .emp, .emp, .emp, .emp]) (s2 := [.val (.str w), .val (boxD b), .val (.int k), .emp, .val (.int k), .val (.int 0), .val (.int 0), .own (.lst ((feetN w.reverse 0 0).map footD)), .emp, .emp, .emp, .emp]) (by simp [runD, evB, evS, evE, evEs, evXs, asgT_v, asgT_t, asgTs_n, asgTs_c, atD, placeD, hfl]) rfl (rng_dn (by omega)), e])]
    simp [runD, evB, evS, evE, evEs, evXs, asgT_v, asgT_t, asgTs_n, asgTs_c, atD, placeD]
  exact run_rt fin rfl) (by simp)
theorem s_require_lb {w : List Nat} {b : Bx} (hw : wordB w = true) (hb : b.ok w) : TT.G 128 [.obj 0 [ow] [.str w], boxD b] = .ok .non false none := tt_run 0 (show runD TT none 0 b_require_layout_and_box _ = _ by
  have e1 := s_require_box hw hb
  simp [runD, evB, evS, evE, evEs, evXs, asgT_v, asgT_t, asgTs_n, asgTs_c, atD, placeD, b_require_layout_and_box, e1]) (by simp)
theorem s_require_place {w : List Nat} {b : Bx} {k : Int} (hw : wordB w = true) (hb : b.ok w) (h0 : 0 ≤ k) (h1 : k < 2 ^ w.length) : TT.G 168 [.obj 0 [ow] [.str w], boxD b, .int k] = .ok .non false none := tt_run 0 (show runD TT none 0 b_require_place_in _ = _ by
  have e1 := s_require_lb hw hb
  have hc := wordB_c hw
  rw [wordB_len2 hw] at h1
  have e : (((w.count 120 : Nat) : Int) + ((w.count 121 : Nat) : Int)).toNat = w.count 120 + w.count 121 := by omega
  have e2 := s_require_key (a := (w.count 120 : Nat)) (b := (w.count 121 : Nat)) (v := k) (by omega) (by omega) (by omega) (by omega) h0 (by rw [e]; exact h1)
  simp [runD, evB, evS, evE, evEs, evXs, asgT_v, asgT_t, asgTs_n, asgTs_c, atD, placeD, b_require_place_in, e1, e2]) (by simp)
theorem s_rank_ {w : List Nat} {b : Bx} {k : Int} (hw : wordB w = true) (hb : b.ok w) (h0 : 0 ≤ k) (h1 : k < 2 ^ w.length) : TT.G 169 [.obj 0 [ow] [.str w], boxD b, .int k] = .ok (.int (Sg (keysF w.reverse b) fun z => b01 (decide (z < k)))) false none := by
  rw [← rk_keys (wordB_wd hw) hb h0 h1]
  exact tt_run 0 (show runD TT none 0 b_rank _ = _ by
    have e1 := s_require_place hw hb h0 h1
    have c := wordB_c hw
    have e2 := s_rank_in (w := w) (b := b) (k := k) (wordB_wd hw) (hb.sm c.1 c.2) (by have := wordB_len hw; omega)
    simp [runD, evB, evS, evE, evEs, evXs, asgT_v, asgT_t, asgTs_n, asgTs_c, atD, placeD, b_rank, e1, e2]) (by simp)
theorem s_cell_at {w : List Nat} {b : Bx} {k : Int} (hw : wordB w = true) (hb : b.ok w) (h0 : 0 ≤ k) (h1 : k < b.area) : TT.G 170 [.obj 0 [ow] [.str w], boxD b, .int k] = .ok (.tup [.int (ciF b w 0 0 k).1, .int (ciF b w 0 0 k).2]) false none := tt_run 0 (show runD TT none 0 b_cell_at _ = _ by
  have e1 := s_require_lb hw hb
  have c := wordB_c hw
  have e2 := s_cell_in (w := w) (b := b) (k := k) (wordB_wd hw) (hb.sm c.1 c.2) (by have := wordB_len hw; omega)
  have e3 := s_area_of (hb.sm c.1 c.2)
  have h2 : k ≤ b.area - 1 := by omega
  simp [runD, evB, evS, evE, evEs, evXs, asgT_v, asgT_t, asgTs_n, asgTs_c, atD, placeD, b_cell_at, e1, e2, e3, h0, h2]) (by simp)
end PyV
set_option Elab.async false
set_option linter.all false
set_option maxRecDepth 100000
set_option maxHeartbeats 4000000
namespace PyV
open PySem
/-! ## keys in rising order: how many are less -/
def cntK (ks : List Int) (k : Int) : Int := Sg ks fun z => b01 (decide (z < k))
theorem cntK_nn (ks : List Int) (k : Int) : 0 ≤ cntK ks k := Sg_nonneg fun a _ => by unfold b01; split <;> omega
theorem cntK_step : ∀ {ks : List Int}, ks.Pairwise (· < ·) → ∀ k, cntK ks (k + 1) = cntK ks k + b01 (decide (k ∈ ks))
  | [], _, k => by simp [cntK, b01]
  | a :: l, hs, k => by
    obtain ⟨h1, h2⟩ := List.pairwise_cons.mp hs
    have ih := cntK_step h2 k
    simp only [cntK, Sg_cons] at *
    by_cases h : a = k
    · subst h
      have z1 : Sg l (fun z => b01 (decide (z < a + 1))) = 0 := Sg_zero fun z hz => by
        have := h1 z hz
        rw [decide_eq_false (by omega)]
        rfl
      have z2 : Sg l (fun z => b01 (decide (z < a))) = 0 := Sg_zero fun z hz => by
        have := h1 z hz
        rw [decide_eq_false (by omega)]
        rfl
      rw [z1, z2]
      simp [b01]
      omega
    · rw [ih]
      have e1 : decide (a < k + 1) = decide (a < k) := by
        by_cases g : a < k
        · rw [decide_eq_true g, decide_eq_true (by omega)]
        · rw [decide_eq_false g, decide_eq_false (by omega)]
      have e2 : decide (k ∈ a :: l) = decide (k ∈ l) := by
        have : k ∈ a :: l ↔ k ∈ l := by
          rw [List.mem_cons]
          constructor
          · rintro (h' | h')
            · exact absurd h'.symm h
            · exact h'
          · exact .inr
        simp only [this]
      rw [e1, e2]
      omega
theorem cntK_at {ks : List Int} (hs : ks.Pairwise (· < ·)) {k : Int} {m : Nat} (hm : cntK ks k = m) : k ∈ ks ↔ ks[m]? = some k :=
  ⟨fun h => asc_at hs h hm, fun h => List.mem_of_getElem? h⟩
theorem cntK_perm {l m : List Int} (p : l.Perm m) (k : Int) : cntK l k = cntK m k := Sg_perm p _
theorem cntK_le (ks : List Int) (k : Int) : cntK ks k ≤ ks.length := by
  rw [← Sg_one]
  exact Sg_le fun a _ => by unfold b01; split <;> omega
theorem atD_nat {α : Type} {xs : List α} {m : Nat} (h : m < xs.length) : atD xs (m : Int) = some xs[m] := by
  unfold atD
  rw [if_pos (by omega), Int.toNat_natCast, List.getElem?_eq_getElem h]
theorem Wd.wordB {w : List Nat} (wd : Wd w) (hx : w.count 120 ≤ 100) (hy : w.count 121 ≤ 100) (h : 0 < w.count 120 + w.count 121) : wordB w = true := by
  unfold PyV.wordB
  simp only [Bool.and_eq_true, decide_eq_true_eq, List.all_eq_true, Bool.or_eq_true, beq_iff_eq]
  refine ⟨⟨⟨?_, fun c hc => wd c hc⟩, hx⟩, hy⟩
  cases w with
  | nil => simp at h
  | cons a l => rfl
/-- the cells of a box, in the order of their keys -/
theorem cells_sorted {w : List Nat} {b : Bx} (wd : Wd w) (hb : b.ok w) :
    ((rng 0 (sortI (keysF w.reverse b)).length).map fun z => D.tup [.int (ciF b w 0 0 z).1, .int (ciF b w 0 0 z).2]) = (sortI (keysF w.reverse b)).map fun k => D.tup [.int (cellF w.reverse k).1, .int (cellF w.reverse k).2] := by
  have hlen2 := keysF_len hb.rev
  have lt := sortI_lt (keysF_nodup wd.rev hb.rev)
  have pm := sortI_perm (keysF w.reverse b)
  apply List.ext_getElem
  · simp [rng_len]
  · intro j h1 h2
    simp only [List.length_map, rng_len] at h1 h2
    have hj : (rng 0 (sortI (keysF w.reverse b)).length)[j]'(by rw [rng_len]; exact h1) = (j : Int) := by simp [rng]
    rw [List.getElem_map, List.getElem_map, hj]
    have ha : (j : Int) < b.area := by rw [← hlen2, ← pm.length_eq]; omega
    obtain ⟨c1, c2⟩ := ci_keys wd hb (k := (j : Int)) (by omega) ha
    rw [← Sg_perm pm] at c2
    have mem : kF w.reverse (ciF b w 0 0 (j : Int)).1 (ciF b w 0 0 (j : Int)).2 ∈ sortI (keysF w.reverse b) := pm.mem_iff.mpr (mem_keysF.mpr ⟨_, _, c1, rfl⟩)
    have at_ := asc_at lt mem c2
    rw [List.getElem?_eq_getElem h1] at at_
    have at_ := Option.some.inj at_
    obtain ⟨g1, g2⟩ := Bx.has_iff.mp c1
    obtain ⟨q1, q2, q3, q4, q5, q6⟩ := hb.rev
    have ce := cellF_keyF w.reverse (ciF b w 0 0 (j : Int)).1 (ciF b w 0 0 (j : Int)).2 wd.rev (by omega) (by omega) (by omega) (by omega)
    rw [keyF_kF] at ce
    rw [at_, ce]
/-- a comprehension whose element freezes what it calls with: the state changes at the first turn alone -/
theorem lcL_two {α : Type} {st : D → Ss → Option Ss} {elt : Ss → R Rv} {wp : Ss → Ss} {g F : α → D} {Q : Sl → Prop} {St : Sl → Ss} {zF : Sl} (hF : Q zF) : ∀ {xs : List α} {acc : List D} {z : Sl}, Q z → acc.length + xs.length ≤ 16777216 →
    (∀ a ∈ xs, ∀ z, Q z → ∃ s1 r s3 s4, st (g a) (St z) = some s1 ∧ elt s1 = .ok r s3 ∧ fz s3 r = some (F a, s4) ∧ wp s4 = St zF) →
    lcL st (fun s => .ok true s) elt wp (xs.map g) acc (St z) = .ok (acc ++ xs.map F) (St (if xs.isEmpty then z else zF))
  | [], acc, z, _, _, _ => by simp [lcL]
  | a :: xs, acc, z, hz, hl, h => by
    obtain ⟨s1, r, s3, s4, h1, h2, h3, h4⟩ := h a List.mem_cons_self z hz
    have hl' : acc.length + (xs.length + 1) ≤ 16777216 := hl
    have ih := lcL_two (g := g) (F := F) (St := St) hF (xs := xs) (acc := acc ++ [F a]) hF (by simp; omega) fun e he => h e (List.mem_cons_of_mem _ he)
    have hlt : acc.length < lim := by show acc.length < 16777216; omega
    rw [List.map_cons]
    simp only [lcL, h1, h2, h3, hlt, if_true, h4]
    rw [ih]
    simp
theorem ev_lcS {α : Type} {T : Tab} {p : Option Nat} {e : E} {t : PyV.T} {k : Ik} {its : List E} {own : List Nat} {s s1 s2 : Ss} {rs : List Rv} {ds : List D} (xs : List α) (g F : α → D) (Q : Sl → Prop) (St : Sl → Ss) (z0 zF : Sl) (h0 : Q z0) (hF : Q zF) (h1 : evEs T p its s = .ok rs s1) (h2 : fzs s1 rs = some (ds, s2)) (h3 : itemsD k ds = some (xs.map g)) (h4 : noOwn p own s2 = true) (h5 : wipeS own s2 = St z0) (hl : xs.length ≤ 16777216)
    (step : ∀ a ∈ xs, ∀ z, Q z → ∃ s1 r s3 s4, asgT p t (g a) (St z) = some s1 ∧ evE T p e s1 = .ok r s3 ∧ fz s3 r = some (F a, s4) ∧ wipeS own s4 = St zF) :
    evE T p (.lc e t k its .nop own) s = .ok (.own (.lst (xs.map F))) (restS s2 own (St (if xs.isEmpty then z0 else zF))) := by
  have key := lcL_two (st := asgT p t) (elt := evE T p e) (wp := wipeS own) (g := g) (F := F) (St := St) hF (xs := xs) (acc := []) h0 (by simpa using hl) step
  rw [lc_eq, h1]
  simp only [R.bind, h2, h3, h4, if_true, h5]
  rw [show condD T p .nop = fun s => .ok true s from rfl, key, List.nil_append]
end PyV
set_option Elab.async false
set_option linter.all false
set_option maxRecDepth 100000
set_option maxHeartbeats 4000000
namespace PyV
open PySem
/-! ## what each letter saves, key by key -/
/-- k ends with just r noughts -/
def isR (k : Int) (r : Nat) : Bool := decide (k % 2 ^ r = 0) && decide (k / 2 ^ r % 2 = 1)
theorem isR_zero (k : Int) : isR k 0 = decide (k % 2 = 1) := by
  unfold isR
  simp [Int.emod_one]
theorem isR_succ (k : Int) (r : Nat) : isR k (r + 1) = (decide (k % 2 = 0) && isR (k / 2) r) := by
  unfold isR
  by_cases h : k % 2 = 0
  · rw [mod_even _ h, div_two]
    have : (2 * (k / 2 % 2 ^ r) = 0) ↔ (k / 2 % 2 ^ r = 0) := by omega
    simp [h, this]
  · have h1 := mod_odd (x := k) r (by omega)
    simp [h, h1]
theorem isR_one : ∀ {r s : Nat} {k : Int}, isR k r = true → isR k s = true → r = s
  | 0, 0, _, _, _ => rfl
  | 0, s + 1, k, h, g => by
    rw [isR_zero, decide_eq_true_eq] at h
    rw [isR_succ, Bool.and_eq_true, decide_eq_true_eq] at g
    omega
  | r + 1, 0, k, h, g => by
    rw [isR_zero, decide_eq_true_eq] at g
    rw [isR_succ, Bool.and_eq_true, decide_eq_true_eq] at h
    omega
  | r + 1, s + 1, k, h, g => by
    rw [isR_succ, Bool.and_eq_true] at h g
    have := isR_one h.2 g.2
    omega
/-- a letter is hit just where the key ends with as many noughts as letters stand behind it -/
theorem hit_isR : ∀ {l : List Nat} {r : Nat} {f : Nat × Nat × Nat} (x y : Int), Wd l → (feetN l 0 0)[r]? = some f → hit f x y = isR (kF l x y) r
  | [], r, f, x, y, _, h => by simp [feetN] at h
  | c :: l, 0, f, x, y, w, h => by
    rw [feetN, List.getElem?_cons_zero] at h
    cases h
    rw [isR_zero]
    rcases w c List.mem_cons_self with rfl | rfl
    · rw [hit_x0, kF, if_pos rfl]
      congr 1
      rw [eq_iff_iff]
      omega
    · rw [hit_y0, kF, if_neg (by decide)]
      congr 1
      rw [eq_iff_iff]
      omega
  | c :: l, r + 1, f, x, y, w, h => by
    rw [feetN, List.getElem?_cons_succ] at h
    rw [isR_succ]
    rcases w c List.mem_cons_self with rfl | rfl
    · rw [if_pos rfl, feetN_sx, List.getElem?_map] at h
      obtain ⟨f', h1, rfl⟩ := Option.map_eq_some_iff.mp h
      rw [hit_sx, hit_isR (x / 2) y w.tl h1, kF, if_pos rfl]
      have e1 : (x % 2 + 2 * kF l (x / 2) y) / 2 = kF l (x / 2) y := by omega
      have e2 : ((x % 2 + 2 * kF l (x / 2) y) % 2 = 0) ↔ (x % 2 = 0) := by omega
      rw [e1]
      simp only [e2]
    · rw [if_neg (by decide), feetN_sy, List.getElem?_map] at h
      obtain ⟨f', h1, rfl⟩ := Option.map_eq_some_iff.mp h
      rw [hit_sy, hit_isR x (y / 2) w.tl h1, kF, if_neg (by decide)]
      have e1 : (y % 2 + 2 * kF l x (y / 2)) / 2 = kF l x (y / 2) := by omega
      have e2 : ((y % 2 + 2 * kF l x (y / 2)) % 2 = 0) ↔ (y % 2 = 0) := by omega
      rw [e1]
      simp only [e2]
/-- the keys of a box whose key ahead is in it, too, by the letter that they end with -/
theorem sav_rank {l : List Nat} {b : Bx} {r : Nat} {f : Nat × Nat × Nat} (w : Wd l) (hb : b.ok l) (hf : (feetN l 0 0)[r]? = some f) : Sg (keysF l b) (fun k => b01 (decide (k - 1 ∈ keysF l b)) * b01 (isR k r)) = savF b f := by
  rw [← sav_cells hb f, Sg_keys]
  refine Sg_congr fun x hx => Sg_congr fun y hy => ?_
  have hh : b.has x y = true := Bx.has_iff.mpr ⟨Bx.mem_xs.mp hx, Bx.mem_ys.mp hy⟩
  rw [← b01_and, hit_isR x y w hf]
  congr 1
  cases t : isR (kF l x y) r with
  | false => rw [Bool.and_false, Bool.false_and]
  | true =>
    rw [Bool.and_true, Bool.true_and, Bool.eq_iff_iff, decide_eq_true_eq, mem_keysF]
    have ht : hit f x y = true := by rw [hit_isR x y w hf]; exact t
    obtain ⟨q1, q2⟩ := hit_key w (Bx.gd hb hh) (List.mem_of_getElem? hf) ht
    constructor
    · rintro ⟨u, v, h1, h2⟩
      obtain ⟨e1, e2⟩ := kF_inj w (Bx.gd hb h1) q2 (h2.trans q1.symm)
      rw [← e1, ← e2]
      exact h1
    · intro h
      exact ⟨_, _, h, q1⟩
/-- neighbours of an ascending list -/
theorem nb_sum (g : Int → Int) : ∀ {s : List Int}, s.Pairwise (· < ·) → Sg (s.zip (s.drop 1)) (fun p => b01 (decide (p.1 = p.2 - 1)) * g p.2) = Sg s (fun k => b01 (decide (k - 1 ∈ s)) * g k)
  | [], _ => rfl
  | [k], _ => by
    have : ¬ k - 1 = k := by omega
    simp [this]
  | k :: k' :: ks, h => by
    obtain ⟨h1, h2⟩ := List.pairwise_cons.mp h
    have ih := nb_sum g h2
    have h3 := (List.pairwise_cons.mp h2).1
    have hk : k < k' := h1 k' List.mem_cons_self
    have z0 : ¬ k - 1 ∈ k :: k' :: ks := fun z => by
      rcases List.mem_cons.mp z with z | z
      · omega
      · have := h1 _ z; omega
    have zk : ¬ k' - 1 ∈ k' :: ks := fun z => by
      rcases List.mem_cons.mp z with z | z
      · omega
      · have := h3 _ z; omega
    have zr : ∀ z ∈ ks, decide (z - 1 ∈ k :: k' :: ks) = decide (z - 1 ∈ k' :: ks) := fun z hz => by
      have := h3 z hz
      have ne : ¬ z - 1 = k := by omega
      simp [ne]
    have e1 : Sg (k :: k' :: ks) (fun z => b01 (decide (z - 1 ∈ k :: k' :: ks)) * g z) = b01 (decide (k = k' - 1)) * g k' + Sg ks (fun z => b01 (decide (z - 1 ∈ k' :: ks)) * g z) := by
      rw [Sg_cons, Sg_cons]
      have : decide (k' - 1 ∈ k :: k' :: ks) = decide (k = k' - 1) := by
        rw [Bool.eq_iff_iff, decide_eq_true_eq, decide_eq_true_eq]
        constructor
        · intro z
          rcases List.mem_cons.mp z with z | z
          · exact z.symm
          · exact absurd z zk
        · intro z
          rw [z]
          exact List.mem_cons_self
      rw [this, Sg_congr (l := ks) (g := fun z => b01 (decide (z - 1 ∈ k' :: ks)) * g z) fun z hz => by rw [zr z hz]]
      simp only [z0, decide_false, b01_f, Int.zero_mul, Int.zero_add]
    have e2 : Sg (k' :: ks) (fun z => b01 (decide (z - 1 ∈ k' :: ks)) * g z) = Sg ks (fun z => b01 (decide (z - 1 ∈ k' :: ks)) * g z) := by
      rw [Sg_cons]
      simp only [zk, decide_false, b01_f, Int.zero_mul, Int.zero_add]
    rw [e1, ← e2, ← ih]
    rfl
theorem due_sav {l : List Nat} {b : Bx} {r : Nat} {f : Nat × Nat × Nat} (w : Wd l) (hb : b.ok l) (hf : (feetN l 0 0)[r]? = some f) :
    Sg ((sortI (keysF l b)).zip ((sortI (keysF l b)).drop 1)) (fun p => b01 (decide (p.1 = p.2 - 1)) * b01 (isR p.2 r)) = savF b f := by
  have p := sortI_perm (keysF l b)
  rw [nb_sum (fun k => b01 (isR k r)) (sortI_lt (keysF_nodup w hb)), Sg_perm p, ← sav_rank w hb hf]
  refine Sg_congr fun k _ => ?_
  have : decide (k - 1 ∈ sortI (keysF l b)) = decide (k - 1 ∈ keysF l b) := by
    rw [Bool.eq_iff_iff, decide_eq_true_eq, decide_eq_true_eq, p.mem_iff]
  rw [this]
end PyV
set_option Elab.async false
set_option linter.all false
set_option maxRecDepth 100000
set_option maxHeartbeats 4000000
namespace PyV
open PySem
/-! ## lists of ints: shown, compared -/
theorem showOks_ints {ns : List Int} (h : ∀ i ∈ ns, -(2 ^ 400) < i ∧ i < 2 ^ 400) : showOks (ns.map D.int) = true := by
  induction ns with
  | nil => rfl
  | cons i ns ih =>
    have := h i List.mem_cons_self
    have h2 := showOk_b this.1 this.2
    simp only [List.map_cons, showOks, showOk, ih fun j hj => h j (List.mem_cons_of_mem _ hj), h2, decide_true, Bool.and_self]
theorem szs_ints (ns : List Int) : szs (ns.map D.int) = 1923 * ns.length := by
  induction ns with
  | nil => rfl
  | cons i ns ih =>
    simp only [List.map_cons, szs, szD, ih, List.length_cons]
    omega
theorem repr_ints {ns : List Int} (h : ∀ i ∈ ns, -(2 ^ 400) < i ∧ i < 2 ^ 400) (hl : ns.length ≤ 8000) : showOk (.lst (ns.map D.int)) = true ∧ szD (.lst (ns.map D.int)) ≤ 16777216 := by
  have h1 := showOks_ints h
  have h2 := szs_ints ns
  simp only [showOk, h1, szD, h2, true_and]
  omega
theorem cmp_ne_self {ns : List Int} : cmpD .ne (.lst (ns.map D.int)) (.lst (ns.map D.int)) = some false := by
  have h3 := ck_ints 7 ns
  simp only [cmpD, ck_lst8, h3, and_self, if_true, eqD_lst, eqDs_ints, decide_true, Bool.not_true]
theorem saved_bd {w : List Nat} {b : Bx} (hl : w.length ≤ 200) (hb : b.sm) : ∀ i ∈ (feetN w.reverse 0 0).reverse.map (savF b), -(2 ^ 400) < i ∧ i < 2 ^ 400 := fun i hi => by
  obtain ⟨f, hf, rfl⟩ := List.mem_map.mp hi
  have fb := feetN_bd (List.mem_reverse.mp hf)
  rw [List.length_reverse] at fb
  obtain ⟨g1, g2, g3, g4, g5, g6⟩ := hb
  have o1 := oddsF_bd (i := f.2.1) g1 g3 g2
  have o2 := oddsF_bd (i := f.2.2) g4 g6 g5
  have l1 := algnF_bd (j := f.2.2) g4 g6 g5 (by omega)
  have l2 := algnF_bd (j := f.2.1) g1 g3 g2 (by omega)
  have key : ∀ a c : Int, -(2 ^ 102) ≤ a → a ≤ 2 ^ 102 → 0 ≤ c → c ≤ 2 ^ 202 → -(2 ^ 400) < a * c ∧ a * c < 2 ^ 400 := fun a c a1 a2 c1 c2 => by
    have u1 : a * c ≤ 2 ^ 102 * c := Int.mul_le_mul_of_nonneg_right a2 c1
    have u2 : -(2 ^ 102) * c ≤ a * c := Int.mul_le_mul_of_nonneg_right a1 c1
    omega
  unfold savF
  split
  · exact key _ _ o1.1 o1.2 l1.1 l1.2
  · exact key _ _ o2.1 o2.2 l2.1 l2.2
theorem s_savedI {w : List Nat} {b : Bx} (hw : wordB w = true) (hb : b.ok w) : TT.G 61 [.obj 0 [ow] [.str w], boxD b] = .ok (.lst (((feetN w.reverse 0 0).reverse.map (savF b)).map .int)) true none := by
  rw [s_saved hw hb, List.map_map]
  rfl
/-! ## law k05 -/
theorem s_rank {k : Int} (hk : 0 < k) : ∃ r : Nat, TT.G 62 [.int k] = .ok (.int (r : Int)) false none ∧ isR k r = true := by
  have dv : divOk 2 = true := by decide
  obtain ⟨s1, e, f, q, rfl, h1, h2, h3⟩ := whl_inv (cond := fun s => tstR (evE TT none c_law_rank_1 s)) (body := evB TT none (k.toNat + 1) l_law_rank_1) (fun m s => ∃ (q : Int) (f : Nat), s = [.val (.int q), .val (.int (f : Int))] ∧ 0 < q ∧ m = q.toNat ∧ ∀ t, isR k (f + t) = isR q t)
    (fun s => ∃ (f : Nat) (q : Int), s = [.val (.int q), .val (.int (f : Int))] ∧ 0 < q ∧ q % 2 = 1 ∧ ∀ t, isR k (f + t) = isR q t) (fun m s ⟨q, f, hs, h1, h2, h3⟩ => by
      subst hs
      by_cases h : q % 2 = 0
      · refine .inr ⟨[.val (.int q), .val (.int (f : Int))], [.val (.int (q / 2)), .val (.int ((f + 1 : Nat) : Int))], (q / 2).toNat, by simp [runD, evB, evS, evE, evEs, evXs, asgT_v, asgT_t, asgTs_n, asgTs_c, atD, placeD, c_law_rank_1, h], by simp [runD, evB, evS, evE, evEs, evXs, asgT_v, asgT_t, asgTs_n, asgTs_c, atD, placeD, l_law_rank_1, dv], by omega, q / 2, f + 1, rfl, by omega, rfl, fun t => ?_⟩
        rw [show f + 1 + t = f + (t + 1) by omega, h3, isR_succ, h]
        simp
      · exact .inl ⟨_, by simp [runD, evB, evS, evE, evEs, evXs, asgT_v, asgT_t, asgTs_n, asgTs_c, atD, placeD, c_law_rank_1, h], f, q, rfl, h1, by omega, h3⟩) (k.toNat + 1) k.toNat [.val (.int k), .val (.int ((0 : Nat) : Int))] ⟨k, 0, rfl, hk, rfl, fun t => by rw [Nat.zero_add]⟩ (by omega)
  refine ⟨f, tt_run (k.toNat + 1) (show runD TT none (k.toNat + 1) b_law_rank _ = _ from run_rt (s := [.val (.int q), .val (.int (f : Int))]) ?_ rfl) (by simp), ?_⟩
  · show evB TT none (k.toNat + 1) b_law_rank.body [.val (.int k), .emp] = _
    unfold b_law_rank
    have e0 : (((0 : Nat) : Int)) = 0 := rfl
    rw [e0] at e
    rw [evB_step (s1 := [.val (.int k), .val (.int 0)]) (by simp [runD, evB, evS, evE, evEs, evXs, asgT_v, asgT_t, asgTs_n, asgTs_c, atD, placeD]), evB_step (s1 := [.val (.int q), .val (.int (f : Int))]) (by simp only [evS, e])]
    simp [runD, evB, evS, evE, evEs, evXs, asgT_v, asgT_t, asgTs_n, asgTs_c, atD, placeD]
  · have := h3 0
    rw [Nat.add_zero, isR_zero, h2] at this
    exact this
theorem isR_lt {k : Int} {r n : Nat} (h0 : 0 < k) (h1 : k < 2 ^ n) (h : isR k r = true) : r < n := by
  unfold isR at h
  simp only [Bool.and_eq_true, decide_eq_true_eq] at h
  have hd : (2 : Int) ^ r ≤ k := Int.le_of_dvd h0 (Int.dvd_of_emod_eq_zero h.1)
  rcases Nat.lt_or_ge r n with z | z
  · exact z
  · have := pow2_le z
    omega
/-- n ints told by a function -/
def dl (n : Nat) (c : Nat → Int) : List D := (List.range n).map fun a => .int (c a)
theorem dl_len (n : Nat) (c : Nat → Int) : (dl n c).length = n := by simp [dl]
theorem dl_at {n a : Nat} (c : Nat → Int) (h : a < n) : atD (dl n c) (a : Int) = some (.int (c a)) := by
  unfold atD dl
  simp [h]
theorem dl_place {n a : Nat} (h : a < n) : placeD n (a : Int) = some a := by
  unfold placeD
  simp [h]
theorem dl_set {n a : Nat} (c : Nat → Int) (v : Int) : (dl n c).set a (.int v) = dl n fun b => if b = a then v else c b := by
  unfold dl
  apply List.ext_getElem
  · simp
  · intro i h1 h2
    simp only [List.length_set, List.length_map, List.length_range] at h1
    rw [List.getElem_set]
    by_cases e : a = i
    · subst e; simp
    · have e2 : ¬ i = a := fun z => e z.symm
      simp [e, e2]
theorem k05_turn {n : Nat} {w : List Nat} {s0 s1 s3 s4 s5 s6 s7 s11 : Sl} {c : Nat → Int} {p k : Int} (hl : w.length ≤ 200) (h0 : 0 < k) (h1 : k < 2 ^ w.length) :
    ∃ t11, evB TT (some 0) n l_law_right_4_1 [s0, s1, .val (.str w), s3, s4, s5, s6, s7, .own (.lst (dl w.length c)), .val (.int p), .val (.int k), s11] = .ok .nx [s0, s1, .val (.str w), s3, s4, s5, s6, s7, .own (.lst (dl w.length fun a => c a + b01 (decide (p = k - 1)) * b01 (isR k (w.length - 1 - a)))), .val (.int p), .val (.int k), t11] := by
  by_cases h : p = k - 1
  · obtain ⟨r, e, hr⟩ := s_rank h0
    have hrn := isR_lt h0 h1 hr
    have ea : (w.length : Int) - 1 - (r : Int) = ((w.length - 1 - r : Nat) : Int) := by omega
    have f1 := dl_at c (show w.length - 1 - r < w.length by omega)
    have f2 := dl_place (show w.length - 1 - r < w.length by omega)
    have hl' : w.length ≤ 16777216 := by omega
    have f3 := dl_set (n := w.length) (a := w.length - 1 - r) c (c (w.length - 1 - r) + 1)
    have ln := dl_len w.length c
    have fin : (fun b => if b = w.length - 1 - r then c (w.length - 1 - r) + 1 else c b) = fun a => if a < w.length then c a + b01 (decide (p = k - 1)) * b01 (isR k (w.length - 1 - a)) else c a := by
      funext a
      rw [h]
      by_cases ha : a = w.length - 1 - r
      · have e1 : w.length - 1 - a = r := by omega
        have e2 : a < w.length := by omega
        rw [if_pos ha, if_pos e2, e1, hr, ha]
        simp
      · rw [if_neg ha]
        split
        · have : isR k (w.length - 1 - a) = false := by
            cases z : isR k (w.length - 1 - a) with
            | false => rfl
            | true =>
              have := isR_one z hr
              omega
          rw [this]
          simp
        · rfl
    have same : dl w.length (fun a => if a < w.length then c a + b01 (decide (p = k - 1)) * b01 (isR k (w.length - 1 - a)) else c a) = dl w.length fun a => c a + b01 (decide (p = k - 1)) * b01 (isR k (w.length - 1 - a)) := by
      unfold dl
      apply List.map_congr_left
      intro a ha
      have := List.mem_range.mp ha
      simp only [this, if_true]
    rw [fin, same] at f3
    refine ⟨.val (.int ((w.length - 1 - r : Nat) : Int)), ?_⟩
    rw [← f3]
    simp [runD, evB, evS, evE, evEs, evXs, asgT_v, asgT_t, asgTs_n, asgTs_c, l_law_right_4_1, e, h, ea, f1, f2, hl', ln]
  · refine ⟨s11, ?_⟩
    have : (fun a => c a + b01 (decide (p = k - 1)) * b01 (isR k (w.length - 1 - a))) = c := by
      funext a
      simp [h]
    rw [this]
    simp [runD, evB, evS, evE, evEs, evXs, asgT_v, asgT_t, asgTs_n, asgTs_c, l_law_right_4_1, h]
theorem k05_loop {n : Nat} {w : List Nat} {s0 s1 s3 s4 s5 s6 s7 : Sl} (hl : w.length ≤ 200) : ∀ (ps : List (Int × Int)) (c : Nat → Int) (s9 s10 s11 : Sl), (∀ p ∈ ps, 0 < p.2 ∧ p.2 < 2 ^ w.length) →
    ∃ t9 t10 t11, forL (asgT (some 0) (.tup [.v 9, .v 10])) (evB TT (some 0) n l_law_right_4_1) (ps.map pairD) [s0, s1, .val (.str w), s3, s4, s5, s6, s7, .own (.lst (dl w.length c)), s9, s10, s11] = .ok .nx [s0, s1, .val (.str w), s3, s4, s5, s6, s7, .own (.lst (dl w.length fun a => c a + Sg ps fun p => b01 (decide (p.1 = p.2 - 1)) * b01 (isR p.2 (w.length - 1 - a)))), t9, t10, t11]
  | [], c, s9, s10, s11, _ => ⟨s9, s10, s11, by simp [forL]⟩
  | p :: ps, c, s9, s10, s11, h => by
    have hp := h p List.mem_cons_self
    obtain ⟨t11, e⟩ := k05_turn (n := n) (s0 := s0) (s1 := s1) (s3 := s3) (s4 := s4) (s5 := s5) (s6 := s6) (s7 := s7) (s11 := s11) (c := c) (p := p.1) hl hp.1 hp.2
    obtain ⟨u9, u10, u11, e2⟩ := k05_loop (n := n) (s0 := s0) (s1 := s1) (s3 := s3) (s4 := s4) (s5 := s5) (s6 := s6) (s7 := s7) hl ps (fun a => c a + b01 (decide (p.1 = p.2 - 1)) * b01 (isR p.2 (w.length - 1 - a))) (.val (.int p.1)) (.val (.int p.2)) t11 fun q hq => h q (List.mem_cons_of_mem _ hq)
    refine ⟨u9, u10, u11, ?_⟩
    rw [List.map_cons, forL_step (s1 := [s0, s1, .val (.str w), s3, s4, s5, s6, s7, .own (.lst (dl w.length c)), .val (.int p.1), .val (.int p.2), s11]) (by simp [runD, evB, evS, evE, evEs, evXs, asgT_v, asgT_t, asgTs_n, asgTs_c, atD, placeD]) e, e2]
    congr 11
    unfold dl
    refine congrArg D.lst (List.map_congr_left fun a _ => ?_)
    simp only [Sg_cons]
    congr 1
    omega
theorem zipD_pairs : ∀ (a b : List Int), zipD (a.map .int) (b.map .int) = (a.zip b).map pairD
  | [], _ => by simp
  | _ :: _, [] => by simp
  | x :: a, y :: b => by
    simp only [List.map_cons, zipD, List.zip_cons_cons, zipD_pairs a b]
end PyV
set_option Elab.async false
set_option linter.all false
set_option maxRecDepth 100000
set_option maxHeartbeats 4000000
namespace PyV
open PySem
theorem k19_turn {n : Nat} {ks : List Int} {k : Int} {acc : List D} {s0 s2 s3 s4 s5 s6 s8 s11 : Sl} (hs : ks.Pairwise (· < ·)) (hl : ks.length ≤ 16777216) (ha : acc.length < 16777216) :
    evB TT (some 0) n l_law_right_18_1 [s0, .val (.int k), s2, s3, s4, s5, s6, .own (.lst (ks.map .int)), s8, .own (.lst acc), .val (.int (cntK ks k)), s11] =
      .ok .nx [s0, .val (.int k), s2, s3, s4, s5, s6, .own (.lst (ks.map .int)), s8, .own (.lst (acc ++ [.int (cntK ks k)])), .val (.int (cntK ks (k + 1))), s11] := by
  obtain ⟨m, hm⟩ := Int.eq_ofNat_of_zero_le (cntK_nn ks k)
  have at_ := cntK_at hs hm
  rw [cntK_step hs k, hm]
  by_cases h : m < ks.length
  · have a2 : atD (ks.map D.int) (m : Int) = some (.int ks[m]) := by rw [atD_nat (by simpa using h)]; simp
    rw [List.getElem?_eq_getElem h] at at_
    have h' : (m : Int) < ks.length := by omega
    by_cases g : ks[m] = k
    · have : decide (k ∈ ks) = true := by simp only [at_, g, decide_true]
      rw [this]
      simp [runD, evB, evS, evE, evEs, evXs, asgT_v, asgT_t, asgTs_n, asgTs_c, l_law_right_18_1, a2, h', g, b01, ha]
    · have : decide (k ∈ ks) = false := by simp only [at_, Option.some.injEq, g, decide_false]
      rw [this]
      simp [runD, evB, evS, evE, evEs, evXs, asgT_v, asgT_t, asgTs_n, asgTs_c, l_law_right_18_1, a2, h', g, b01, ha]
  · have : decide (k ∈ ks) = false := by
      rw [List.getElem?_eq_none (by omega)] at at_
      simp [at_]
    rw [this]
    have h' : ¬ (m : Int) < ks.length := by omega
    simp [runD, evB, evS, evE, evEs, evXs, asgT_v, asgT_t, asgTs_n, asgTs_c, l_law_right_18_1, h', b01, ha]
theorem k19_loop {n : Nat} {ks : List Int} {s0 s2 s3 s4 s5 s6 s8 s11 : Sl} (hs : ks.Pairwise (· < ·)) (hl : ks.length ≤ 16777216) : ∀ (c : Nat) (k : Int) (acc : List D) (s1 : Sl), acc.length + c ≤ 16777216 →
    ∃ t1, (t1 = s1 ∨ ∃ z, t1 = .val z) ∧ forL (asgT (some 0) (.v 1)) (evB TT (some 0) n l_law_right_18_1) ((rng k c).map .int) [s0, s1, s2, s3, s4, s5, s6, .own (.lst (ks.map .int)), s8, .own (.lst acc), .val (.int (cntK ks k)), s11] =
      .ok .nx [s0, t1, s2, s3, s4, s5, s6, .own (.lst (ks.map .int)), s8, .own (.lst (acc ++ (rng k c).map fun z => .int (cntK ks z))), .val (.int (cntK ks (k + c))), s11]
  | 0, k, acc, s1, _ => ⟨s1, .inl rfl, by simp [forL]⟩
  | c + 1, k, acc, s1, h => by
    obtain ⟨t1, ht, e⟩ := k19_loop hs hl c (k + 1) (acc ++ [.int (cntK ks k)]) (.val (.int k)) (by simp; omega)
    refine ⟨t1, .inr (by rcases ht with rfl | h; exact ⟨_, rfl⟩; exact h), ?_⟩
    rw [rng_cons, List.map_cons, forL_step (s1 := [s0, .val (.int k), s2, s3, s4, s5, s6, .own (.lst (ks.map .int)), s8, .own (.lst acc), .val (.int (cntK ks k)), s11]) (by simp [runD, evB, evS, evE, evEs, evXs, asgT_v, asgT_t, asgTs_n, asgTs_c, atD, placeD]) (k19_turn hs hl (by omega)), e]
    simp
    congr 1
    omega
theorem cell_show {α : Type} (xs : List α) (f g : α → Int) (h : ∀ a ∈ xs, (0 ≤ f a ∧ f a < 2 ^ 400) ∧ 0 ≤ g a ∧ g a < 2 ^ 400) (hl : xs.length ≤ 2000) :
    showOk (.lst (xs.map fun a => .tup [.int (f a), .int (g a)])) = true ∧ szD (.lst (xs.map fun a => .tup [.int (f a), .int (g a)])) ≤ 16777216 ∧ (xs.map fun a => D.tup [.int (f a), .int (g a)]).all (ck 7) = true := by
  have h1 : showOks (xs.map fun a => .tup [.int (f a), .int (g a)]) = true ∧ szs (xs.map fun a => .tup [.int (f a), .int (g a)]) = 3852 * xs.length := by
    clear hl
    induction xs with
    | nil => exact ⟨rfl, rfl⟩
    | cons a l ih =>
      obtain ⟨i1, i2⟩ := ih fun b hb => h b (List.mem_cons_of_mem _ hb)
      obtain ⟨⟨f1, f2⟩, f3, f4⟩ := h a List.mem_cons_self
      have q1 := showOk_b (i := f a) (by omega) f2
      have q2 := showOk_b (i := g a) (by omega) f4
      simp only [List.map_cons, showOks, showOk, i1, q1, q2, decide_true, Bool.and_self, szs, szD, i2, List.length_cons, true_and]
      omega
  refine ⟨?_, ?_, ?_⟩
  · simp only [showOk]; exact h1.1
  · simp only [szD, h1.2]; omega
  · rw [List.all_eq_true]
    intro d hd
    obtain ⟨a, _, rfl⟩ := List.mem_map.mp hd
    rfl
@[reducible] def k19S (d3 : D) (x y : Nat) (w : List Nat) (b : Bx) (t1 t2 z7 z8 z9 : Sl) (m : Int) (z11 : Sl) : Ss := [.own d3, t1, t2, .val (.int (x : Int)), .val (.int (y : Int)), .val (.str w), .val (boxD b), z7, z8, z9, .val (.int m), z11]
theorem rng_items {n : Nat} (h : n ≤ 1000000) : itemsD .rng [.int (n : Int)] = some ((rng 0 n).map D.int) := by
  have b1 := big62_b (i := (n : Int)) (by omega) (by omega)
  have e : ((n : Int)).toNat = n := by omega
  simp only [itemsD, b1, if_true, e]
  rw [irange_rng]
theorem p8 {x y : Nat} (hx : (x : Int) ≤ 4) (hy : (y : Int) ≤ 4) : ∃ N : Nat, (2 : Int) ^ (x + y) = (N : Int) ∧ 1 ≤ N ∧ N ≤ 256 := by
  refine ⟨2 ^ (x + y), by simp, Nat.one_le_two_pow, ?_⟩
  have := Nat.pow_le_pow_right (n := 2) (by decide) (show x + y ≤ 8 by omega)
  omega
theorem k19_told {d3 : D} {x y : Nat} {w : List Nat} {b : Bx} {t1 z7 z8 z9 : Sl} {m : Int} {told : List D} (l2 : evE TT (some 0) (.lc c_law_right_18_2 (.v 11) .rng [.bi .len [.var 7]] .nop [11]) (k19S d3 x y w b t1 .emp z7 z8 z9 m .emp) = .ok (.own (.lst told)) (restS (k19S d3 x y w b t1 .emp z7 z8 z9 m .emp) [11] (k19S d3 x y w b t1 .emp z7 z8 z9 m .emp))) :
  evS TT (some 0) 0 (.asg (.v 2) (.lc c_law_right_18_2 (.v 11) .rng [.bi .len [.var 7]] .nop [11])) (k19S d3 x y w b t1 .emp z7 z8 z9 m .emp) = .ok .nx (k19S d3 x y w b t1 (.own (.lst told)) z7 z8 z9 m .emp) := by
  simp [runD, evB, evS, evE, evEs, evXs, asgT_v, asgT_t, asgTs_n, asgTs_c, atD, placeD, l2, k19S]
theorem s_k19_right {d : D} (hd : Bag d) : ∃ d', TT.G 171 [d] = .ok (.bl true) false (some d') ∧ Bag d' := by
  obtain ⟨x, y, d1, e1, hx, hy, hxy, q1⟩ := s_law_bits (m := 4) hd (by decide) (by decide)
  obtain ⟨w, d2, e2, wd, cx, cy, q2⟩ := s_law_word (x := x) (y := y) q1 (by omega) (by omega)
  obtain ⟨b, d3, e3, ⟨a1, a2, a3⟩, ⟨b1, b2, b3⟩, q3⟩ := s_law_box (x := x) (y := y) q2 (by omega) (by omega)
  have hb : b.ok w := ⟨a1, a2, by rw [cx]; exact a3, b1, b2, by rw [cy]; exact b3⟩
  have hw : wordB w = true := wd.wordB (by omega) (by omega) (by omega)
  have px : (2 : Int) ^ x ≤ 2 ^ 4 := pow2_le (by omega)
  have py : (2 : Int) ^ y ≤ 2 ^ 4 := pow2_le (by omega)
  have hlw := wordB_len2 hw
  rw [cx, cy] at hlw
  have lx : b.xs.length ≤ 16 := by unfold Bx.xs; rw [rng_len]; omega
  have ly : b.ys.length ≤ 16 := by unfold Bx.ys; rw [rng_len]; omega
  have lxy : b.ys.length * b.xs.length ≤ 16 * 16 := Nat.mul_le_mul ly lx
  have e4 := s_bkeys wd hb (by omega) (by omega) (by omega) (by omega)
  have e5 := s_new hw
  have cs := cells_sorted wd hb
  have lt := sortI_lt (keysF_nodup wd.rev hb.rev)
  have pm := sortI_perm (keysF w.reverse b)
  have hlen2 := keysF_len hb.rev
  have hlen : ((sortI (keysF w.reverse b)).length : Int) = b.area := by rw [pm.length_eq]; exact hlen2
  have hkl : (sortI (keysF w.reverse b)).length ≤ 256 := by
    rw [pm.length_eq]
    have : (keysF w.reverse b).length = b.xs.length * b.ys.length := by
      unfold keysF
      rw [List.length_flatMap]
      simp [List.map_const', List.sum_replicate_nat]
    rw [this, Nat.mul_comm]
    omega
  have cn : ∀ k, cntK (sortI (keysF w.reverse b)) k = Sg (keysF w.reverse b) fun z => b01 (decide (z < k)) := fun k => cntK_perm pm k
  have bnd : ∀ k ∈ sortI (keysF w.reverse b), (0 ≤ (cellF w.reverse k).1 ∧ (cellF w.reverse k).1 < 2 ^ 400) ∧ 0 ≤ (cellF w.reverse k).2 ∧ (cellF w.reverse k).2 < 2 ^ 400 := fun k hk => by
    obtain ⟨u, v, hh, rfl⟩ := mem_keysF.mp (pm.mem_iff.mp hk)
    obtain ⟨g1, g2⟩ := Bx.has_iff.mp hh
    obtain ⟨r1, r2, r3, r4, r5, r6⟩ := hb.rev
    have ce := cellF_keyF w.reverse u v wd.rev (by omega) (by omega) (by omega) (by omega)
    rw [keyF_kF] at ce
    rw [ce]
    clear ce r1 r2 r3 r4 r5 r6
    simp only
    omega
  have hcell : ∀ k, 0 ≤ k → k < b.area → TT.G 170 [.obj 0 [ow] [.str w], boxD b, .int k] = .ok (.tup [.int (ciF b w 0 0 k).1, .int (ciF b w 0 0 k).2]) false none := fun k => s_cell_at hw hb
  obtain ⟨N, hN, n1, n2⟩ := p8 hx hy
  have hrank : ∀ k, 0 ≤ k → k < (N : Int) → TT.G 169 [.obj 0 [ow] [.str w], boxD b, .int k] = .ok (.int (cntK (sortI (keysF w.reverse b)) k)) false none := fun k h0 h1 => by
    rw [cn]
    exact s_rank_ hw hb h0 (by rw [hlw, hN]; exact h1)
  have c0 : cntK (sortI (keysF w.reverse b)) 0 = 0 := Sg_zero fun k hk => by
    obtain ⟨u, v, hh, rfl⟩ := mem_keysF.mp (pm.mem_iff.mp hk)
    have := kF_nn w.reverse u v
    rw [decide_eq_false (by omega)]
    rfl
  have cle := cntK_le (sortI (keysF w.reverse b))
  have hlD : w.length ≤ 1000 := by omega
  clear cn hlen2 pm e5
  generalize hks : sortI (keysF w.reverse b) = ks at *
  clear hks lx ly lxy px py a3 b3 hb
  have e5 := s_new hw
  have sh := shlOk_one (a := (x : Int) + (y : Int)) (by omega) (by omega)
  have tn : ((x : Int) + (y : Int)).toNat = x + y := by omega
  have st1 : evB TT (some 0) 0 (b_law_right_18.body.take 3) [.own d, .emp, .emp, .emp, .emp, .emp, .emp, .emp, .emp, .emp, .emp, .emp] = .ok .nx [.own d3, .emp, .emp, .val (.int (x : Int)), .val (.int (y : Int)), .val (.str w), .val (boxD b), .own (.lst (ks.map .int)), .own (.obj 0 [ow] [.str w]), .own (.lst []), .val (.int 0), .emp] := by
    simp [runD, evB, evS, evE, evEs, evXs, asgT_v, asgT_t, asgTs_n, asgTs_c, atD, placeD, b_law_right_18, e1, e2, e3, e4, e5]
  have it := rng_items (n := N) (by omega)
  obtain ⟨t1, ht, ef⟩ := k19_loop (n := 0) (s0 := .own d3) (s2 := .emp) (s3 := .val (.int (x : Int))) (s4 := .val (.int (y : Int))) (s5 := .val (.str w)) (s6 := .val (boxD b)) (s8 := .own (.obj 0 [ow] [.str w])) (s11 := .emp) lt (by omega) N 0 [] .emp (by simp; omega)
  rw [c0, Int.zero_add, List.nil_append] at ef
  have st2 : evS TT (some 0) 0 (.for_ (.v 1) .rng [.bin .shl (.int 1) (.bin .add (.var 3) (.var 4))] l_law_right_18_1) [.own d3, .emp, .emp, .val (.int (x : Int)), .val (.int (y : Int)), .val (.str w), .val (boxD b), .own (.lst (ks.map .int)), .own (.obj 0 [ow] [.str w]), .own (.lst []), .val (.int 0), .emp] = .ok .nx (k19S d3 x y w b t1 .emp (.own (.lst (ks.map .int))) (.own (.obj 0 [ow] [.str w])) (.own (.lst (((rng 0 N).map (cntK ks)).map .int))) (cntK ks (N : Int)) .emp) := by
    rw [evS_for (rs := [.val (.int (N : Int))]) (ds := [.int (N : Int)]) (s1 := [.own d3, .emp, .emp, .val (.int (x : Int)), .val (.int (y : Int)), .val (.str w), .val (boxD b), .own (.lst (ks.map .int)), .own (.obj 0 [ow] [.str w]), .own (.lst []), .val (.int 0), .emp]) (s2 := [.own d3, .emp, .emp, .val (.int (x : Int)), .val (.int (y : Int)), .val (.str w), .val (boxD b), .own (.lst (ks.map .int)), .own (.obj 0 [ow] [.str w]), .own (.lst []), .val (.int 0), .emp]) (by simp [runD, evB, evS, evE, evEs, evXs, asgT_v, asgT_t, asgTs_n, asgTs_c, atD, placeD, sh, tn, hN]) rfl it, ef]
    simp [k19S]
  have hno : ∀ t2 z7 z8 z9 m z, noOwn (some 0) [1] (k19S d3 x y w b t1 t2 z7 z8 z9 m z) = true := fun t2 z7 z8 z9 m z => by
    rcases ht with rfl | ⟨v, rfl⟩ <;> rfl
  have hlen3 : ((rng 0 N).map (cntK ks)).length = N := by rw [List.length_map, rng_len]
  have hbd : ∀ i ∈ (rng 0 N).map (cntK ks), -(2 ^ 400) < i ∧ i < 2 ^ 400 := fun i hi => by
    obtain ⟨k, _, rfl⟩ := List.mem_map.mp hi
    have := cntK_nn ks k
    have := cle k
    omega
  generalize hdue : (rng 0 N).map (cntK ks) = due at st2 hlen3 hbd
  have l1 := ev_lcS (T := TT) (p := some 0) (e := c_law_right_18_1) (t := .v 1) (k := .rng) (its := [.bin .shl (.int 1) (.bin .add (.var 3) (.var 4))]) (own := [1]) (rs := [.val (.int (N : Int))]) (ds := [.int (N : Int)]) (s := k19S d3 x y w b t1 .emp (.own (.lst (ks.map .int))) (.own (.obj 0 [ow] [.str w])) (.own (.lst (due.map .int))) (cntK ks (N : Int)) .emp)
    (s1 := k19S d3 x y w b t1 .emp (.own (.lst (ks.map .int))) (.own (.obj 0 [ow] [.str w])) (.own (.lst (due.map .int))) (cntK ks (N : Int)) .emp)
    (s2 := k19S d3 x y w b t1 .emp (.own (.lst (ks.map .int))) (.own (.obj 0 [ow] [.str w])) (.own (.lst (due.map .int))) (cntK ks (N : Int)) .emp)
    (rng 0 N) D.int (fun z => .int (cntK ks z)) (fun z => z = .own (.obj 0 [ow] [.str w]) ∨ z = .val (.obj 0 [ow] [.str w]))
    (fun z => k19S d3 x y w b .emp .emp (.own (.lst (ks.map .int))) z (.own (.lst (due.map .int))) (cntK ks (N : Int)) .emp) (.own (.obj 0 [ow] [.str w])) (.val (.obj 0 [ow] [.str w])) (.inl rfl) (.inr rfl) (by simp [runD, evB, evS, evE, evEs, evXs, asgT_v, asgT_t, asgTs_n, asgTs_c, atD, placeD, k19S, sh, tn, hN]) rfl it (hno _ _ _ _ _ _) rfl (by rw [rng_len]; omega) fun k hk z hz => by
      obtain ⟨k0, k1⟩ := mem_rng.mp hk
      have e := hrank k k0 (by omega)
      rcases hz with rfl | rfl
      · exact ⟨_, .val (.int (cntK ks k)), _, _, rfl, by simp [runD, evB, evS, evE, evEs, evXs, asgT_v, asgT_t, asgTs_n, asgTs_c, atD, placeD, k19S, c_law_right_18_1, e]; rfl, rfl, rfl⟩
      · exact ⟨_, .val (.int (cntK ks k)), _, _, rfl, by simp [runD, evB, evS, evE, evEs, evXs, asgT_v, asgT_t, asgTs_n, asgTs_c, atD, placeD, k19S, c_law_right_18_1, e]; rfl, rfl, rfl⟩
  have ne : (rng 0 N).isEmpty = false := by
    rw [List.isEmpty_eq_false_iff]
    intro h
    have := congrArg List.length h
    rw [rng_len] at this
    simp at this
    omega
  have rp := repr_ints hbd (by omega)
  have hmm : ((rng 0 N).map fun z => D.int (cntK ks z)) = due.map .int := by rw [← hdue, List.map_map]; rfl
  rw [ne, hmm] at l1
  simp only [if_false, Bool.false_eq_true] at l1
  have hk2 := rng_items (n := ks.length) (by omega)
  have l2 := ev_lcS (T := TT) (p := some 0) (e := c_law_right_18_2) (t := .v 11) (k := .rng) (its := [.bi .len [.var 7]]) (own := [11]) (rs := [.val (.int (ks.length : Int))]) (ds := [.int (ks.length : Int)]) (s := k19S d3 x y w b t1 .emp (.own (.lst (ks.map .int))) (.val (.obj 0 [ow] [.str w])) (.own (.lst (due.map .int))) (cntK ks (N : Int)) .emp)
    (s1 := k19S d3 x y w b t1 .emp (.own (.lst (ks.map .int))) (.val (.obj 0 [ow] [.str w])) (.own (.lst (due.map .int))) (cntK ks (N : Int)) .emp)
    (s2 := k19S d3 x y w b t1 .emp (.own (.lst (ks.map .int))) (.val (.obj 0 [ow] [.str w])) (.own (.lst (due.map .int))) (cntK ks (N : Int)) .emp)
    (rng 0 ks.length) D.int (fun z => .tup [.int (ciF b w 0 0 z).1, .int (ciF b w 0 0 z).2]) (fun z => z = .val (.obj 0 [ow] [.str w]))
    (fun z => k19S d3 x y w b t1 .emp (.own (.lst (ks.map .int))) z (.own (.lst (due.map .int))) (cntK ks (N : Int)) .emp) (.val (.obj 0 [ow] [.str w])) (.val (.obj 0 [ow] [.str w])) rfl rfl (by simp [runD, evB, evS, evE, evEs, evXs, asgT_v, asgT_t, asgTs_n, asgTs_c, atD, placeD, k19S]) rfl hk2 rfl rfl (by rw [rng_len]; omega) fun k hk z hz => by
      obtain ⟨k0, k1⟩ := mem_rng.mp hk
      have e := hcell k k0 (by omega)
      subst hz
      exact ⟨_, .val (.tup [.int (ciF b w 0 0 k).1, .int (ciF b w 0 0 k).2]), _, _, rfl, by simp [runD, evB, evS, evE, evEs, evXs, asgT_v, asgT_t, asgTs_n, asgTs_c, atD, placeD, k19S, c_law_right_18_2, e]; rfl, rfl, rfl⟩
  rw [cs] at l2
  generalize htold : (ks.map fun k => D.tup [.int (cellF w.reverse k).1, .int (cellF w.reverse k).2]) = told at l2
  have l3 := ev_lcS (T := TT) (p := some 0) (e := c_law_right_18_3) (t := .v 1) (k := .plain) (its := [.var 7]) (own := [1]) (rs := [.ali 7]) (ds := [.lst (ks.map .int)]) (s := k19S d3 x y w b t1 (.own (.lst told)) (.own (.lst (ks.map .int))) (.val (.obj 0 [ow] [.str w])) (.own (.lst (due.map .int))) (cntK ks (N : Int)) .emp)
    (s1 := k19S d3 x y w b t1 (.own (.lst told)) (.own (.lst (ks.map .int))) (.val (.obj 0 [ow] [.str w])) (.own (.lst (due.map .int))) (cntK ks (N : Int)) .emp)
    (s2 := k19S d3 x y w b t1 (.own (.lst told)) (.val (.lst (ks.map .int))) (.val (.obj 0 [ow] [.str w])) (.own (.lst (due.map .int))) (cntK ks (N : Int)) .emp)
    ks D.int (fun k => .tup [.int (cellF w.reverse k).1, .int (cellF w.reverse k).2]) (fun z => z = .val (.obj 0 [ow] [.str w]))
    (fun z => k19S d3 x y w b .emp (.own (.lst told)) (.val (.lst (ks.map .int))) z (.own (.lst (due.map .int))) (cntK ks (N : Int)) .emp) (.val (.obj 0 [ow] [.str w])) (.val (.obj 0 [ow] [.str w])) rfl rfl (by simp [runD, evB, evS, evE, evEs, evXs, asgT_v, asgT_t, asgTs_n, asgTs_c, atD, placeD, k19S]) rfl rfl (hno _ _ _ _ _ _) rfl (by omega) fun k hk z hz => by
      have e := s_bcell (k := k) wd hlD
      subst hz
      exact ⟨_, .val (.tup [.int (cellF w.reverse k).1, .int (cellF w.reverse k).2]), _, _, rfl, by simp [runD, evB, evS, evE, evEs, evXs, asgT_v, asgT_t, asgTs_n, asgTs_c, atD, placeD, k19S, c_law_right_18_3, e]; rfl, rfl, rfl⟩
  obtain ⟨sh1, sh2, sh3⟩ := cell_show ks (fun k => (cellF w.reverse k).1) (fun k => (cellF w.reverse k).2) bnd (by omega)
  have cki := ck_ints 7 due
  have hNN : N < 16777216 := by omega
  have hkk : ks.length < 16777216 := by omega
  simp only [ite_self] at l2 l3
  rw [htold] at l3 sh1 sh2 sh3
  obtain ⟨rp1, rp2⟩ := rp
  obtain ⟨R1, hR1⟩ : ∃ R, reprD (.lst (due.map .int)) = R := ⟨_, rfl⟩
  obtain ⟨R2, hR2⟩ : ∃ R, reprD (.lst told) = R := ⟨_, rfl⟩
  have st3 : evB TT (some 0) 0 (b_law_right_18.body.drop 4) (k19S d3 x y w b t1 .emp (.own (.lst (ks.map .int))) (.own (.obj 0 [ow] [.str w])) (.own (.lst (due.map .int))) (cntK ks (N : Int)) .emp) = .ok (.rt (.bl true) false) (k19S d3 x y w b t1 (.own (.lst told)) (.val (.lst (ks.map .int))) (.val (.obj 0 [ow] [.str w])) (.own (.lst (due.map .int))) (cntK ks (N : Int)) .emp) := by
    simp only [b_law_right_18, List.drop]
    rw [evB_step (s1 := k19S d3 x y w b t1 .emp (.own (.lst (ks.map .int))) (.val (.obj 0 [ow] [.str w])) (.own (.lst (due.map .int))) (cntK ks (N : Int)) .emp) (by simp [runD, evB, evS, evE, evEs, evXs, asgT_v, asgT_t, asgTs_n, asgTs_c, atD, placeD, l1, k19S, rp1, rp2, cki, hR1]), evB_step (s1 := k19S d3 x y w b t1 (.own (.lst told)) (.own (.lst (ks.map .int))) (.val (.obj 0 [ow] [.str w])) (.own (.lst (due.map .int))) (cntK ks (N : Int)) .emp) (k19_told l2)]
    simp [runD, evB, evS, evE, evEs, evXs, asgT_v, asgT_t, asgTs_n, asgTs_c, atD, placeD, l3, k19S, sh1, sh2, sh3, hR2]
  have all : evB TT (some 0) 0 b_law_right_18.body [.own d, .emp, .emp, .emp, .emp, .emp, .emp, .emp, .emp, .emp, .emp, .emp] = .ok (.rt (.bl true) false) (k19S d3 x y w b t1 (.own (.lst told)) (.val (.lst (ks.map .int))) (.val (.obj 0 [ow] [.str w])) (.own (.lst (due.map .int))) (cntK ks (N : Int)) .emp) := by
    rw [show b_law_right_18.body = b_law_right_18.body.take 3 ++ (.for_ (.v 1) .rng [.bin .shl (.int 1) (.bin .add (.var 3) (.var 4))] l_law_right_18_1 :: b_law_right_18.body.drop 4) from rfl, evB_app st1, evB_step st2, st3]
  exact ⟨d3, tt_run 0 (show runD TT (some 0) 0 b_law_right_18 _ = _ from run_rt all rfl) (by simp), q3⟩
end PyV
set_option Elab.async false
set_option linter.all false
set_option maxRecDepth 100000
set_option maxHeartbeats 4000000
namespace PyV
open PySem
theorem s_count_ahead {a b : Nat} {x y u v : Int} (ha : a ≤ 100) (hb : b ≤ 100) (hab : 0 < a + b) (x0 : 0 ≤ x) (x1 : x < 2 ^ a) (y0 : 0 ≤ y) (y1 : y < 2 ^ b) (u0 : 0 ≤ u) (u1 : u < 2 ^ a) (v0 : 0 ≤ v) (v1 : v < 2 ^ b) :
    TT.G 211 [.int (a : Int), .int (b : Int), .tup [.int x, .int y], .tup [.int u, .int v]] = .ok (.int (cnF a b x y u v)) false none := tt_run 0 (show runD TT none 0 b_count_ahead _ = _ by
  have e1 := s_require_bits (x := (a : Int)) (y := (b : Int)) ⟨by omega, by omega, by omega, by omega, by omega⟩
  have e2 := s_require_cell (a := (a : Int)) (b := (b : Int)) (x := x) (y := y) (by omega) (by omega) (by omega) (by omega) x0 x1 y0 y1
  have e3 := s_require_cell (a := (a : Int)) (b := (b : Int)) (x := u) (y := v) (by omega) (by omega) (by omega) (by omega) u0 u1 v0 v1
  have e4 := s_choices (m := (a : Int) + (b : Int)) (s := (a : Int)) (by omega) (by omega) (by omega) (by omega)
  generalize hE : chF ((a : Int) + (b : Int)) (a : Int) = C at e4
  have st : evB TT none 0 (b_count_ahead.body.take 4) [.val (.int (a : Int)), .val (.int (b : Int)), .val (.tup [.int x, .int y]), .val (.tup [.int u, .int v]), .emp, .emp] = .ok .nx [.val (.int (a : Int)), .val (.int (b : Int)), .val (.tup [.int x, .int y]), .val (.tup [.int u, .int v]), .val (.int C), .emp] := by
    simp [runD, evB, evS, evE, evEs, evXs, asgT_v, asgT_t, asgTs_n, asgTs_c, atD, placeD, b_count_ahead, e1, e2, e3, e4]
  have sp : b_count_ahead.body = b_count_ahead.body.take 4 ++ b_count_ahead.body.drop 4 := rfl
  clear e1 e2 e3 e4
  by_cases h0 : u ≤ x ∧ v ≤ y
  · have hc : cnF a b x y u v = 0 := by unfold cnF; rw [if_pos (.inr h0)]
    rw [hc]
    have fin : evB TT none 0 b_count_ahead.body [.val (.int (a : Int)), .val (.int (b : Int)), .val (.tup [.int x, .int y]), .val (.tup [.int u, .int v]), .emp, .emp] = .ok (.rt (.int 0) false) [.val (.int (a : Int)), .val (.int (b : Int)), .val (.tup [.int x, .int y]), .val (.tup [.int u, .int v]), .val (.int C), .emp] := by
      rw [sp, evB_app st]
      obtain ⟨p, q⟩ := h0
      by_cases hx : x = u
      · subst hx
        by_cases hy : y = v
        · subst hy
          simp [runD, evB, evS, evE, evEs, evXs, asgT_v, asgT_t, asgTs_n, asgTs_c, atD, placeD, b_count_ahead]
        · simp [runD, evB, evS, evE, evEs, evXs, asgT_v, asgT_t, asgTs_n, asgTs_c, atD, placeD, b_count_ahead, q, hy]
      · simp [runD, evB, evS, evE, evEs, evXs, asgT_v, asgT_t, asgTs_n, asgTs_c, atD, placeD, b_count_ahead, p, q, hx]
    exact run_rt fin rfl
  · have hne : ¬ (x = u ∧ y = v) := fun z => h0 ⟨by omega, by omega⟩
    have hn1 : ¬ ((x = u ∧ y = v) ∨ (u ≤ x ∧ v ≤ y)) := fun z => z.elim hne h0
    have hn2 : u ≤ x → ¬ v ≤ y := fun p q => h0 ⟨p, q⟩
    have hn2' : u ≤ x → y < v := fun p => by have := hn2 p; omega
    have hne2 : x = u → ¬ y = v := fun p q => hne ⟨p, q⟩
    by_cases h1 : x ≤ u ∧ y ≤ v
    · have hc : cnF a b x y u v = C := by unfold cnF; rw [if_neg hn1, if_pos h1, hE]
      rw [hc]
      have fin : evB TT none 0 b_count_ahead.body [.val (.int (a : Int)), .val (.int (b : Int)), .val (.tup [.int x, .int y]), .val (.tup [.int u, .int v]), .emp, .emp] = .ok (.rt (.int C) false) [.val (.int (a : Int)), .val (.int (b : Int)), .val (.tup [.int x, .int y]), .val (.tup [.int u, .int v]), .val (.int C), .emp] := by
        rw [sp, evB_app st]
        obtain ⟨p, q⟩ := h1
        by_cases hx : x = u
        · subst hx
          have q1 : ¬ y = v := by omega
          have q2 : ¬ v ≤ y := by omega
          clear hn1 hn2 hn2' hne2 h0 hne
          simp [runD, evB, evS, evE, evEs, evXs, asgT_v, asgT_t, asgTs_n, asgTs_c, atD, placeD, b_count_ahead, q, q1, q2]
        · have q1 : ¬ u ≤ x := by omega
          clear hn1 hn2 hn2' hne2 h0 hne
          simp [runD, evB, evS, evE, evEs, evXs, asgT_v, asgT_t, asgTs_n, asgTs_c, atD, placeD, b_count_ahead, p, q, hx, q1]
      exact run_rt fin rfl
    · have nx : x ≠ u := fun z => by omega
      have ny : y ≠ v := fun z => by omega
      obtain ⟨i, bi, di, hi⟩ := bits_dif x0 x1 u0 u1 nx
      obtain ⟨j, bj, dj, hj⟩ := bits_dif y0 y1 v0 v1 ny
      have e5 := s_ww (a := (a : Int)) (b := (b : Int)) (i := (Builtin.Int.intBits (Builtin.bitXor x u) : Int) - 1) (j := (Builtin.Int.intBits (Builtin.bitXor y v) : Int) - 1) (by omega) (by omega) (by omega) (by omega) (by omega) (by omega) (by omega)
      have hc : cnF a b x y u v = if x < u then wwF a b ((Builtin.Int.intBits (Builtin.bitXor x u) : Int) - 1) ((Builtin.Int.intBits (Builtin.bitXor y v) : Int) - 1) else C - wwF a b ((Builtin.Int.intBits (Builtin.bitXor x u) : Int) - 1) ((Builtin.Int.intBits (Builtin.bitXor y v) : Int) - 1) := by
        unfold cnF
        rw [if_neg hn1, if_neg h1, hE]
      rw [hc]
      clear hc bi bj di dj
      generalize wwF (a : Int) (b : Int) ((Builtin.Int.intBits (Builtin.bitXor x u) : Int) - 1) ((Builtin.Int.intBits (Builtin.bitXor y v) : Int) - 1) = Wv at *
      by_cases hx : x < u
      · have q1 : ¬ u ≤ x := by omega
        have q2 : x ≤ u := by omega
        have q3 : ¬ y ≤ v := by omega
        clear hn1 hn2 hn2' hne2 h0 hne h1 hi hj i j
        rw [if_pos hx]
        have fin : evB TT none 0 b_count_ahead.body [.val (.int (a : Int)), .val (.int (b : Int)), .val (.tup [.int x, .int y]), .val (.tup [.int u, .int v]), .emp, .emp] = .ok (.rt (.int Wv) false) [.val (.int (a : Int)), .val (.int (b : Int)), .val (.tup [.int x, .int y]), .val (.tup [.int u, .int v]), .val (.int C), .val (.int Wv)] := by
          rw [sp, evB_app st]
          simp [runD, evB, evS, evE, evEs, evXs, asgT_v, asgT_t, asgTs_n, asgTs_c, atD, placeD, b_count_ahead, nx, q1, q2, q3, e5, hx]
        exact run_rt fin rfl
      · have q1 : ¬ x ≤ u := by omega
        have q2 : u ≤ x := by omega
        have q3 : ¬ v ≤ y := by omega
        clear hn1 hn2 hn2' hne2 h0 hne h1 hi hj i j
        rw [if_neg hx]
        have fin : evB TT none 0 b_count_ahead.body [.val (.int (a : Int)), .val (.int (b : Int)), .val (.tup [.int x, .int y]), .val (.tup [.int u, .int v]), .emp, .emp] = .ok (.rt (.int (C - Wv)) false) [.val (.int (a : Int)), .val (.int (b : Int)), .val (.tup [.int x, .int y]), .val (.tup [.int u, .int v]), .val (.int C), .val (.int Wv)] := by
          rw [sp, evB_app st]
          simp [runD, evB, evS, evE, evEs, evXs, asgT_v, asgT_t, asgTs_n, asgTs_c, atD, placeD, b_count_ahead, nx, q1, q2, q3, e5, hx]
        exact run_rt fin rfl) (by simp)
end PyV
set_option Elab.async false
set_option linter.all false
set_option maxRecDepth 100000
set_option maxHeartbeats 4000000
namespace PyV
open PySem
/-! ## all words with so many letters of each kind -/
def wordsL (a b : Nat) : Nat → List (List Nat)
  | 0 => [[]]
  | n + 1 => ((wordsL a b n).filter fun w => decide (w.count 120 < a)).map (· ++ [120]) ++ ((wordsL a b n).filter fun w => decide (w.count 121 < b)).map (· ++ [121])
theorem wordsL_len : ∀ (a b n : Nat), (wordsL a b n).length ≤ 2 ^ n ∧ ∀ w ∈ wordsL a b n, w.length = n
  | a, b, 0 => ⟨by simp [wordsL], fun w h => by simp [wordsL] at h; rw [h]; rfl⟩
  | a, b, n + 1 => by
    obtain ⟨h1, h2⟩ := wordsL_len a b n
    refine ⟨?_, fun w h => ?_⟩
    · rw [wordsL, List.length_append, List.length_map, List.length_map, Nat.pow_succ]
      have p := List.length_filter_le (fun w => decide (w.count 120 < a)) (wordsL a b n)
      have q := List.length_filter_le (fun w => decide (w.count 121 < b)) (wordsL a b n)
      omega
    · rw [wordsL, List.mem_append] at h
      rcases h with h | h
      · obtain ⟨v, hv, rfl⟩ := List.mem_map.mp h
        rw [List.length_append, h2 v (List.mem_filter.mp hv).1]
        rfl
      · obtain ⟨v, hv, rfl⟩ := List.mem_map.mp h
        rw [List.length_append, h2 v (List.mem_filter.mp hv).1]
        rfl
theorem lw_turn {n : Nat} {a b : Int} {A B : Nat} (hA : a = A) (hB : b = B) {L : List (List Nat)} {s3 s4 : Sl} (hl : L.length ≤ 100000) (hw : ∀ w ∈ L, w.length ≤ 1000) : ∃ t4, evB TT none n l_law_words_1 [.val (.int a), .val (.int b), .own (.lst (L.map .str)), s3, s4, .emp] =
    .ok .nx [.val (.int a), .val (.int b), .own (.lst (((L.filter fun w => decide (w.count 120 < A)).map (· ++ [120]) ++ (L.filter fun w => decide (w.count 121 < B)).map (· ++ [121])).map .str)), s3, t4, .emp] := by
  subst hA hB
  have l1 := ev_lcP (T := TT) (p := none) (e := c_law_words_1) (c := c_law_words_2) (t := .v 5) (k := .plain) (its := [.var 2]) (own := [5]) (s := [.val (.int (A : Int)), .val (.int (B : Int)), .own (.lst (L.map .str)), s3, s4, .emp]) (rs := [.ali 2]) (ds := [.lst (L.map .str)]) (s1 := [.val (.int (A : Int)), .val (.int (B : Int)), .own (.lst (L.map .str)), s3, s4, .emp]) (s2 := [.val (.int (A : Int)), .val (.int (B : Int)), .val (.lst (L.map .str)), s3, s4, .emp]) L D.str (fun w => .str (w ++ [120])) (fun w => decide (w.count 120 < A)) (by intro h; cases h) (by simp [runD, evB, evS, evE, evEs, evXs, asgT_v, asgT_t, asgTs_n, asgTs_c, atD, placeD]) rfl rfl rfl (by omega) fun w hm => by
    have := hw w hm
    have h2 : w.length + 1 ≤ 16777216 := by omega
    exact ⟨[.val (.int (A : Int)), .val (.int (B : Int)), .val (.lst (L.map .str)), s3, s4, .val (.str w)], rfl, by simp [runD, evB, evS, evE, evEs, evXs, asgT_v, asgT_t, asgTs_n, asgTs_c, atD, placeD, c_law_words_2, tstR], rfl, fun _ => ⟨.val (.str (w ++ [120])), by simp [runD, evB, evS, evE, evEs, evXs, asgT_v, asgT_t, asgTs_n, asgTs_c, atD, placeD, c_law_words_1, h2], rfl⟩⟩
  have l2 := fun x4 => ev_lcP (T := TT) (p := none) (e := c_law_words_3) (c := c_law_words_4) (t := .v 5) (k := .plain) (its := [.var 2]) (own := [5]) (s := [.val (.int (A : Int)), .val (.int (B : Int)), .val (.lst (L.map .str)), s3, x4, .emp]) (rs := [.val (.lst (L.map .str))]) (ds := [.lst (L.map .str)]) (s1 := [.val (.int (A : Int)), .val (.int (B : Int)), .val (.lst (L.map .str)), s3, x4, .emp]) (s2 := [.val (.int (A : Int)), .val (.int (B : Int)), .val (.lst (L.map .str)), s3, x4, .emp]) L D.str (fun w => .str (w ++ [121])) (fun w => decide (w.count 121 < B)) (by intro h; cases h) (by simp [runD, evB, evS, evE, evEs, evXs, asgT_v, asgT_t, asgTs_n, asgTs_c, atD, placeD]) rfl rfl rfl (by omega) fun w hm => by
    have := hw w hm
    have h2 : w.length + 1 ≤ 16777216 := by omega
    exact ⟨[.val (.int (A : Int)), .val (.int (B : Int)), .val (.lst (L.map .str)), s3, x4, .val (.str w)], rfl, by simp [runD, evB, evS, evE, evEs, evXs, asgT_v, asgT_t, asgTs_n, asgTs_c, atD, placeD, c_law_words_4, tstR], rfl, fun _ => ⟨.val (.str (w ++ [121])), by simp [runD, evB, evS, evE, evEs, evXs, asgT_v, asgT_t, asgTs_n, asgTs_c, atD, placeD, c_law_words_3, h2], rfl⟩⟩
  have f1 := List.length_filter_le (fun w : List Nat => decide (w.count 120 < A)) L
  have f2 := List.length_filter_le (fun w : List Nat => decide (w.count 121 < B)) L
  have m1 : (L.filter fun w => decide (w.count 120 < A)).map (fun w => D.str (w ++ [120])) = ((L.filter fun w => decide (w.count 120 < A)).map (· ++ [120])).map .str := by rw [List.map_map]; rfl
  have m2 : (L.filter fun w => decide (w.count 121 < B)).map (fun w => D.str (w ++ [121])) = ((L.filter fun w => decide (w.count 121 < B)).map (· ++ [121])).map .str := by rw [List.map_map]; rfl
  rw [m1] at l1
  simp only [m2] at l2
  have g1 : (((L.filter fun w => decide (w.count 120 < A)).map (· ++ [120]) : List (List Nat)).map D.str).length ≤ 100000 := by rw [List.length_map, List.length_map]; omega
  have g2 : (((L.filter fun w => decide (w.count 121 < B)).map (· ++ [121]) : List (List Nat)).map D.str).length ≤ 100000 := by rw [List.length_map, List.length_map]; omega
  rw [List.map_append]
  generalize ((L.filter fun w => decide (w.count 120 < A)).map (· ++ [120]) : List (List Nat)).map D.str = P at *
  generalize ((L.filter fun w => decide (w.count 121 < B)).map (· ++ [121]) : List (List Nat)).map D.str = Q at *
  generalize L.map D.str = LL at *
  clear m1 m2 f1 f2 hw hl
  refine ⟨.own (.lst P), ?_⟩
  have pq : P.length + Q.length ≤ 16777216 := by omega
  unfold l_law_words_1
  rw [evB_step (s1 := [.val (.int (A : Int)), .val (.int (B : Int)), .val (.lst LL), s3, .own (.lst P), .emp]) (by simp only [evS, l1, R.bind]; simp [runD, evB, evS, evE, evEs, evXs, asgT_v, asgT_t, asgTs_n, asgTs_c, atD, placeD])]
  have l3 := l2 (.own (.lst P))
  have e : evE TT none (.bin .add (.var 4) (.lc c_law_words_3 (.v 5) .plain [.var 2] c_law_words_4 [5])) [.val (.int (A : Int)), .val (.int (B : Int)), .val (.lst LL), s3, .own (.lst P), .emp] = .ok (.own (.lst (P ++ Q))) [.val (.int (A : Int)), .val (.int (B : Int)), .val (.lst LL), s3, .own (.lst P), .emp] := by
    have v : evE TT none (.var 4) [.val (.int (A : Int)), .val (.int (B : Int)), .val (.lst LL), s3, .own (.lst P), .emp] = .ok (.ali 4) [.val (.int (A : Int)), .val (.int (B : Int)), .val (.lst LL), s3, .own (.lst P), .emp] := by simp [runD, evB, evS, evE, evEs, evXs, asgT_v, asgT_t, asgTs_n, asgTs_c, atD, placeD]
    generalize hX : E.lc c_law_words_3 (.v 5) .plain [.var 2] c_law_words_4 [5] = X at *
    simp only [evE, R.bind] at v ⊢
    rw [v]
    simp only [l3, rd, sl?, List.getD, restS_c, restS_n, wipeS_c, wipeS_n]
    simp [binD, pq, lim]
  rw [evB_step (s1 := [.val (.int (A : Int)), .val (.int (B : Int)), .own (.lst (P ++ Q)), s3, .own (.lst P), .emp]) (by simp only [evS, e, R.bind]; simp [runD, evB, evS, evE, evEs, evXs, asgT_v, asgT_t, asgTs_n, asgTs_c, atD, placeD])]
  simp [runD, evB, evS, evE, evEs, evXs, asgT_v, asgT_t, asgTs_n, asgTs_c, atD, placeD]
theorem lw_loop {n : Nat} {A B : Nat} : ∀ (k m : Nat) (xs : List D) (s3 s4 : Sl), xs.length = k → m + k ≤ 16 → ∃ t3 t4, forL (asgT none (.v 3)) (evB TT none n l_law_words_1) xs [.val (.int (A : Int)), .val (.int (B : Int)), .own (.lst ((wordsL A B m).map .str)), s3, s4, .emp] =
    .ok .nx [.val (.int (A : Int)), .val (.int (B : Int)), .own (.lst ((wordsL A B (m + k)).map .str)), t3, t4, .emp]
  | 0, m, xs, s3, s4, hx, _ => by
    rw [List.length_eq_zero_iff] at hx
    subst hx
    exact ⟨s3, s4, rfl⟩
  | k + 1, m, [], s3, s4, hx, _ => by simp at hx
  | k + 1, m, x :: xs, s3, s4, hx, hk => by
    obtain ⟨h1, h2⟩ := wordsL_len A B m
    have h3 : 2 ^ m ≤ 2 ^ 16 := Nat.pow_le_pow_right (by decide) (by omega)
    obtain ⟨t4, e⟩ := lw_turn (n := n) (A := A) (B := B) (L := wordsL A B m) (s3 := .val x) (s4 := s4) rfl rfl (by omega) fun w hw => by
      have := h2 w hw
      omega
    obtain ⟨t3, t5, e2⟩ := lw_loop (n := n) (A := A) (B := B) k (m + 1) xs (.val x) t4 (by simpa using hx) (by omega)
    refine ⟨t3, t5, ?_⟩
    rw [forL_step rfl e, show m + (k + 1) = m + 1 + k by omega]
    exact e2
theorem s_law_words {A B : Nat} (h : A + B ≤ 16) : TT.G 212 [.int (A : Int), .int (B : Int)] = .ok (.lst ((wordsL A B (A + B)).map .str)) true none := tt_run 0 (show runD TT none 0 b_law_words _ = _ by
  have q := big62_b (i := (A : Int) + (B : Int)) (by omega) (by omega)
  obtain ⟨t3, t4, e⟩ := lw_loop (n := 0) (A := A) (B := B) (A + B) 0 (irange 0 ((A : Int) + (B : Int)).toNat 1) .emp .emp (by simp; omega) (by omega)
  rw [Nat.zero_add] at e
  have st : evS TT none 0 (.for_ (.v 3) .rng [.bin .add (.var 0) (.var 1)] l_law_words_1) [.val (.int (A : Int)), .val (.int (B : Int)), .own (.lst [.str []]), .emp, .emp, .emp] = .ok .nx [.val (.int (A : Int)), .val (.int (B : Int)), .own (.lst ((wordsL A B (A + B)).map .str)), t3, t4, .emp] := by
    rw [evS_for (rs := [.val (.int ((A : Int) + (B : Int)))]) (ds := [.int ((A : Int) + (B : Int))]) (xs := irange 0 ((A : Int) + (B : Int)).toNat 1) (s1 := [.val (.int (A : Int)), .val (.int (B : Int)), .own (.lst [.str []]), .emp, .emp, .emp]) (s2 := [.val (.int (A : Int)), .val (.int (B : Int)), .own (.lst [.str []]), .emp, .emp, .emp]) (by simp [runD, evB, evS, evE, evEs, evXs, asgT_v, asgT_t, asgTs_n, asgTs_c, atD, placeD]) rfl (by simp only [itemsD, q, if_true])]
    exact e
  generalize (wordsL A B (A + B)).map D.str = W at *
  have fin : evB TT none 0 b_law_words.body [.val (.int (A : Int)), .val (.int (B : Int)), .emp, .emp, .emp, .emp] = .ok (.rt (.lst W) true) [.val (.int (A : Int)), .val (.int (B : Int)), .emp, t3, t4, .emp] := by
    unfold b_law_words
    rw [evB_step (s1 := [.val (.int (A : Int)), .val (.int (B : Int)), .own (.lst [.str []]), .emp, .emp, .emp]) (by simp [runD, evB, evS, evE, evEs, evXs, asgT_v, asgT_t, asgTs_n, asgTs_c, atD, placeD]), evB_step st]
    simp [runD, evB, evS, evE, evEs, evXs, asgT_v, asgT_t, asgTs_n, asgTs_c, atD, placeD]
  exact run_rt fin rfl) (by simp)
/-! ## how many of them have the one key less -/
def lessW (x y u v : Int) (w : List Nat) : Bool := decide (kF w.reverse x y < kF w.reverse u v)
theorem due_loop {n : Nat} {p q : Sl} {x y u v : Int} : ∀ (W : List (List Nat)) (f : Int) (s5 : Sl), (∀ w ∈ W, Wd w ∧ w.length ≤ 1000) → ∃ t5, forL (asgT none (.v 5)) (evB TT none n l_law_right_25_1) (W.map .str) [p, q, .val (.tup [.int x, .int y]), .val (.tup [.int u, .int v]), .val (.int f), s5] =
    .ok .nx [p, q, .val (.tup [.int x, .int y]), .val (.tup [.int u, .int v]), .val (.int (f + ((W.filter (lessW x y u v)).length : Int))), t5]
  | [], f, s5, _ => ⟨s5, by simp [forL]⟩
  | w :: W, f, s5, h => by
    obtain ⟨wd, hl⟩ := h w List.mem_cons_self
    have e1 := s_bkey (x := x) (y := y) wd hl
    have e2 := s_bkey (x := u) (y := v) wd hl
    have ih := fun f => due_loop (n := n) (p := p) (q := q) (x := x) (y := y) (u := u) (v := v) W f (.val (.str w)) fun w hw => h w (List.mem_cons_of_mem _ hw)
    rw [List.map_cons, List.filter_cons]
    cases hk : lessW x y u v w with
    | true =>
      have hk2 : kF w.reverse x y < kF w.reverse u v := by simpa [lessW] using hk
      obtain ⟨t5, e⟩ := ih (f + 1)
      generalize kF w.reverse x y = K1 at *
      generalize kF w.reverse u v = K2 at *
      refine ⟨t5, ?_⟩
      rw [forL_step (s1 := [p, q, .val (.tup [.int x, .int y]), .val (.tup [.int u, .int v]), .val (.int f), .val (.str w)]) (s2 := [p, q, .val (.tup [.int x, .int y]), .val (.tup [.int u, .int v]), .val (.int (f + 1)), .val (.str w)]) rfl (by simp [runD, evB, evS, evE, evEs, evXs, asgT_v, asgT_t, asgTs_n, asgTs_c, atD, placeD, l_law_right_25_1, e1, e2, hk2]), e, if_pos rfl, List.length_cons, show f + 1 + ((W.filter (lessW x y u v)).length : Int) = f + (((W.filter (lessW x y u v)).length + 1 : Nat) : Int) by omega]
    | false =>
      have hk2 : ¬ kF w.reverse x y < kF w.reverse u v := by simpa [lessW] using hk
      obtain ⟨t5, e⟩ := ih f
      generalize kF w.reverse x y = K1 at *
      generalize kF w.reverse u v = K2 at *
      refine ⟨t5, ?_⟩
      rw [forL_step (s1 := [p, q, .val (.tup [.int x, .int y]), .val (.tup [.int u, .int v]), .val (.int f), .val (.str w)]) (s2 := [p, q, .val (.tup [.int x, .int y]), .val (.tup [.int u, .int v]), .val (.int f), .val (.str w)]) rfl (by simp [runD, evB, evS, evE, evEs, evXs, asgT_v, asgT_t, asgTs_n, asgTs_c, atD, placeD, l_law_right_25_1, e1, e2, hk2]), e]
      rfl
/-- all grids of up to four letters of each kind, looked through -/
theorem words_ok : ∀ a : Fin 5, ∀ b : Fin 5, ((wordsL a b (a + b)).all fun w => w.all (fun c => c == 120 || c == 121) && w.count 120 == a.val && w.count 121 == b.val) = true := by decide +kernel
theorem words_many : ∀ a : Fin 5, ∀ b : Fin 5, ((wordsL a b (a + b)).length : Int) = chF ((a.val : Int) + (b.val : Int)) (a.val : Int) := by decide +kernel
theorem words_hi : ∀ a : Fin 5, ∀ b : Fin 5, ∀ i : Fin 4, ∀ j : Fin 4, i.val < a.val → j.val < b.val → (((wordsL a b (a + b)).filter fun w => hiW w.reverse i j).length : Int) = wwF (a.val : Int) (b.val : Int) (i.val : Int) (j.val : Int) := by decide +kernel
theorem filter_not {α : Type} (p : α → Bool) : ∀ l : List α, (l.filter p).length + (l.filter fun a => !p a).length = l.length
  | [] => rfl
  | a :: l => by
    have := filter_not p l
    rw [List.filter_cons, List.filter_cons]
    cases p a <;> simp <;> omega
theorem due_eq {a b : Nat} {x y u v : Int} (ha : a ≤ 4) (hb : b ≤ 4) (x0 : 0 ≤ x) (x1 : x < 2 ^ a) (y0 : 0 ≤ y) (y1 : y < 2 ^ b) (u0 : 0 ≤ u) (u1 : u < 2 ^ a) (v0 : 0 ≤ v) (v1 : v < 2 ^ b) :
    (((wordsL a b (a + b)).filter (lessW x y u v)).length : Int) = cnF a b x y u v ∧ ∀ w ∈ wordsL a b (a + b), Wd w ∧ w.length ≤ 1000 := by
  have ok := words_ok ⟨a, by omega⟩ ⟨b, by omega⟩
  have many := words_many ⟨a, by omega⟩ ⟨b, by omega⟩
  have hiA := fun (i j : Fin 4) (hi : i.val < a) (hj : j.val < b) => words_hi ⟨a, by omega⟩ ⟨b, by omega⟩ i j hi hj
  simp only at ok many hiA
  have wl := (wordsL_len a b (a + b)).2
  rw [List.all_eq_true] at ok
  have ok2 : ∀ w ∈ wordsL a b (a + b), Wd w ∧ Gd w.reverse x y ∧ Gd w.reverse u v := fun w hw => by
    have h := ok w hw
    simp only [Bool.and_eq_true, List.all_eq_true, Bool.or_eq_true, beq_iff_eq] at h
    obtain ⟨⟨h1, h2⟩, h3⟩ := h
    refine ⟨h1, ?_, ?_⟩
    · unfold Gd
      rw [List.count_reverse, List.count_reverse, h2, h3]
      exact ⟨x0, x1, y0, y1⟩
    · unfold Gd
      rw [List.count_reverse, List.count_reverse, h2, h3]
      exact ⟨u0, u1, v0, v1⟩
  refine ⟨?_, fun w hw => ⟨(ok2 w hw).1, by have := wl w hw; omega⟩⟩
  generalize hW : wordsL a b (a + b) = W at *
  unfold cnF
  by_cases h0 : (x = u ∧ y = v) ∨ (u ≤ x ∧ v ≤ y)
  · rw [if_pos h0]
    have : W.filter (lessW x y u v) = [] := by
      rw [List.filter_eq_nil_iff]
      intro w hw
      obtain ⟨wd, g1, g2⟩ := ok2 w hw
      have := kF_mono wd.rev g2 g1 (by omega) (by omega)
      unfold lessW
      simp only [decide_eq_true_eq]
      omega
    rw [this]
    rfl
  · rw [if_neg h0]
    by_cases h1 : x ≤ u ∧ y ≤ v
    · rw [if_pos h1]
      have : W.filter (lessW x y u v) = W := by
        rw [List.filter_eq_self]
        intro w hw
        obtain ⟨wd, g1, g2⟩ := ok2 w hw
        have m := kF_mono wd.rev g1 g2 h1.1 h1.2
        have n : kF w.reverse x y ≠ kF w.reverse u v := fun e => h0 (.inl (kF_inj wd.rev g1 g2 e))
        unfold lessW
        simp only [decide_eq_true_eq]
        omega
      rw [this]
      exact many
    · rw [if_neg h1]
      have nx : x ≠ u := by omega
      have ny : y ≠ v := by omega
      obtain ⟨i, bi, di, hi⟩ := bits_dif x0 x1 u0 u1 nx
      obtain ⟨j, bj, dj, hj⟩ := bits_dif y0 y1 v0 v1 ny
      rw [bi, bj, show (((i + 1 : Nat) : Int) - 1) = (i : Int) by omega, show (((j + 1 : Nat) : Int) - 1) = (j : Int) by omega]
      have hh := hiA ⟨i, by omega⟩ ⟨j, by omega⟩ hi hj
      simp only at hh
      by_cases hx : x < u
      · rw [if_pos hx, ← hh]
        congr 2
        refine List.filter_congr fun w hw => ?_
        obtain ⟨wd, g1, g2⟩ := ok2 w hw
        have k := kF_hi wd.rev g1 g2 di dj
        unfold lessW
        cases hq : hiW w.reverse i j with
        | true => rw [hq] at k; simp only [if_true] at k; simpa using k.mpr hx
        | false => rw [hq] at k; simp only [Bool.false_eq_true, if_false] at k; simp only [decide_eq_false_iff_not]; omega
      · rw [if_neg hx, ← hh, ← many]
        have fn := filter_not (fun w : List Nat => hiW w.reverse i j) W
        have e : W.filter (lessW x y u v) = W.filter fun w => !hiW w.reverse i j := List.filter_congr fun w hw => by
          obtain ⟨wd, g1, g2⟩ := ok2 w hw
          have k := kF_hi wd.rev g1 g2 di dj
          unfold lessW
          cases hq : hiW w.reverse i j with
          | true => rw [hq] at k; simp only [if_true] at k; simp only [Bool.not_true, decide_eq_false_iff_not]; omega
          | false => rw [hq] at k; simp only [Bool.false_eq_true, if_false] at k; simp only [Bool.not_false, decide_eq_true_eq]; omega
        rw [e]
        omega
theorem cnF_bd {a b : Nat} {x y u v : Int} (ha : a ≤ 4) (hb : b ≤ 4) (x0 : 0 ≤ x) (x1 : x < 2 ^ a) (y0 : 0 ≤ y) (y1 : y < 2 ^ b) (u0 : 0 ≤ u) (u1 : u < 2 ^ a) (v0 : 0 ≤ v) (v1 : v < 2 ^ b) : 0 ≤ cnF a b x y u v ∧ cnF a b x y u v ≤ 256 := by
  have e := (due_eq ha hb x0 x1 y0 y1 u0 u1 v0 v1).1
  have l := List.length_filter_le (lessW x y u v) (wordsL a b (a + b))
  have l2 := (wordsL_len a b (a + b)).1
  have l3 : 2 ^ (a + b) ≤ 2 ^ 8 := Nat.pow_le_pow_right (by decide) (by omega)
  omega
end PyV
set_option Elab.async false
set_option linter.all false
set_option maxRecDepth 100000
set_option maxHeartbeats 4000000
namespace PyV
open PySem
theorem repr_eq {n : Nat} {p : Option Nat} {d : D} {e1 e2 : E} {s s1 s2 : Ss} (h1 : evE TT p e1 s = .ok (.val d) s1) (h2 : evE TT p e2 s1 = .ok (.val d) s2) (q1 : showOk d = true) (q2 : szD d ≤ 16777216) (q3 : ck 8 d = true) :
    evB TT p n [.ret (.cmp .eq (.bi .repr [e1]) (.bi .repr [e2]))] s = .ok (.rt (.bl true) false) s2 := by
  obtain ⟨Q, hQ⟩ : ∃ Q, reprD d = Q := ⟨_, rfl⟩
  simp [runD, evB, evS, evE, evEs, evXs, asgT_v, asgT_t, asgTs_n, asgTs_c, atD, placeD, h1, h2, q1, q2, q3, hQ]
theorem s_k27_right {a b : Nat} {x y u v : Int} (ha : a ≤ 4) (hb : b ≤ 4) (hab : 0 < a + b) (x0 : 0 ≤ x) (x1 : x < 2 ^ a) (y0 : 0 ≤ y) (y1 : y < 2 ^ b) (u0 : 0 ≤ u) (u1 : u < 2 ^ a) (v0 : 0 ≤ v) (v1 : v < 2 ^ b) :
    TT.G 213 [.int (a : Int), .int (b : Int), .tup [.int x, .int y], .tup [.int u, .int v]] = .ok (.bl true) false none := tt_run 0 (show runD TT none 0 b_law_right_25 _ = _ by
  have e1 := s_law_words (A := a) (B := b) (by omega)
  have e2 := s_count_ahead (by omega) (by omega) hab x0 x1 y0 y1 u0 u1 v0 v1
  obtain ⟨due, ok⟩ := due_eq ha hb x0 x1 y0 y1 u0 u1 v0 v1
  obtain ⟨c0, c1⟩ := cnF_bd ha hb x0 x1 y0 y1 u0 u1 v0 v1
  obtain ⟨t5, e3⟩ := due_loop (n := 0) (p := .val (.int (a : Int))) (q := .val (.int (b : Int))) (x := x) (y := y) (u := u) (v := v) (wordsL a b (a + b)) 0 .emp ok
  rw [due, Int.zero_add] at e3
  clear due ok
  generalize cnF a b x y u v = N at *
  generalize (wordsL a b (a + b)).map D.str = W at *
  have st : evS TT none 0 (.for_ (.v 5) .plain [.call 212 [.var 0, .var 1]] l_law_right_25_1) [.val (.int (a : Int)), .val (.int (b : Int)), .val (.tup [.int x, .int y]), .val (.tup [.int u, .int v]), .val (.int 0), .emp] = .ok .nx [.val (.int (a : Int)), .val (.int (b : Int)), .val (.tup [.int x, .int y]), .val (.tup [.int u, .int v]), .val (.int N), t5] := by
    rw [evS_for (rs := [.own (.lst W)]) (ds := [.lst W]) (xs := W) (s1 := [.val (.int (a : Int)), .val (.int (b : Int)), .val (.tup [.int x, .int y]), .val (.tup [.int u, .int v]), .val (.int 0), .emp]) (s2 := [.val (.int (a : Int)), .val (.int (b : Int)), .val (.tup [.int x, .int y]), .val (.tup [.int u, .int v]), .val (.int 0), .emp]) (by simp [runD, evB, evS, evE, evEs, evXs, asgT_v, asgT_t, asgTs_n, asgTs_c, atD, placeD, e1]) rfl rfl]
    exact e3
  have so := showOk_b (i := N) (by omega) (by omega)
  have fin : evB TT none 0 b_law_right_25.body [.val (.int (a : Int)), .val (.int (b : Int)), .val (.tup [.int x, .int y]), .val (.tup [.int u, .int v]), .emp, .emp] = .ok (.rt (.bl true) false) [.val (.int (a : Int)), .val (.int (b : Int)), .val (.tup [.int x, .int y]), .val (.tup [.int u, .int v]), .val (.int N), t5] := by
    unfold b_law_right_25
    rw [evB_step (s1 := [.val (.int (a : Int)), .val (.int (b : Int)), .val (.tup [.int x, .int y]), .val (.tup [.int u, .int v]), .val (.int 0), .emp]) (by simp [runD, evB, evS, evE, evEs, evXs, asgT_v, asgT_t, asgTs_n, asgTs_c, atD, placeD]), evB_step st]
    exact repr_eq (d := .int N) (s1 := [.val (.int (a : Int)), .val (.int (b : Int)), .val (.tup [.int x, .int y]), .val (.tup [.int u, .int v]), .val (.int N), t5]) (by simp [runD, evB, evS, evE, evEs, evXs, asgT_v, asgT_t, asgTs_n, asgTs_c, atD, placeD, e2]) (by simp [runD, evB, evS, evE, evEs, evXs, asgT_v, asgT_t, asgTs_n, asgTs_c, atD, placeD]) (by simp only [showOk, so, decide_true]) (by simp only [szD]; decide) rfl
  exact run_rt fin rfl) (by simp)
theorem s_some_cell {d : D} {a b : Nat} (hd : Bag d) (ha : a ≤ 100) (hb : b ≤ 100) : ∃ x y d', TT.G 214 [d, .int (a : Int), .int (b : Int)] = .ok (.tup [.int x, .int y]) false (some d') ∧ 0 ≤ x ∧ x < 2 ^ a ∧ 0 ≤ y ∧ y < 2 ^ b ∧ Bag d' := by
  have pa := p2 a
  have pb := p2 b
  have qa := pow2_le ha
  have qb := pow2_le hb
  have big : (2 : Int) ^ 100 ≤ 2 ^ 250 := by decide
  obtain ⟨x, d1, e1, x0, x1, q1⟩ := s_pick (m := 2 ^ a) hd pa (by omega)
  obtain ⟨y, d2, e2, y0, y1, q2⟩ := s_pick (m := 2 ^ b) q1 pb (by omega)
  have s1 := shlOk_one (a := (a : Int)) (by omega) (by omega)
  have s2 := shlOk_one (a := (b : Int)) (by omega) (by omega)
  clear big qa qb
  exact ⟨x, y, d2, tt_run 0 (show runD TT (some 0) 0 b_law_some_cell _ = _ by simp [runD, evB, evS, evE, evEs, evXs, asgT_v, asgT_t, asgTs_n, asgTs_c, atD, placeD, b_law_some_cell, e1, e2, s1, s2]) (by simp), x0, x1, y0, y1, q2⟩
@[reducible] def k27S (s0 s2 s3 : Sl) (d : D) (M : Int) (s6 s8 s9 s10 s11 : Sl) : Ss := [s0, .emp, s2, s3, .own d, .val (.int M), s6, .emp, s8, s9, s10, s11]
theorem k27_turn {n : Nat} {s0 s2 s3 s6 s8 s9 s10 s11 : Sl} {d : D} {M : Int} (hd : Bag d) (h1 : 3 ≤ M) (h2 : M ≤ 4) : ∃ d' t8 t9 t10 t11, evB TT none n l_law_24_1 (k27S s0 s2 s3 d M s6 s8 s9 s10 s11) = .ok .nx (k27S s0 s2 s3 d' M s6 t8 t9 t10 t11) ∧ Bag d' := by
  obtain ⟨a, d1, e1, a0, a1, q1⟩ := s_pick (m := M + 1) hd (by omega) (by omega)
  obtain ⟨b, d2, e2, b0, b1, q2⟩ := s_pick (m := M) q1 (by omega) (by omega)
  obtain ⟨A, rfl⟩ := Int.eq_ofNat_of_zero_le a0
  obtain ⟨B, rfl⟩ := Int.eq_ofNat_of_zero_le b0
  obtain ⟨x, y, d3, e3, x0, x1, y0, y1, q3⟩ := s_some_cell (a := A) (b := 1 + B) q2 (by omega) (by omega)
  obtain ⟨u, v, d4, e4, u0, u1, v0, v1, q4⟩ := s_some_cell (a := A) (b := 1 + B) q3 (by omega) (by omega)
  have r1 := s_k27_right (a := A) (b := 1 + B) (by omega) (by omega) (by omega) x0 x1 y0 y1 u0 u1 v0 v1
  have r2 := s_k27_right (a := A) (b := 1 + B) (by omega) (by omega) (by omega) x0 x1 y0 y1 x0 x1 y0 y1
  have r3 := s_k27_right (a := 1 + B) (b := A) (by omega) (by omega) (by omega) y0 y1 x0 x1 v0 v1 u0 u1
  have hB : ((1 + B : Nat) : Int) = 1 + (B : Int) := by omega
  rw [hB] at e3 e4 r1 r2 r3
  clear x0 x1 y0 y1 u0 u1 v0 v1 a0 a1 b0 b1 hB
  exact ⟨d4, _, _, _, _, by simp [runD, evB, evS, evE, evEs, evXs, asgT_v, asgT_t, asgTs_n, asgTs_c, atD, placeD, l_law_24_1, e1, e2, e3, e4, r1, r2, r3]; exact ⟨rfl, rfl, rfl, rfl⟩, q4⟩
theorem mem_enumD {k : Nat} : ∀ {ds : List D} {d : D}, d ∈ enumD k ds → ∃ (i : Nat) (e : D), e ∈ ds ∧ d = .tup [.int (i : Int), e]
  | [], d, h => by simp at h
  | a :: ds, d, h => by
    rw [enumD, List.mem_cons] at h
    rcases h with rfl | h
    · exact ⟨k, a, List.mem_cons_self, rfl⟩
    · obtain ⟨i, e, h1, h2⟩ := mem_enumD (k := k + 1) h
      exact ⟨i, e, List.mem_cons_of_mem _ h1, h2⟩
theorem k27_cell {n : Nat} {s0 s4 s5 s6 s8 s9 s10 s11 : Sl} {i : Nat} {z : Int} : ∃ t4 t5 t6 t8 t9 t10 t11, evB TT none n l_law_24_2 [s0, .emp, .val (.int (i : Int)), .val (.int z), s4, s5, s6, .emp, s8, s9, s10, s11] = .ok .nx [s0, .emp, .val (.int (i : Int)), .val (.int z), t4, t5, t6, .emp, t8, t9, t10, t11] := by
  obtain ⟨d, e1, q⟩ := s_bag z
  obtain ⟨M, hM, h1, h2⟩ : ∃ M : Int, M = 3 + (if (i : Int) = 0 then 1 else 0) ∧ 3 ≤ M ∧ M ≤ 4 := ⟨_, rfl, by split <;> omega, by split <;> omega⟩
  obtain ⟨s', ef, d', t6, t8, t9, t10, t11, rfl, q'⟩ := for_keep (st := asgT none (.v 6)) (body := evB TT none n l_law_24_1) (fun s => ∃ d t6 t8 t9 t10 t11, s = k27S s0 (.val (.int (i : Int))) (.val (.int z)) d M t6 t8 t9 t10 t11 ∧ Bag d) (xs := irange 0 8 1) (s := k27S s0 (.val (.int (i : Int))) (.val (.int z)) d M s6 s8 s9 s10 s11) ⟨_, _, _, _, _, _, rfl, q⟩ fun x hx s ⟨d, t6, t8, t9, t10, t11, hs, hq⟩ => by
    subst hs
    obtain ⟨d', r8, r9, r10, r11, e, q'⟩ := k27_turn (n := n) (s0 := s0) (s2 := .val (.int (i : Int))) (s3 := .val (.int z)) (s6 := .val x) (s8 := t8) (s9 := t9) (s10 := t10) (s11 := t11) hq h1 h2
    exact ⟨_, _, rfl, e, d', _, _, _, _, _, rfl, q'⟩
  refine ⟨.own d', .val (.int M), t6, t8, t9, t10, t11, ?_⟩
  unfold l_law_24_2
  rw [evB_step (s1 := [s0, .emp, .val (.int (i : Int)), .val (.int z), .own d, s5, s6, .emp, s8, s9, s10, s11]) (by simp [runD, evB, evS, evE, evEs, evXs, asgT_v, asgT_t, asgTs_n, asgTs_c, atD, placeD, e1]),
    evB_step (s1 := k27S s0 (.val (.int (i : Int))) (.val (.int z)) d M s6 s8 s9 s10 s11) (by rw [hM]; by_cases hi : (i : Int) = 0 <;> simp [runD, evB, evS, evE, evEs, evXs, asgT_v, asgT_t, asgTs_n, asgTs_c, atD, placeD, hi]),
    evB_step (s1 := k27S s0 (.val (.int (i : Int))) (.val (.int z)) d' M t6 t8 t9 t10 t11) (by
      rw [evS_for (rs := [.val (.int 8)]) (ds := [.int 8]) (xs := irange 0 8 1) (s1 := k27S s0 (.val (.int (i : Int))) (.val (.int z)) d M s6 s8 s9 s10 s11) (s2 := k27S s0 (.val (.int (i : Int))) (.val (.int z)) d M s6 s8 s9 s10 s11) (by simp [runD, evB, evS, evE, evEs, evXs, asgT_v, asgT_t, asgTs_n, asgTs_c, atD, placeD]) rfl (by rfl), ef])]
  simp [runD, evB, evS, evE, evEs, evXs, asgT_v, asgT_t, asgTs_n, asgTs_c, atD, placeD]
theorem law_true : ∀ ns : List Int, ns.length ≤ 63 → TT.G 215 [.lst (ns.map .int)] = .ok (.bl true) false none := fun ns hns => by
  obtain ⟨s', ef, t2, t3, t4, t5, t6, t8, t9, t10, t11, rfl⟩ := for_keep (st := asgT none (.tup [.v 2, .v 3])) (body := evB TT none 0 l_law_24_2) (fun s => ∃ t2 t3 t4 t5 t6 t8 t9 t10 t11, s = [.val (.lst (ns.map .int)), .emp, t2, t3, t4, t5, t6, .emp, t8, t9, t10, t11]) (xs := enumD 0 ((ns.take 6 ++ [0]).map .int)) (s := [.val (.lst (ns.map .int)), .emp, .emp, .emp, .emp, .emp, .emp, .emp, .emp, .emp, .emp, .emp]) ⟨_, _, _, _, _, _, _, _, _, rfl⟩ fun x hx s ⟨t2, t3, t4, t5, t6, t8, t9, t10, t11, hs⟩ => by
    subst hs
    obtain ⟨i, e, he, rfl⟩ := mem_enumD hx
    obtain ⟨z, _, rfl⟩ := List.mem_map.mp he
    obtain ⟨r4, r5, r6, r8, r9, r10, r11, e⟩ := k27_cell (n := 0) (s0 := .val (.lst (ns.map .int))) (s4 := t4) (s5 := t5) (s6 := t6) (s8 := t8) (s9 := t9) (s10 := t10) (s11 := t11) (i := i) (z := z)
    exact ⟨[.val (.lst (ns.map .int)), .emp, .val (.int (i : Int)), .val (.int z), t4, t5, t6, .emp, t8, t9, t10, t11], _, rfl, e, _, _, _, _, _, _, _, _, _, rfl⟩
  have st : evS TT none 0 (.for_ (.tup [.v 2, .v 3]) .enm [.bin .add (.slc (.var 0) .nop (.int 6)) (.lst [.int 0])] l_law_24_2) [.val (.lst (ns.map .int)), .emp, .emp, .emp, .emp, .emp, .emp, .emp, .emp, .emp, .emp, .emp] = .ok .nx [.val (.lst (ns.map .int)), .emp, t2, t3, t4, t5, t6, .emp, t8, t9, t10, t11] := by
    rw [evS_for (script_cut (C := 6) (Ci := 6) hns rfl) rfl rfl]
    exact ef
  have c1 := s_count_ahead (a := 2) (b := 2) (x := 1) (y := 0) (u := 0) (v := 1) (by decide) (by decide) (by decide) (by decide) (by decide) (by decide) (by decide) (by decide) (by decide) (by decide) (by decide)
  have c2 := s_count_ahead (a := 2) (b := 2) (x := 1) (y := 0) (u := 0) (v := 2) (by decide) (by decide) (by decide) (by decide) (by decide) (by decide) (by decide) (by decide) (by decide) (by decide) (by decide)
  have c3 := s_count_ahead (a := 2) (b := 2) (x := 1) (y := 0) (u := 3) (v := 0) (by decide) (by decide) (by decide) (by decide) (by decide) (by decide) (by decide) (by decide) (by decide) (by decide) (by decide)
  have v1 : cnF (2 : Nat) (2 : Nat) 1 0 0 1 = 3 := by decide +kernel
  have v2 : cnF (2 : Nat) (2 : Nat) 1 0 0 2 = 5 := by decide +kernel
  have v3 : cnF (2 : Nat) (2 : Nat) 1 0 3 0 = 6 := by decide +kernel
  rw [v1, show ((2 : Nat) : Int) = 2 from rfl] at c1
  rw [v2, show ((2 : Nat) : Int) = 2 from rfl] at c2
  rw [v3, show ((2 : Nat) : Int) = 2 from rfl] at c3
  have lc := ev_lc (T := TT) (p := none) (e := c_law_24_1) (t := .v 7) (k := .plain) (its := [.tup [.tup [.int 0, .int 1], .tup [.int 0, .int 2], .tup [.int 3, .int 0]]]) (own := [7]) (s := [.val (.lst (ns.map .int)), .emp, t2, t3, t4, t5, t6, .emp, t8, t9, t10, t11]) (s1 := [.val (.lst (ns.map .int)), .emp, t2, t3, t4, t5, t6, .emp, t8, t9, t10, t11]) (s2 := [.val (.lst (ns.map .int)), .emp, t2, t3, t4, t5, t6, .emp, t8, t9, t10, t11]) (rs := [.val (.tup [.tup [.int 0, .int 1], .tup [.int 0, .int 2], .tup [.int 3, .int 0]])]) (ds := [.tup [.tup [.int 0, .int 1], .tup [.int 0, .int 2], .tup [.int 3, .int 0]]]) [(0, 1, 3), (0, 2, 5), (3, 0, 6)] (fun q : Int × Int × Int => D.tup [.int q.1, .int q.2.1]) (fun q => D.int q.2.2) (by simp [runD, evB, evS, evE, evEs, evXs, asgT_v, asgT_t, asgTs_n, asgTs_c, atD, placeD]) rfl rfl rfl (by simp) fun a ha => by
    have : a = (0, 1, 3) ∨ a = (0, 2, 5) ∨ a = (3, 0, 6) := by simpa using ha
    rcases this with rfl | rfl | rfl
    · exact ⟨[.val (.lst (ns.map .int)), .emp, t2, t3, t4, t5, t6, .val (.tup [.int 0, .int 1]), t8, t9, t10, t11], rfl, rfl, .val (.int 3), by simp [runD, evB, evS, evE, evEs, evXs, asgT_v, asgT_t, asgTs_n, asgTs_c, atD, placeD, c_law_24_1, c1], rfl⟩
    · exact ⟨[.val (.lst (ns.map .int)), .emp, t2, t3, t4, t5, t6, .val (.tup [.int 0, .int 2]), t8, t9, t10, t11], rfl, rfl, .val (.int 5), by simp [runD, evB, evS, evE, evEs, evXs, asgT_v, asgT_t, asgTs_n, asgTs_c, atD, placeD, c_law_24_1, c2], rfl⟩
    · exact ⟨[.val (.lst (ns.map .int)), .emp, t2, t3, t4, t5, t6, .val (.tup [.int 3, .int 0]), t8, t9, t10, t11], rfl, rfl, .val (.int 6), by simp [runD, evB, evS, evE, evEs, evXs, asgT_v, asgT_t, asgTs_n, asgTs_c, atD, placeD, c_law_24_1, c3], rfl⟩
  have fin : evB TT none 0 (b_law_24.body.drop 1) [.val (.lst (ns.map .int)), .emp, t2, t3, t4, t5, t6, .emp, t8, t9, t10, t11] = .ok (.rt (.bl true) false) [.val (.lst (ns.map .int)), .own (.lst [.int 3, .int 5, .int 6]), t2, t3, t4, t5, t6, .emp, t8, t9, t10, t11] := by
    simp only [b_law_24, List.drop]
    rw [evB_step (s1 := [.val (.lst (ns.map .int)), .own (.lst [.int 3, .int 5, .int 6]), t2, t3, t4, t5, t6, .emp, t8, t9, t10, t11]) (by simp only [evS, lc, R.bind]; simp [runD, evB, evS, evE, evEs, evXs, asgT_v, asgT_t, asgTs_n, asgTs_c, atD, placeD])]
    simp [runD, evB, evS, evE, evEs, evXs, asgT_v, asgT_t, asgTs_n, asgTs_c, atD, placeD]
  have all : evB TT none 0 b_law_24.body [.val (.lst (ns.map .int)), .emp, .emp, .emp, .emp, .emp, .emp, .emp, .emp, .emp, .emp, .emp] = .ok (.rt (.bl true) false) [.val (.lst (ns.map .int)), .own (.lst [.int 3, .int 5, .int 6]), t2, t3, t4, t5, t6, .emp, t8, t9, t10, t11] := by
    rw [show b_law_24.body = .for_ (.tup [.v 2, .v 3]) .enm [.bin .add (.slc (.var 0) .nop (.int 6)) (.lst [.int 0])] l_law_24_2 :: b_law_24.body.drop 1 from rfl, evB_step st, fin]
  exact tt_run 0 (show runD TT none 0 b_law_24 _ = _ from run_rt all rfl) (by simp)
end PyV
set_option Elab.async false
set_option linter.all false
set_option maxRecDepth 100000
set_option maxHeartbeats 4000000
namespace PyV
open PySem
open PySem L2 in
def topS (i : Nat) : Stmt := PySem.Challenge.pw_lacekeys_k27_cells_in_order_by_all_words.main.body.getD i (.Pass ⟨0, 0, 0, 0⟩)
abbrev st_is_int : Stmt := topS 5
abbrev st_is_whole : Stmt := topS 6
abbrev st_require_bits : Stmt := topS 9
abbrev st_require_cell : Stmt := topS 10
abbrev st_choices : Stmt := topS 12
abbrev st_words_with_x_ahead : Stmt := topS 13
abbrev st_count_ahead : Stmt := topS 14
abbrev st_law_bag : Stmt := topS 16
abbrev st_law_pick : Stmt := topS 17
abbrev st_law_key : Stmt := topS 18
abbrev st_law_words : Stmt := topS 20
abbrev st_law_right_25 : Stmt := topS 21
abbrev st_law_some_cell : Stmt := topS 22
abbrev st_law_24 : Stmt := topS 23
def nmG : Nat → Str
  | 2 => Str.ofString "MOST_BITS"
  | _ => Str.ofString ""
def nmC : Nat → Str
  | _ => Str.ofString ""
def nmL : Nat → Nat
  | 1 => 1
  | 2 => 2
  | 24 => 3
  | 3 => 2
  | 209 => 1
  | 210 => 2
  | 211 => 4
  | 132 => 1
  | 133 => 1
  | 136 => 1
  | 137 => 1
  | 212 => 1
  | 213 => 5
  | 214 => 2
  | 215 => 6
  | _ => 1000
def nmK : Nat → Nat
  | 1 => 0
  | 2 => 0
  | 24 => 0
  | 3 => 0
  | 209 => 0
  | 210 => 0
  | 211 => 0
  | 132 => 0
  | 133 => 0
  | 136 => 0
  | 137 => 0
  | 212 => 0
  | 213 => 0
  | 214 => 0
  | 215 => 0
  | _ => 9
def nmFld (s : Str) : Bool := false
def nmGk (i : Nat) : Bool := (i == 2)
def nmT : Ty → Bool
  | .tint => true
  | .tbool => true
  | .ttuple => true
  | .cls c => false
  | _ => false
def nmA : Nm := ⟨nmF, nmG, nmC, nmL, nmK, nmFld, nmGk, nmT⟩
theorem look_is_int : defB TT nmA 1 0 b_is_int [] [Str.ofString "value"] [Str.ofString "value"] st_is_int = true := by decide +kernel
theorem look_is_whole : defB TT nmA 2 1 b_is_whole [1] [Str.ofString "value", Str.ofString "low", Str.ofString "high"] [Str.ofString "value", Str.ofString "low", Str.ofString "high"] st_is_whole = true := by decide +kernel
theorem look_require_bits : defB TT nmA 24 2 b_require_bits [2] [Str.ofString "x_bits", Str.ofString "y_bits"] [Str.ofString "x_bits", Str.ofString "y_bits"] st_require_bits = true := by decide +kernel
theorem look_require_cell : defB TT nmA 3 1 b_require_cell [1] [Str.ofString "x_bits", Str.ofString "y_bits", Str.ofString "value", Str.ofString "number"] [Str.ofString "x_bits", Str.ofString "y_bits", Str.ofString "value"] st_require_cell = true := by decide +kernel
theorem look_choices : defB TT nmA 209 0 b_choices [] [Str.ofString "many", Str.ofString "some", Str.ofString "found", Str.ofString "turn"] [Str.ofString "many", Str.ofString "some"] st_choices = true := by decide +kernel
theorem look_words_with_x_ahead : defB TT nmA 210 1 b_words_with_x_ahead [209] [Str.ofString "x_bits", Str.ofString "y_bits", Str.ofString "i", Str.ofString "j", Str.ofString "found", Str.ofString "behind", Str.ofString "rest"] [Str.ofString "x_bits", Str.ofString "y_bits", Str.ofString "i", Str.ofString "j"] st_words_with_x_ahead = true := by decide +kernel
theorem look_count_ahead : defB TT nmA 211 3 b_count_ahead [3, 24, 209, 210] [Str.ofString "x_bits", Str.ofString "y_bits", Str.ofString "cell", Str.ofString "other", Str.ofString "every", Str.ofString "found"] [Str.ofString "x_bits", Str.ofString "y_bits", Str.ofString "cell", Str.ofString "other"] st_count_ahead = true := by decide +kernel
theorem look_law_bag : defB TT nmA 132 0 b_law_bag [] [Str.ofString "cell"] [Str.ofString "cell"] st_law_bag = true := by decide +kernel
theorem look_law_pick : defB TT nmA 133 0 b_law_pick [] [Str.ofString "bag", Str.ofString "many", Str.ofString "first", Str.ofString "second", Str.ofString "drawn", Str.ofString "told", Str.ofString "seed", Str.ofString "turn"] [Str.ofString "bag", Str.ofString "many"] st_law_pick = true := by decide +kernel
theorem look_law_key : defB TT nmA 136 0 b_law_key [] [Str.ofString "word", Str.ofString "x", Str.ofString "y", Str.ofString "letter", Str.ofString "found", Str.ofString "i", Str.ofString "j"] [Str.ofString "word", Str.ofString "x", Str.ofString "y"] st_law_key = true := by decide +kernel
theorem look_law_words : defB TT nmA 212 0 b_law_words [] [Str.ofString "x_bits", Str.ofString "y_bits", Str.ofString "found", Str.ofString "turn", Str.ofString "longer", Str.ofString "word"] [Str.ofString "x_bits", Str.ofString "y_bits"] st_law_words = true := by decide +kernel
theorem look_law_right_25 : defB TT nmA 213 4 b_law_right_25 [136, 211, 212] [Str.ofString "x_bits", Str.ofString "y_bits", Str.ofString "cell", Str.ofString "other", Str.ofString "due", Str.ofString "word"] [Str.ofString "x_bits", Str.ofString "y_bits", Str.ofString "cell", Str.ofString "other"] st_law_right_25 = true := by decide +kernel
theorem look_law_some_cell : defB TT nmA 214 1 b_law_some_cell [133] [Str.ofString "bag", Str.ofString "x_bits", Str.ofString "y_bits"] [Str.ofString "bag", Str.ofString "x_bits", Str.ofString "y_bits"] st_law_some_cell = true := by decide +kernel
theorem look_law_24 : defB TT nmA 215 5 b_law_24 [132, 133, 211, 213, 214] [Str.ofString "script", Str.ofString "told", Str.ofString "k", Str.ofString "cell", Str.ofString "bag", Str.ofString "most", Str.ofString "turn", Str.ofString "other", Str.ofString "x_bits", Str.ofString "y_bits", Str.ofString "one", Str.ofString "two"] [Str.ofString "script"] st_law_24 = true := by decide +kernel
open PySem PySem.Spec PyProof.Rows L2 in
theorem all_mk {w : World} {K : PySem.W.Frag} {h : Heap} {mg : Str → Option Value} {fa : Addr} (X : K.In h) (G : h.Ns mainGlobals mg) (hfa : mg (Str.ofString "law") = some (.ref fa))
    {f_is_int f_is_whole f_require_bits f_require_cell f_choices f_words_with_x_ahead f_count_ahead f_law_bag f_law_pick f_law_key f_law_words f_law_right_25 f_law_some_cell f_law_24 : Addr} {od_is_int an_is_int od_is_whole an_is_whole od_require_bits an_require_bits od_require_cell an_require_cell od_choices an_choices od_words_with_x_ahead an_words_with_x_ahead od_count_ahead an_count_ahead od_law_bag an_law_bag od_law_pick an_law_pick od_law_key an_law_key od_law_words an_law_words od_law_right_25 an_law_right_25 od_law_some_cell an_law_some_cell od_law_24 an_law_24 : Option Addr} {oc_is_int kV_is_int dc_is_int pm_is_int cd_is_int ct_is_int oc_is_whole kV_is_whole dc_is_whole pm_is_whole cd_is_whole ct_is_whole oc_require_bits kV_require_bits dc_require_bits pm_require_bits cd_require_bits ct_require_bits oc_require_cell kV_require_cell dc_require_cell pm_require_cell cd_require_cell ct_require_cell oc_choices kV_choices dc_choices pm_choices cd_choices ct_choices oc_words_with_x_ahead kV_words_with_x_ahead dc_words_with_x_ahead pm_words_with_x_ahead cd_words_with_x_ahead ct_words_with_x_ahead oc_count_ahead kV_count_ahead dc_count_ahead pm_count_ahead cd_count_ahead ct_count_ahead oc_law_bag kV_law_bag dc_law_bag pm_law_bag cd_law_bag ct_law_bag oc_law_pick kV_law_pick dc_law_pick pm_law_pick cd_law_pick ct_law_pick oc_law_key kV_law_key dc_law_key pm_law_key cd_law_key ct_law_key oc_law_words kV_law_words dc_law_words pm_law_words cd_law_words ct_law_words oc_law_right_25 kV_law_right_25 dc_law_right_25 pm_law_right_25 cd_law_right_25 ct_law_right_25 oc_law_some_cell kV_law_some_cell dc_law_some_cell pm_law_some_cell cd_law_some_cell ct_law_some_cell oc_law_24 kV_law_24 dc_law_24 pm_law_24 cd_law_24 ct_law_24 u_2 : Value} {sl_is_int sl_is_whole sl_require_bits sl_require_cell sl_choices sl_words_with_x_ahead sl_count_ahead sl_law_bag sl_law_pick sl_law_key sl_law_words sl_law_right_25 sl_law_some_cell sl_law_24 : Array (Option Value)}
    (a_is_int : PySem.W.nsIn K mainGlobals (Str.ofString "is_int") = some (some (.ref f_is_int)))
    (l_is_int : K.lookup f_is_int = some ⟨oc_is_int, od_is_int, .func (PySem.W.fnOf (Str.ofString "is_int") (Str.ofString "is_int") (defArgs st_is_int) (defBody st_is_int) (defScope st_is_int) .none kV_is_int dc_is_int pm_is_int an_is_int cd_is_int ct_is_int), sl_is_int⟩)
    (c_is_int : PySem.W.codeIn K cd_is_int (Str.ofString "is_int") = true)
    (k_is_int : PySem.W.keepIn K (.ref f_is_int) = true)
    (a_is_whole : PySem.W.nsIn K mainGlobals (Str.ofString "is_whole") = some (some (.ref f_is_whole)))
    (l_is_whole : K.lookup f_is_whole = some ⟨oc_is_whole, od_is_whole, .func (PySem.W.fnOf (Str.ofString "is_whole") (Str.ofString "is_whole") (defArgs st_is_whole) (defBody st_is_whole) (defScope st_is_whole) .none kV_is_whole dc_is_whole pm_is_whole an_is_whole cd_is_whole ct_is_whole), sl_is_whole⟩)
    (c_is_whole : PySem.W.codeIn K cd_is_whole (Str.ofString "is_whole") = true)
    (k_is_whole : PySem.W.keepIn K (.ref f_is_whole) = true)
    (a_require_bits : PySem.W.nsIn K mainGlobals (Str.ofString "require_bits") = some (some (.ref f_require_bits)))
    (l_require_bits : K.lookup f_require_bits = some ⟨oc_require_bits, od_require_bits, .func (PySem.W.fnOf (Str.ofString "require_bits") (Str.ofString "require_bits") (defArgs st_require_bits) (defBody st_require_bits) (defScope st_require_bits) .none kV_require_bits dc_require_bits pm_require_bits an_require_bits cd_require_bits ct_require_bits), sl_require_bits⟩)
    (c_require_bits : PySem.W.codeIn K cd_require_bits (Str.ofString "require_bits") = true)
    (k_require_bits : PySem.W.keepIn K (.ref f_require_bits) = true)
    (a_require_cell : PySem.W.nsIn K mainGlobals (Str.ofString "require_cell") = some (some (.ref f_require_cell)))
    (l_require_cell : K.lookup f_require_cell = some ⟨oc_require_cell, od_require_cell, .func (PySem.W.fnOf (Str.ofString "require_cell") (Str.ofString "require_cell") (defArgs st_require_cell) (defBody st_require_cell) (defScope st_require_cell) .none kV_require_cell dc_require_cell pm_require_cell an_require_cell cd_require_cell ct_require_cell), sl_require_cell⟩)
    (c_require_cell : PySem.W.codeIn K cd_require_cell (Str.ofString "require_cell") = true)
    (k_require_cell : PySem.W.keepIn K (.ref f_require_cell) = true)
    (a_choices : PySem.W.nsIn K mainGlobals (Str.ofString "choices") = some (some (.ref f_choices)))
    (l_choices : K.lookup f_choices = some ⟨oc_choices, od_choices, .func (PySem.W.fnOf (Str.ofString "choices") (Str.ofString "choices") (defArgs st_choices) (defBody st_choices) (defScope st_choices) .none kV_choices dc_choices pm_choices an_choices cd_choices ct_choices), sl_choices⟩)
    (c_choices : PySem.W.codeIn K cd_choices (Str.ofString "choices") = true)
    (k_choices : PySem.W.keepIn K (.ref f_choices) = true)
    (a_words_with_x_ahead : PySem.W.nsIn K mainGlobals (Str.ofString "words_with_x_ahead") = some (some (.ref f_words_with_x_ahead)))
    (l_words_with_x_ahead : K.lookup f_words_with_x_ahead = some ⟨oc_words_with_x_ahead, od_words_with_x_ahead, .func (PySem.W.fnOf (Str.ofString "words_with_x_ahead") (Str.ofString "words_with_x_ahead") (defArgs st_words_with_x_ahead) (defBody st_words_with_x_ahead) (defScope st_words_with_x_ahead) .none kV_words_with_x_ahead dc_words_with_x_ahead pm_words_with_x_ahead an_words_with_x_ahead cd_words_with_x_ahead ct_words_with_x_ahead), sl_words_with_x_ahead⟩)
    (c_words_with_x_ahead : PySem.W.codeIn K cd_words_with_x_ahead (Str.ofString "words_with_x_ahead") = true)
    (k_words_with_x_ahead : PySem.W.keepIn K (.ref f_words_with_x_ahead) = true)
    (a_count_ahead : PySem.W.nsIn K mainGlobals (Str.ofString "count_ahead") = some (some (.ref f_count_ahead)))
    (l_count_ahead : K.lookup f_count_ahead = some ⟨oc_count_ahead, od_count_ahead, .func (PySem.W.fnOf (Str.ofString "count_ahead") (Str.ofString "count_ahead") (defArgs st_count_ahead) (defBody st_count_ahead) (defScope st_count_ahead) .none kV_count_ahead dc_count_ahead pm_count_ahead an_count_ahead cd_count_ahead ct_count_ahead), sl_count_ahead⟩)
    (c_count_ahead : PySem.W.codeIn K cd_count_ahead (Str.ofString "count_ahead") = true)
    (k_count_ahead : PySem.W.keepIn K (.ref f_count_ahead) = true)
    (a_law_bag : PySem.W.nsIn K mainGlobals (Str.ofString "_law_bag") = some (some (.ref f_law_bag)))
    (l_law_bag : K.lookup f_law_bag = some ⟨oc_law_bag, od_law_bag, .func (PySem.W.fnOf (Str.ofString "_law_bag") (Str.ofString "_law_bag") (defArgs st_law_bag) (defBody st_law_bag) (defScope st_law_bag) .none kV_law_bag dc_law_bag pm_law_bag an_law_bag cd_law_bag ct_law_bag), sl_law_bag⟩)
    (c_law_bag : PySem.W.codeIn K cd_law_bag (Str.ofString "_law_bag") = true)
    (k_law_bag : PySem.W.keepIn K (.ref f_law_bag) = true)
    (a_law_pick : PySem.W.nsIn K mainGlobals (Str.ofString "_law_pick") = some (some (.ref f_law_pick)))
    (l_law_pick : K.lookup f_law_pick = some ⟨oc_law_pick, od_law_pick, .func (PySem.W.fnOf (Str.ofString "_law_pick") (Str.ofString "_law_pick") (defArgs st_law_pick) (defBody st_law_pick) (defScope st_law_pick) .none kV_law_pick dc_law_pick pm_law_pick an_law_pick cd_law_pick ct_law_pick), sl_law_pick⟩)
    (c_law_pick : PySem.W.codeIn K cd_law_pick (Str.ofString "_law_pick") = true)
    (k_law_pick : PySem.W.keepIn K (.ref f_law_pick) = true)
    (a_law_key : PySem.W.nsIn K mainGlobals (Str.ofString "_law_key") = some (some (.ref f_law_key)))
    (l_law_key : K.lookup f_law_key = some ⟨oc_law_key, od_law_key, .func (PySem.W.fnOf (Str.ofString "_law_key") (Str.ofString "_law_key") (defArgs st_law_key) (defBody st_law_key) (defScope st_law_key) .none kV_law_key dc_law_key pm_law_key an_law_key cd_law_key ct_law_key), sl_law_key⟩)
    (c_law_key : PySem.W.codeIn K cd_law_key (Str.ofString "_law_key") = true)
    (k_law_key : PySem.W.keepIn K (.ref f_law_key) = true)
    (a_law_words : PySem.W.nsIn K mainGlobals (Str.ofString "_law_words") = some (some (.ref f_law_words)))
    (l_law_words : K.lookup f_law_words = some ⟨oc_law_words, od_law_words, .func (PySem.W.fnOf (Str.ofString "_law_words") (Str.ofString "_law_words") (defArgs st_law_words) (defBody st_law_words) (defScope st_law_words) .none kV_law_words dc_law_words pm_law_words an_law_words cd_law_words ct_law_words), sl_law_words⟩)
    (c_law_words : PySem.W.codeIn K cd_law_words (Str.ofString "_law_words") = true)
    (k_law_words : PySem.W.keepIn K (.ref f_law_words) = true)
    (a_law_right_25 : PySem.W.nsIn K mainGlobals (Str.ofString "_law_right") = some (some (.ref f_law_right_25)))
    (l_law_right_25 : K.lookup f_law_right_25 = some ⟨oc_law_right_25, od_law_right_25, .func (PySem.W.fnOf (Str.ofString "_law_right") (Str.ofString "_law_right") (defArgs st_law_right_25) (defBody st_law_right_25) (defScope st_law_right_25) .none kV_law_right_25 dc_law_right_25 pm_law_right_25 an_law_right_25 cd_law_right_25 ct_law_right_25), sl_law_right_25⟩)
    (c_law_right_25 : PySem.W.codeIn K cd_law_right_25 (Str.ofString "_law_right") = true)
    (k_law_right_25 : PySem.W.keepIn K (.ref f_law_right_25) = true)
    (a_law_some_cell : PySem.W.nsIn K mainGlobals (Str.ofString "_law_some_cell") = some (some (.ref f_law_some_cell)))
    (l_law_some_cell : K.lookup f_law_some_cell = some ⟨oc_law_some_cell, od_law_some_cell, .func (PySem.W.fnOf (Str.ofString "_law_some_cell") (Str.ofString "_law_some_cell") (defArgs st_law_some_cell) (defBody st_law_some_cell) (defScope st_law_some_cell) .none kV_law_some_cell dc_law_some_cell pm_law_some_cell an_law_some_cell cd_law_some_cell ct_law_some_cell), sl_law_some_cell⟩)
    (c_law_some_cell : PySem.W.codeIn K cd_law_some_cell (Str.ofString "_law_some_cell") = true)
    (k_law_some_cell : PySem.W.keepIn K (.ref f_law_some_cell) = true)
    (a_law_24 : PySem.W.nsIn K mainGlobals (Str.ofString "law") = some (some (.ref f_law_24)))
    (l_law_24 : K.lookup f_law_24 = some ⟨oc_law_24, od_law_24, .func (PySem.W.fnOf (Str.ofString "law") (Str.ofString "law") (defArgs st_law_24) (defBody st_law_24) (defScope st_law_24) .none kV_law_24 dc_law_24 pm_law_24 an_law_24 cd_law_24 ct_law_24), sl_law_24⟩)
    (c_law_24 : PySem.W.codeIn K cd_law_24 (Str.ofString "law") = true)
    (k_law_24 : PySem.W.keepIn K (.ref f_law_24) = true)
    (s_int_NoneType : PySem.W.subIn K (.type "NoneType") (.type "int") = some false)
    (s_int_bool : PySem.W.subIn K (.type "bool") (.type "int") = some true)
    (s_int_str : PySem.W.subIn K (.type "str") (.type "int") = some false)
    (s_int_tuple : PySem.W.subIn K (.type "tuple") (.type "int") = some false)
    (s_int_list : PySem.W.subIn K (.type "list") (.type "int") = some false)
    (s_bool_NoneType : PySem.W.subIn K (.type "NoneType") (.type "bool") = some false)
    (s_bool_int : PySem.W.subIn K (.type "int") (.type "bool") = some false)
    (s_bool_str : PySem.W.subIn K (.type "str") (.type "bool") = some false)
    (s_bool_tuple : PySem.W.subIn K (.type "tuple") (.type "bool") = some false)
    (s_bool_list : PySem.W.subIn K (.type "list") (.type "bool") = some false)
    (s_tuple_NoneType : PySem.W.subIn K (.type "NoneType") (.type "tuple") = some false)
    (s_tuple_bool : PySem.W.subIn K (.type "bool") (.type "tuple") = some false)
    (s_tuple_int : PySem.W.subIn K (.type "int") (.type "tuple") = some false)
    (s_tuple_str : PySem.W.subIn K (.type "str") (.type "tuple") = some false)
    (s_tuple_list : PySem.W.subIn K (.type "list") (.type "tuple") = some false)
    (b_len : PySem.W.nsIn K mainGlobals (Str.ofString "len") = some none)
    (b_abs : PySem.W.nsIn K mainGlobals (Str.ofString "abs") = some none)
    (b_int : PySem.W.nsIn K mainGlobals (Str.ofString "int") = some none)
    (b_str : PySem.W.nsIn K mainGlobals (Str.ofString "str") = some none)
    (b_repr : PySem.W.nsIn K mainGlobals (Str.ofString "repr") = some none)
    (b_list : PySem.W.nsIn K mainGlobals (Str.ofString "list") = some none)
    (b_tuple : PySem.W.nsIn K mainGlobals (Str.ofString "tuple") = some none)
    (b_max : PySem.W.nsIn K mainGlobals (Str.ofString "max") = some none)
    (b_min : PySem.W.nsIn K mainGlobals (Str.ofString "min") = some none)
    (b_sum : PySem.W.nsIn K mainGlobals (Str.ofString "sum") = some none)
    (b_all : PySem.W.nsIn K mainGlobals (Str.ofString "all") = some none)
    (b_any : PySem.W.nsIn K mainGlobals (Str.ofString "any") = some none)
    (b_sorted : PySem.W.nsIn K mainGlobals (Str.ofString "sorted") = some none)
    (b_isinstance : PySem.W.nsIn K mainGlobals (Str.ofString "isinstance") = some none)
    (b_range : PySem.W.nsIn K mainGlobals (Str.ofString "range") = some none)
    (b_enumerate : PySem.W.nsIn K mainGlobals (Str.ofString "enumerate") = some none)
    (b_zip : PySem.W.nsIn K mainGlobals (Str.ofString "zip") = some none)
    (b_bool : PySem.W.nsIn K mainGlobals (Str.ofString "bool") = some none)
    (v_2 : PySem.W.nsIn K mainGlobals (Str.ofString "MOST_BITS") = some (some u_2))
    (w_2 : RelV (.int 100) u_2)
    : ∃ (fd : FuncData) (κ : Kx), κ.K = K ∧ (∀ (s : Shared) (u : Value), BindsTo s fd ⟨[u], []⟩ [(Str.ofString "script", u)]) ∧ ∀ base : Heap, K.In base → base.Ns mainGlobals mg → Fg PySem.Challenge.rw_lacekeys_k27_cells_in_order_by_all_words.prog w κ.K mg base 6 fa fd [Str.ofString "script"] (spD κ TT 215) := by
  have e := hfa.symm.trans (PySem.W.mg_of X G a_law_24)
  cases e
  refine ⟨PySem.W.fnOf (Str.ofString "law") (Str.ofString "law") (defArgs st_law_24) (defBody st_law_24) (defScope st_law_24) .none kV_law_24 dc_law_24 pm_law_24 an_law_24 cd_law_24 ct_law_24, ⟨K, fun c => match c with
    | _ => 0, 0⟩, rfl, fun s u => .of_eq rfl, fun base kb nb => ?_⟩
  generalize hκ : (⟨K, fun c => match c with
    | _ => 0, 0⟩ : Kx) = κ
  have eK : κ.K = K := by subst hκ; rfl
  have en : κ.n = 0 := by subst hκ; rfl
  clear hκ
  subst eK
  let g : Gc := ⟨PySem.Challenge.rw_lacekeys_k27_cells_in_order_by_all_words.prog, w, mg, base, κ, TT, nmA⟩
  have lt : ∀ c, c < κ.n → False := fun c hc => by omega
  have hcls : ClsOk κ κ.K := fun c hc => by
    exact (lt c hc).elim
  have hins : ∀ c, c < κ.n → InsOk κ κ.K c := fun c hc => by
    exact (lt c hc).elim
  have hfld : ∀ s, nmA.fld s = true → FldOk κ κ.K s := fun s hs c hc => by
    have hs : nmFld s = true := hs
    unfold nmFld at hs
    simp only [Bool.or_eq_true, decide_eq_true_eq, Bool.false_eq_true] at hs
  have hgl : ∀ i, nmA.gk i = true → ∃ v u, mg (nmA.gl i) = some u ∧ RelV v u ∧ ∀ f, Rep κ f v (TT.gl i) := fun i hi => by
    have hi : nmGk i = true := hi
    unfold nmGk at hi
    simp only [Bool.or_eq_true, beq_iff_eq] at hi
    subst hi
    exact ⟨_, _, PySem.W.mg_of X G v_2, w_2, fun f => .int _⟩
  have isi_int : IsiOk κ κ.K (.tint) := by
    refine ⟨hins, ?_, fun c hc => ?_⟩
    · show ([_, _, _, _, _, _] : List (Option Bool)) = [_, _, _, _, _, _]
      exact list6 (kit_ty rfl rfl s_int_NoneType) (kit_ty rfl rfl s_int_bool) (kit_self) (kit_ty rfl rfl s_int_str) (kit_ty rfl rfl s_int_tuple) (kit_ty rfl rfl s_int_list)
    · exact (lt c hc).elim
  have isi_bool : IsiOk κ κ.K (.tbool) := by
    refine ⟨hins, ?_, fun c hc => ?_⟩
    · show ([_, _, _, _, _, _] : List (Option Bool)) = [_, _, _, _, _, _]
      exact list6 (kit_ty rfl rfl s_bool_NoneType) (kit_self) (kit_ty rfl rfl s_bool_int) (kit_ty rfl rfl s_bool_str) (kit_ty rfl rfl s_bool_tuple) (kit_ty rfl rfl s_bool_list)
    · exact (lt c hc).elim
  have isi_tuple : IsiOk κ κ.K (.ttuple) := by
    refine ⟨hins, ?_, fun c hc => ?_⟩
    · show ([_, _, _, _, _, _] : List (Option Bool)) = [_, _, _, _, _, _]
      exact list6 (kit_ty rfl rfl s_tuple_NoneType) (kit_ty rfl rfl s_tuple_bool) (kit_ty rfl rfl s_tuple_int) (kit_ty rfl rfl s_tuple_str) (kit_self) (kit_ty rfl rfl s_tuple_list)
    · exact (lt c hc).elim
  have hisi : ∀ t, nmA.ty t = true → IsiOk κ κ.K t := fun t ht => by
    have ht : nmT t = true := ht
    cases t with
    | tint => exact isi_int
    | tbool => exact isi_bool
    | tstr => exact absurd ht (by decide)
    | ttuple => exact isi_tuple
    | tlist => exact absurd ht (by decide)
    | cls c =>
      exact Bool.noConfusion (show false = true from ht)
  have hcln : ∀ c, nmA.ty (.cls c) = true → mg (nmA.cl c) = some (.ref (κ.cls c)) := fun c ht => by
    have ht : nmT (.cls c) = true := ht
    exact Bool.noConfusion (show false = true from ht)
  have hbn : ∀ x ∈ bNames, mg x = none := by
    intro x hx
    simp only [bNames, List.mem_cons, List.not_mem_nil, or_false] at hx
    rcases hx with rfl | rfl | rfl | rfl | rfl | rfl | rfl | rfl | rfl | rfl | rfl | rfl | rfl | rfl | rfl | rfl | rfl | rfl
    · exact PySem.W.mg_none_of X G b_len
    · exact PySem.W.mg_none_of X G b_abs
    · exact PySem.W.mg_none_of X G b_int
    · exact PySem.W.mg_none_of X G b_str
    · exact PySem.W.mg_none_of X G b_repr
    · exact PySem.W.mg_none_of X G b_list
    · exact PySem.W.mg_none_of X G b_tuple
    · exact PySem.W.mg_none_of X G b_max
    · exact PySem.W.mg_none_of X G b_min
    · exact PySem.W.mg_none_of X G b_sum
    · exact PySem.W.mg_none_of X G b_all
    · exact PySem.W.mg_none_of X G b_any
    · exact PySem.W.mg_none_of X G b_sorted
    · exact PySem.W.mg_none_of X G b_isinstance
    · exact PySem.W.mg_none_of X G b_range
    · exact PySem.W.mg_none_of X G b_enumerate
    · exact PySem.W.mg_none_of X G b_zip
    · exact PySem.W.mg_none_of X G b_bool
  have gf0 : Gf (noEq g) := ⟨hbn, hcls, hfld, hgl, hisi, hcln, fun c f h => nomatch h⟩
  have F_is_int := fun_mk (st := st_is_int) l_is_int c_is_int k_is_int
  have bi_is_int := F_is_int.binds (ps := [Str.ofString "value"]) fun _ _ _ _ _ _ us hl => match us, hl with | [_], _ => rfl
  have F_is_whole := fun_mk (st := st_is_whole) l_is_whole c_is_whole k_is_whole
  have bi_is_whole := F_is_whole.binds (ps := [Str.ofString "value", Str.ofString "low", Str.ofString "high"]) fun _ _ _ _ _ _ us hl => match us, hl with | [_, _, _], _ => rfl
  have F_require_bits := fun_mk (st := st_require_bits) l_require_bits c_require_bits k_require_bits
  have bi_require_bits := F_require_bits.binds (ps := [Str.ofString "x_bits", Str.ofString "y_bits"]) fun _ _ _ _ _ _ us hl => match us, hl with | [_, _], _ => rfl
  have F_require_cell := fun_mk (st := st_require_cell) l_require_cell c_require_cell k_require_cell
  have bi_require_cell := F_require_cell.binds (ps := [Str.ofString "x_bits", Str.ofString "y_bits", Str.ofString "value"]) fun _ _ _ _ _ _ us hl => match us, hl with | [_, _, _], _ => rfl
  have F_choices := fun_mk (st := st_choices) l_choices c_choices k_choices
  have bi_choices := F_choices.binds (ps := [Str.ofString "many", Str.ofString "some"]) fun _ _ _ _ _ _ us hl => match us, hl with | [_, _], _ => rfl
  have F_words_with_x_ahead := fun_mk (st := st_words_with_x_ahead) l_words_with_x_ahead c_words_with_x_ahead k_words_with_x_ahead
  have bi_words_with_x_ahead := F_words_with_x_ahead.binds (ps := [Str.ofString "x_bits", Str.ofString "y_bits", Str.ofString "i", Str.ofString "j"]) fun _ _ _ _ _ _ us hl => match us, hl with | [_, _, _, _], _ => rfl
  have F_count_ahead := fun_mk (st := st_count_ahead) l_count_ahead c_count_ahead k_count_ahead
  have bi_count_ahead := F_count_ahead.binds (ps := [Str.ofString "x_bits", Str.ofString "y_bits", Str.ofString "cell", Str.ofString "other"]) fun _ _ _ _ _ _ us hl => match us, hl with | [_, _, _, _], _ => rfl
  have F_law_bag := fun_mk (st := st_law_bag) l_law_bag c_law_bag k_law_bag
  have bi_law_bag := F_law_bag.binds (ps := [Str.ofString "cell"]) fun _ _ _ _ _ _ us hl => match us, hl with | [_], _ => rfl
  have F_law_pick := fun_mk (st := st_law_pick) l_law_pick c_law_pick k_law_pick
  have bi_law_pick := F_law_pick.binds (ps := [Str.ofString "bag", Str.ofString "many"]) fun _ _ _ _ _ _ us hl => match us, hl with | [_, _], _ => rfl
  have F_law_key := fun_mk (st := st_law_key) l_law_key c_law_key k_law_key
  have bi_law_key := F_law_key.binds (ps := [Str.ofString "word", Str.ofString "x", Str.ofString "y"]) fun _ _ _ _ _ _ us hl => match us, hl with | [_, _, _], _ => rfl
  have F_law_words := fun_mk (st := st_law_words) l_law_words c_law_words k_law_words
  have bi_law_words := F_law_words.binds (ps := [Str.ofString "x_bits", Str.ofString "y_bits"]) fun _ _ _ _ _ _ us hl => match us, hl with | [_, _], _ => rfl
  have F_law_right_25 := fun_mk (st := st_law_right_25) l_law_right_25 c_law_right_25 k_law_right_25
  have bi_law_right_25 := F_law_right_25.binds (ps := [Str.ofString "x_bits", Str.ofString "y_bits", Str.ofString "cell", Str.ofString "other"]) fun _ _ _ _ _ _ us hl => match us, hl with | [_, _, _, _], _ => rfl
  have F_law_some_cell := fun_mk (st := st_law_some_cell) l_law_some_cell c_law_some_cell k_law_some_cell
  have bi_law_some_cell := F_law_some_cell.binds (ps := [Str.ofString "bag", Str.ofString "x_bits", Str.ofString "y_bits"]) fun _ _ _ _ _ _ us hl => match us, hl with | [_, _, _], _ => rfl
  have F_law_24 := fun_mk (st := st_law_24) l_law_24 c_law_24 k_law_24
  have bi_law_24 := F_law_24.binds (ps := [Str.ofString "script"]) fun _ _ _ _ _ _ us hl => match us, hl with | [_], _ => rfl
  have gf : Gf g := Gf.noEq gf0 fun c f h hc => (lt c hc).elim
  have fg_is_int := fg_D (g := g) gf F_is_int look_is_int (fix_known (by rfl)) (fun f hf => (nok hf).elim) (fun c f h hc => (lt c hc).elim)
  have kn_is_int : Known g 1 := known_def fg_is_int bi_is_int (PySem.W.mg_of X G a_is_int) k_is_int rfl rfl
  have fg_choices := fg_D (g := g) gf F_choices look_choices (fix_known (by rfl)) (fun f hf => (nok hf).elim) (fun c f h hc => (lt c hc).elim)
  have kn_choices : Known g 209 := known_def fg_choices bi_choices (PySem.W.mg_of X G a_choices) k_choices rfl rfl
  have fg_law_bag := fg_D (g := g) gf F_law_bag look_law_bag (fix_known (by rfl)) (fun f hf => (nok hf).elim) (fun c f h hc => (lt c hc).elim)
  have kn_law_bag : Known g 132 := known_def fg_law_bag bi_law_bag (PySem.W.mg_of X G a_law_bag) k_law_bag rfl rfl
  have fg_law_pick := fg_D (g := g) gf F_law_pick look_law_pick (fix_known (by rfl)) (fun f hf => (nok hf).elim) (fun c f h hc => (lt c hc).elim)
  have kn_law_pick : Known g 133 := known_def fg_law_pick bi_law_pick (PySem.W.mg_of X G a_law_pick) k_law_pick rfl rfl
  have fg_law_key := fg_D (g := g) gf F_law_key look_law_key (fix_known (by rfl)) (fun f hf => (nok hf).elim) (fun c f h hc => (lt c hc).elim)
  have kn_law_key : Known g 136 := known_def fg_law_key bi_law_key (PySem.W.mg_of X G a_law_key) k_law_key rfl rfl
  have fg_law_words := fg_D (g := g) gf F_law_words look_law_words (fix_known (by rfl)) (fun f hf => (nok hf).elim) (fun c f h hc => (lt c hc).elim)
  have kn_law_words : Known g 212 := known_def fg_law_words bi_law_words (PySem.W.mg_of X G a_law_words) k_law_words rfl rfl
  have fg_is_whole := fg_D (g := g) gf F_is_whole look_is_whole (fix_known (by rfl)) (fun f hf => by
    simp only [List.contains_cons, List.contains_nil, Bool.or_false, Bool.or_eq_true, beq_iff_eq] at hf
    subst hf
    exact kn_is_int) (fun c f h hc => (lt c hc).elim)
  have kn_is_whole : Known g 2 := known_def fg_is_whole bi_is_whole (PySem.W.mg_of X G a_is_whole) k_is_whole rfl rfl
  have fg_require_cell := fg_D (g := g) gf F_require_cell look_require_cell (fix_known (by rfl)) (fun f hf => by
    simp only [List.contains_cons, List.contains_nil, Bool.or_false, Bool.or_eq_true, beq_iff_eq] at hf
    subst hf
    exact kn_is_int) (fun c f h hc => (lt c hc).elim)
  have kn_require_cell : Known g 3 := known_def fg_require_cell bi_require_cell (PySem.W.mg_of X G a_require_cell) k_require_cell rfl rfl
  have fg_words_with_x_ahead := fg_D (g := g) gf F_words_with_x_ahead look_words_with_x_ahead (fix_known (by rfl)) (fun f hf => by
    simp only [List.contains_cons, List.contains_nil, Bool.or_false, Bool.or_eq_true, beq_iff_eq] at hf
    subst hf
    exact kn_choices) (fun c f h hc => (lt c hc).elim)
  have kn_words_with_x_ahead : Known g 210 := known_def fg_words_with_x_ahead bi_words_with_x_ahead (PySem.W.mg_of X G a_words_with_x_ahead) k_words_with_x_ahead rfl rfl
  have fg_law_some_cell := fg_D (g := g) gf F_law_some_cell look_law_some_cell (fix_known (by rfl)) (fun f hf => by
    simp only [List.contains_cons, List.contains_nil, Bool.or_false, Bool.or_eq_true, beq_iff_eq] at hf
    subst hf
    exact kn_law_pick) (fun c f h hc => (lt c hc).elim)
  have kn_law_some_cell : Known g 214 := known_def fg_law_some_cell bi_law_some_cell (PySem.W.mg_of X G a_law_some_cell) k_law_some_cell rfl rfl
  have fg_require_bits := fg_D (g := g) gf F_require_bits look_require_bits (fix_known (by rfl)) (fun f hf => by
    simp only [List.contains_cons, List.contains_nil, Bool.or_false, Bool.or_eq_true, beq_iff_eq] at hf
    subst hf
    exact kn_is_whole) (fun c f h hc => (lt c hc).elim)
  have kn_require_bits : Known g 24 := known_def fg_require_bits bi_require_bits (PySem.W.mg_of X G a_require_bits) k_require_bits rfl rfl
  have fg_count_ahead := fg_D (g := g) gf F_count_ahead look_count_ahead (fix_known (by rfl)) (fun f hf => by
    simp only [List.contains_cons, List.contains_nil, Bool.or_false, Bool.or_eq_true, beq_iff_eq] at hf
    rcases hf with rfl | rfl | rfl | rfl
    · exact kn_require_cell
    · exact kn_require_bits
    · exact kn_choices
    · exact kn_words_with_x_ahead) (fun c f h hc => (lt c hc).elim)
  have kn_count_ahead : Known g 211 := known_def fg_count_ahead bi_count_ahead (PySem.W.mg_of X G a_count_ahead) k_count_ahead rfl rfl
  have fg_law_right_25 := fg_D (g := g) gf F_law_right_25 look_law_right_25 (fix_known (by rfl)) (fun f hf => by
    simp only [List.contains_cons, List.contains_nil, Bool.or_false, Bool.or_eq_true, beq_iff_eq] at hf
    rcases hf with rfl | rfl | rfl
    · exact kn_law_key
    · exact kn_count_ahead
    · exact kn_law_words) (fun c f h hc => (lt c hc).elim)
  have kn_law_right_25 : Known g 213 := known_def fg_law_right_25 bi_law_right_25 (PySem.W.mg_of X G a_law_right_25) k_law_right_25 rfl rfl
  have fg_law_24 := fg_D (g := g) gf F_law_24 look_law_24 (fix_known (by rfl)) (fun f hf => by
    simp only [List.contains_cons, List.contains_nil, Bool.or_false, Bool.or_eq_true, beq_iff_eq] at hf
    rcases hf with rfl | rfl | rfl | rfl | rfl
    · exact kn_law_bag
    · exact kn_law_pick
    · exact kn_count_ahead
    · exact kn_law_right_25
    · exact kn_law_some_cell) (fun c f h hc => (lt c hc).elim)
  exact fg_law_24
end PyV
set_option maxRecDepth 100000 in
set_option maxHeartbeats 0 in
open PySem PySem.W PyProof.Rows PyV in
theorem PySem.Challenge.cw_lacekeys_k27_cells_in_order_by_all_words_holds : PySem.Challenge.rw_lacekeys_k27_cells_in_order_by_all_words.Holds := by
  w_on; o_law; k_head; (case hw => w_witness2)
  k_fill
  refine walk_law (l := PySem.Challenge.rw_lacekeys_k27_cells_in_order_by_all_words) (k := 6) (x := Str.ofString "script") (T := TT) (f := 215) rfl (by decide) rfl ⟨rfl, by decide, by decide⟩ (fun w h Y => PySem.W.kIn_of Y) ?F rfl law_true
  case F =>
    intro w mg fa h KX G hmg
    refine' all_mk KX G hmg ?a_is_int ?l_is_int ?c_is_int ?k_is_int ?a_is_whole ?l_is_whole ?c_is_whole ?k_is_whole ?a_require_bits ?l_require_bits ?c_require_bits ?k_require_bits ?a_require_cell ?l_require_cell ?c_require_cell ?k_require_cell ?a_choices ?l_choices ?c_choices ?k_choices ?a_words_with_x_ahead ?l_words_with_x_ahead ?c_words_with_x_ahead ?k_words_with_x_ahead ?a_count_ahead ?l_count_ahead ?c_count_ahead ?k_count_ahead ?a_law_bag ?l_law_bag ?c_law_bag ?k_law_bag ?a_law_pick ?l_law_pick ?c_law_pick ?k_law_pick ?a_law_key ?l_law_key ?c_law_key ?k_law_key ?a_law_words ?l_law_words ?c_law_words ?k_law_words ?a_law_right_25 ?l_law_right_25 ?c_law_right_25 ?k_law_right_25 ?a_law_some_cell ?l_law_some_cell ?c_law_some_cell ?k_law_some_cell ?a_law_24 ?l_law_24 ?c_law_24 ?k_law_24 ?s_int_NoneType ?s_int_bool ?s_int_str ?s_int_tuple ?s_int_list ?s_bool_NoneType ?s_bool_int ?s_bool_str ?s_bool_tuple ?s_bool_list ?s_tuple_NoneType ?s_tuple_bool ?s_tuple_int ?s_tuple_str ?s_tuple_list ?b_len ?b_abs ?b_int ?b_str ?b_repr ?b_list ?b_tuple ?b_max ?b_min ?b_sum ?b_all ?b_any ?b_sorted ?b_isinstance ?b_range ?b_enumerate ?b_zip ?b_bool ?v_2 ?w_2
    (case a_is_int => k_is)
    (case l_is_int => k_is)
    (case c_is_int => k_is)
    (case k_is_int => k_is)
    (case a_is_whole => k_is)
    (case l_is_whole => k_is)
    (case c_is_whole => k_is)
    (case k_is_whole => k_is)
    (case a_require_bits => k_is)
    (case l_require_bits => k_is)
    (case c_require_bits => k_is)
    (case k_require_bits => k_is)
    (case a_require_cell => k_is)
    (case l_require_cell => k_is)
    (case c_require_cell => k_is)
    (case k_require_cell => k_is)
    (case a_choices => k_is)
    (case l_choices => k_is)
    (case c_choices => k_is)
    (case k_choices => k_is)
    (case a_words_with_x_ahead => k_is)
    (case l_words_with_x_ahead => k_is)
    (case c_words_with_x_ahead => k_is)
    (case k_words_with_x_ahead => k_is)
    (case a_count_ahead => k_is)
    (case l_count_ahead => k_is)
    (case c_count_ahead => k_is)
    (case k_count_ahead => k_is)
    (case a_law_bag => k_is)
    (case l_law_bag => k_is)
    (case c_law_bag => k_is)
    (case k_law_bag => k_is)
    (case a_law_pick => k_is)
    (case l_law_pick => k_is)
    (case c_law_pick => k_is)
    (case k_law_pick => k_is)
    (case a_law_key => k_is)
    (case l_law_key => k_is)
    (case c_law_key => k_is)
    (case k_law_key => k_is)
    (case a_law_words => k_is)
    (case l_law_words => k_is)
    (case c_law_words => k_is)
    (case k_law_words => k_is)
    (case a_law_right_25 => k_is)
    (case l_law_right_25 => k_is)
    (case c_law_right_25 => k_is)
    (case k_law_right_25 => k_is)
    (case a_law_some_cell => k_is)
    (case l_law_some_cell => k_is)
    (case c_law_some_cell => k_is)
    (case k_law_some_cell => k_is)
    (case a_law_24 => k_is)
    (case l_law_24 => k_is)
    (case c_law_24 => k_is)
    (case k_law_24 => k_is)
    (case s_int_NoneType => k_is)
    (case s_int_bool => k_is)
    (case s_int_str => k_is)
    (case s_int_tuple => k_is)
    (case s_int_list => k_is)
    (case s_bool_NoneType => k_is)
    (case s_bool_int => k_is)
    (case s_bool_str => k_is)
    (case s_bool_tuple => k_is)
    (case s_bool_list => k_is)
    (case s_tuple_NoneType => k_is)
    (case s_tuple_bool => k_is)
    (case s_tuple_int => k_is)
    (case s_tuple_str => k_is)
    (case s_tuple_list => k_is)
    (case b_len => k_is)
    (case b_abs => k_is)
    (case b_int => k_is)
    (case b_str => k_is)
    (case b_repr => k_is)
    (case b_list => k_is)
    (case b_tuple => k_is)
    (case b_max => k_is)
    (case b_min => k_is)
    (case b_sum => k_is)
    (case b_all => k_is)
    (case b_any => k_is)
    (case b_sorted => k_is)
    (case b_isinstance => k_is)
    (case b_range => k_is)
    (case b_enumerate => k_is)
    (case b_zip => k_is)
    (case b_bool => k_is)
    (case v_2 => k_is)
    (case w_2 => exact ⟨_, rfl⟩)
