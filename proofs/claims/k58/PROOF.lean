import PyProof.Rows.All
import PySem.PyData
import Wide.All
import HandS.ForMost
import HandS.Wide
import HandS.Evl
import HandS.Style
import HandS.TupLe
import HandS.TupAny
import HandS.WideBits
import HandS.SetFor
import HandS.IsInst
import HandS.Deep
import HandS.SortInts
import PyProof.ReprRoads
import PyProof.SumWalkG
import HandS.Conv
import HandS.Iter
import HandS.Dict
import HandS.EndBits
import PySem.Challenge.RW_heirshares_k58_whole_cut_and_choose
set_option Elab.async false
set_option linter.all false
set_option maxRecDepth 100000
/-! IXa: tree values, the small language, its interpreter. Own work. -/
namespace IX
open PySem

/-! ### values -/
inductive D where
  | non | bl (b : Bool) | int (i : Int) | str (s : Str)
  | lst (xs : List D) | tup (xs : List D)
  | cell (k : Nat) | fn (k : Nat) | clo (k : Nat) (xs : List D) | exc (c : Nat) (x : D) | scr (ns : List Int)
  deriving Inhabited

mutual
def D.py : D → Option PyData
  | .non => some .none
  | .bl b => some (.bool b)
  | .int i => some (.int i)
  | .str s => some (.str s)
  | .lst xs => (D.pyL xs).map .list
  | .tup xs => (D.pyL xs).map .tuple
  | .cell _ => none
  | .fn _ => none
  | .clo _ _ => none
  | .exc _ _ => none
  | .scr _ => none
def D.pyL : List D → Option (List PyData)
  | [] => some []
  | x :: xs => match D.py x, D.pyL xs with
    | some p, some ps => some (p :: ps)
    | _, _ => none
end

/-- none, a bool, an int, a text -/
def D.scal : D → Bool
  | .non => true | .bl _ => true | .int _ => true | .str _ => true
  | _ => false
mutual
/-- no list in it -/
def D.flat : D → Bool
  | .lst _ => false
  | .tup xs => D.flatL xs
  | .clo _ xs => D.flatL xs
  | .exc _ _ => false
  | .scr _ => false
  | _ => true
def D.flatL : List D → Bool
  | [] => true
  | x :: xs => x.flat && D.flatL xs
end

/-! ### results -/
abbrev Sto := List (List D)
inductive R (α : Type) where
  | ok (a : α) (s : Sto)
  | ex (c : Nat) (x : D) (s : Sto)
  | no
def R.bind {α β : Type} : R α → (α → Sto → R β) → R β
  | .ok a s, f => f a s
  | .ex c x s, _ => .ex c x s
  | .no, _ => .no
@[simp] theorem bind_ok {α β : Type} (a : α) (s : Sto) (f : α → Sto → R β) : (R.ok a s).bind f = f a s := rfl
@[simp] theorem bind_ex {α β : Type} (c : Nat) (x : D) (s : Sto) (f : α → Sto → R β) : (R.ex c x s).bind f = .ex c x s := rfl
@[simp] theorem bind_no {α β : Type} (f : α → Sto → R β) : (R.no : R α).bind f = .no := rfl
def R.of {α : Type} : Option α → Sto → R α
  | some a, s => .ok a s
  | none, _ => .no
@[simp] theorem of_some {α : Type} (a : α) (s : Sto) : R.of (some a) s = .ok a s := rfl
@[simp] theorem of_none {α : Type} (s : Sto) : R.of (none : Option α) s = .no := rfl

/-- a value with its level: 0 known to others, 1 its own list new, 2 all its lists new (or none in it) -/
abbrev DL := D × Nat
def lv0 (d : D) : DL := (d, if d.flat then 2 else 0)
/-- at least what flatness gives -/
def lvl (l : Nat) (d : D) : DL := (d, if d.flat then 2 else l)

/-! ### the language -/
inductive Bo | add | sub | mul | fdiv | mod | pow
  deriving DecidableEq
inductive Co | eq | ne | lt | le | gt | ge | in_ | nin | is_ | isn
  deriving DecidableEq
inductive Ty | int | bool | list | tuple | str | dict
  deriving DecidableEq
inductive Bi | len | sum | max | min | max2 | min2 | abs | int | list | tuple | sorted | repr | bits | cnt | index | sumf
  deriving DecidableEq
inductive Tg where
  | nm (i : Nat) | tp (ts : List Tg)

mutual
inductive E where
  | var (i : Nat)
  | con (d : D)
  | glo (x : Str) (d : D)
  | lst (es : Es) | tup (es : Es) | emp
  | neg (a : E) | not (a : E)
  | bin (o : Bo) (a b : E)
  | cmp (o : Co) (a b : E)
  | cmp2 (o p : Co) (a b c : E)
  | and (a b : E) | or (a b : E)
  | ife (c a b : E)
  | ix (a b : E)
  | sl (a : E) (lo hi : Es)
  | rev (a : E)
  | lc (v : E) (t : Tg) (s : Sr) (c : Es)
  | lsr (s : Sr)
  | call (f : Nat) (as : Es)
  | callk (f : Nat) (pm : List Nat) (as ks : Es)
  | bi (b : Bi) (as : Es)
  | isi (a : E) (ts : List Ty)
  | mink (a : E) (i : Nat) (v : E) | srtk (a : Sr) (i : Nat) (v : E)
inductive Es where
  | nil | cons (e : E) (es : Es)
inductive Sr where
  | seq (e : E) | rng1 (a : E) | rng2 (a b : E) | enu (e : E) | zip (a b : E)
end

/-! ### operations on values -/
def isTyD : Ty → D → Option Bool
  | .int, .int _ => some true | .int, .bl _ => some true | .int, .cell _ => some false
  | .bool, .bl _ => some true
  | .list, .lst _ => some true | .list, .cell _ => some true
  | .tuple, .tup _ => some true
  | .str, .str _ => some true
  | .dict, .fn _ => some true
  | _, .clo _ _ => none | _, .exc _ _ => none | _, .scr _ => none
  | _, _ => some false
def mulOk (i j : Int) : Bool := decide (i.natAbs.log2 + j.natAbs.log2 < 1000000)
def divOk (j : Int) : Bool := decide (j ≠ 0 ∧ j.natAbs.log2 < 9000)
def most : Nat := 100000
/-- level of a list made of the items of another ones -/
def lvItems (l : Nat) (xs : List D) : Nat := if l = 2 ∨ D.flatL xs = true then 2 else 1
def addD : DL → DL → Option DL
  | (.int i, _), (.int j, _) => some (.int (i + j), 2)
  | (.lst xs, l), (.lst ys, m) => if xs.length + ys.length ≤ most then
      some (.lst (xs ++ ys), if (l = 2 ∨ D.flatL xs = true) ∧ (m = 2 ∨ D.flatL ys = true) then 2 else 1) else none
  | (.tup xs, l), (.tup ys, m) => if xs.length + ys.length ≤ most then some (lvl (if l = 2 ∧ m = 2 then 2 else 0) (.tup (xs ++ ys))) else none
  | (.str x, _), (.str y, _) => if x.length + y.length ≤ most then some (.str (x ++ y), 2) else none
  | _, _ => none
def mulD : DL → DL → Option DL
  | (.int i, _), (.int j, _) => if mulOk i j then some (.int (i * j), 2) else none
  | (.lst xs, _), (.int j, _) => if 0 ≤ j ∧ xs.length * j.toNat ≤ most ∧ j ≤ most then some (.lst (List.replicate j.toNat xs).flatten, if D.flatL xs then 2 else 1) else none
  | _, _ => none
def subD : DL → DL → Option DL
  | (.int i, _), (.int j, _) => some (.int (i - j), 2)
  | _, _ => none
def fdivD : DL → DL → Option DL
  | (.int i, _), (.int j, _) => if divOk j then some (.int (i.fdiv j), 2) else none
  | _, _ => none
def modD : DL → DL → Option DL
  | (.int i, _), (.int j, _) => if j ≠ 0 then some (.int (i.fmod j), 2) else none
  | _, _ => none
def powD : DL → DL → Option DL
  | (.int i, _), (.int j, _) => if 0 ≤ j ∧ (Builtin.Int.intBits i : Int) * j ≤ 2 ^ 27 then some (.int (i ^ j.toNat), 2) else none
  | _, _ => none
def binD : Bo → DL → DL → Option DL
  | .add => addD | .sub => subD | .mul => mulD | .fdiv => fdivD | .mod => modD | .pow => powD
def pyPair (a b : D) : Option (PyData × PyData) := match a.py, b.py with
  | some p, some q => if SeqAt.shaped p && SeqAt.shaped q then some (p, q) else none
  | _, _ => none
def eqD (a b : D) : Option Bool := (pyPair a b).map fun pq => PyData.eqv pq.1 pq.2
def inD (a b : D) : Option Bool := match b with
  | .lst ys => match a.py, D.pyL ys with
    | some p, some qs => if SeqAt.shaped p && SeqAt.shaped (.list qs) then some (qs.any fun z => PyData.eqv z p) else none
    | _, _ => none
  | _ => none
def isD : D → D → Option Bool
  | .non, .non => some true | _, .non => some false
  | .bl a, .bl b => some (a == b) | _, .bl _ => some false
  | _, _ => none
def cmpD : Co → D → D → Option Bool
  | .eq, a, b => eqD a b
  | .ne, a, b => (eqD a b).map (!·)
  | .lt, .int i, .int j => some (decide (i < j))
  | .le, .int i, .int j => some (decide (i ≤ j))
  | .gt, .int i, .int j => some (decide (j < i))
  | .ge, .int i, .int j => some (decide (j ≤ i))
  | .in_, a, b => inD a b
  | .nin, a, b => (inD a b).map (!·)
  | .is_, a, b => isD a b
  | .isn, a, b => (isD a b).map (!·)
  | _, _, _ => none
/-- the items of a list, a tuple, a cell's list -/
def items (st : Sto) : D → Option (List D)
  | .lst xs => some xs
  | .tup xs => some xs
  | .cell k => st[k]?
  | .scr ns => some (ns.map .int)
  | _ => none
def ixD (st : Sto) : DL → D → Option DL
  | (d, l), .int i => (items st d).bind fun xs => (L2.atI xs i).map fun x => lvl (if l = 2 then 2 else 0) x
  | _, _ => none
def cutL {α : Type} (xs : List α) (lo hi : Option Int) : List α := (xs.drop (HT.sIx xs.length 0 lo)).take (HT.sIx xs.length xs.length hi - HT.sIx xs.length 0 lo)
def slD : DL → Option Int → Option Int → Option DL
  | (.lst xs, l), lo, hi => some (.lst (cutL xs lo hi), lvItems l xs)
  | (.scr ns, _), lo, hi => some (.lst (cutL (ns.map .int) lo hi), 2)
  | (.tup xs, l), lo, hi => if HT.sIx xs.length 0 lo = 0 ∧ HT.sIx xs.length xs.length hi = xs.length then none else some (lvl (if l = 2 then 2 else 0) (.tup (cutL xs lo hi)))
  | _, _, _ => none
def ints? : List D → Option (List Int)
  | [] => some []
  | .int i :: xs => (ints? xs).map (i :: ·)
  | _ :: _ => none
def flats? : List D → Option (List D)
  | [] => some []
  | .lst ys :: xs => (flats? xs).map (ys ++ ·)
  | _ :: _ => none
def maxL : List Int → Option Int
  | [] => none
  | x :: xs => some (xs.foldl (fun a b => if a < b then b else a) x)
def minL : List Int → Option Int
  | [] => none
  | x :: xs => some (xs.foldl (fun a b => if b < a then b else a) x)
def insI (x : Int) : List Int → List Int
  | [] => [x]
  | y :: ys => if x ≤ y then x :: y :: ys else y :: insI x ys
def sortI (xs : List Int) : List Int := xs.foldr insI []
/-- == of scalars -/
def eqS : D → D → Bool
  | .non, .non => true
  | .bl a, .bl b => a == b
  | .bl a, .int b => (if a then 1 else 0) == b
  | .int a, .bl b => a == (if b then 1 else 0)
  | .int a, .int b => a == b
  | .str a, .str b => a == b
  | _, _ => false
def reprOk (p : PyData) : Bool := p.showable && !p.hasDict && decide (p.shown.length ≤ PySem.sizeLine) && decide (p.depth ≤ 64) && PyProof.Rows.isDisplay p
def lenD (st : Sto) : List DL → Option DL
  | [(d, _)] => (items st d).map fun xs => (.int xs.length, 2)
  | _ => none
def sumD : List DL → Option DL
  | [(.lst xs, _)] => (ints? xs).map fun ns => (.int ns.sum, 2)
  | _ => none
/-- sum of lists, from [] -/
def sumfD : List DL → Option DL
  | [(.lst xs, _), (.lst [], 2)] => (flats? xs).bind fun ds => if ds.length ≤ most then some (.lst ds, if D.flatL ds then 2 else 1) else none
  | _ => none
def maxD : List DL → Option DL
  | [(.lst xs, _)] => (ints? xs).bind fun ns => (maxL ns).map fun n => (.int n, 2)
  | _ => none
def minD : List DL → Option DL
  | [(.lst xs, _)] => (ints? xs).bind fun ns => (minL ns).map fun n => (.int n, 2)
  | _ => none
def max2D : List DL → Option DL
  | [(.int i, _), (.int j, _)] => some (.int (if j > i then j else i), 2)
  | _ => none
def min2D : List DL → Option DL
  | [(.int i, _), (.int j, _)] => some (.int (if j < i then j else i), 2)
  | _ => none
def absD : List DL → Option DL
  | [(.int i, _)] => some (.int (if i < 0 then -i else i), 2)
  | _ => none
def intD : List DL → Option DL
  | [(.int i, _)] => some (.int i, 2)
  | [(.bl b, _)] => some (.int (if b then 1 else 0), 2)
  | _ => none
def listD : List DL → Option DL
  | [(.lst xs, l)] => some (.lst xs, lvItems l xs)
  | [(.tup xs, l)] => some (.lst xs, lvItems l xs)
  | _ => none
def tupleD : List DL → Option DL
  | [(.lst xs, l)] => some (lvl (if l = 2 then 2 else 0) (.tup xs))
  | _ => none
def sortedD : List DL → Option DL
  | [(.lst xs, _)] => (ints? xs).map fun ns => (.lst ((sortI ns).map .int), 2)
  | _ => none
def reprD : List DL → Option DL
  | [(d, _)] => d.py.bind fun p => if reprOk p then some (.str p.shown, 2) else none
  | _ => none
def bitsD : List DL → Option DL
  | [(.int i, _)] => some (.int (Builtin.Int.intBits i : Nat), 2)
  | _ => none
def cntD : List DL → Option DL
  | [(.lst xs, _), (.int k, _)] => (ints? xs).map fun ns => (.int (ns.count k : Nat), 2)
  | _ => none
def indexD : List DL → Option DL
  | [(.lst xs, _), (k, _)] => if xs.all D.scal && k.scal then (xs.findIdx? fun y => eqS y k).map fun i => (.int (i : Nat), 2) else none
  | _ => none
def biD (st : Sto) : Bi → List DL → Option DL
  | .len => lenD st | .sum => sumD | .max => maxD | .min => minD | .max2 => max2D | .min2 => min2D | .abs => absD | .int => intD
  | .list => listD | .tuple => tupleD | .sorted => sortedD | .repr => reprD | .bits => bitsD | .cnt => cntD | .index => indexD | .sumf => sumfD

/-! ### evaluation -/
abbrev Env := List (Option D)
mutual
def Tg.bind : Tg → D → Env → Option Env
  | .nm i, d, ρ => some (ρ.set i (some d))
  | .tp ts, .tup xs, ρ => Tg.bindL ts xs ρ
  | .tp ts, .lst xs, ρ => none
  | .tp _, _, _ => none
def Tg.bindL : List Tg → List D → Env → Option Env
  | [], [], ρ => some ρ
  | t :: ts, x :: xs, ρ => match Tg.bind t x ρ with
    | some ρ' => Tg.bindL ts xs ρ'
    | none => none
  | _, _, _ => none
end
def bool? : DL → Option Bool
  | (.bl b, _) => some b
  | _ => none
mutual
def Tg.slots : Tg → List Nat
  | .nm i => [i]
  | .tp ts => Tg.slotsL ts
def Tg.slotsL : List Tg → List Nat
  | [] => []
  | t :: ts => t.slots ++ Tg.slotsL ts
end
def wipeE (ρ : Env) : List Nat → Env
  | [] => ρ
  | v :: vs => (wipeE ρ vs).set v none
/-- a comprehension's turns -/
def lcGo (t : Env → Sto → R Bool) (f : Env → Sto → R DL) (g : Tg) (ρ : Env) : List D → Sto → R (List DL)
  | [], st => .ok [] st
  | d :: ds, st => match g.bind d ρ with
    | none => .no
    | some ρ' => (t ρ' st).bind fun b st1 => if b then (f ρ' st1).bind fun y st2 => (lcGo t f g ρ ds st2).bind fun ys st3 => .ok (y :: ys) st3 else lcGo t f g ρ ds st1
def noEx {α : Type} : R α → R α
  | .ok a s => .ok a s
  | _ => .no
def rngD (lo hi : Int) : List D := (List.range (hi - lo).toNat).map fun (i : Nat) => D.int (lo + (i : Int))
def enuD : Nat → List D → List D
  | _, [] => []
  | i, x :: xs => .tup [.int i, x] :: enuD (i + 1) xs
def zipD : List D → List D → List D
  | x :: xs, y :: ys => .tup [x, y] :: zipD xs ys
  | _, _ => []
/-- the first item with the least key -/
def minKey (k : D → Sto → Option (List Int)) (st : Sto) : List D → Option D
  | [] => none
  | x :: xs => xs.foldl (fun a y => match a with
    | some (m, km) => match k y st with
      | some ky => if ky < km then some (y, ky) else some (m, km)
      | none => none
    | none => none) ((k x st).map fun kx => (x, kx)) |>.map (·.1)
def keyI : D → Option (List Int)
  | .int i => some [i]
  | .tup xs => ints? xs
  | _ => none
def insK (k : List Int) (x : D) : List (List Int × D) → List (List Int × D)
  | [] => [(k, x)]
  | (l, y) :: r => if k ≤ l then (k, x) :: (l, y) :: r else (l, y) :: insK k x r
def keysOf (k : D → Option (List Int)) : List D → Option (List (List Int × D))
  | [] => some []
  | x :: xs => match k x, keysOf k xs with
    | some a, some r => some ((a, x) :: r)
    | _, _ => none
def srtKey (k : D → Option (List Int)) (xs : List D) : Option (List D) := (keysOf k xs).map fun kx => (kx.foldr (fun p r => insK p.1 p.2 r) []).map (·.2)
def permV {α : Type} : List Nat → List α → Option (List α)
  | [], _ => some []
  | i :: r, xs => match xs[i]? with
    | none => none
    | some x => (permV r xs).map (x :: ·)
def permD (pm : List Nat) (xs : List DL) : Option (List DL) := permV pm xs
def oneI : List DL → Option (Option Int)
  | [] => some none
  | [(.int i, _)] => some (some i)
  | _ => none

section
variable (call : Nat → List D → Sto → R DL)
mutual
def evalE : E → Env → Sto → R DL
  | .var i, ρ, st => match ρ[i]? with
    | some (some d) => .ok (lv0 d) st
    | _ => .no
  | .con d, _, st => .ok (lv0 d) st
  | .glo _ d, _, st => .ok (lv0 d) st
  | .lst es, ρ, st => (evalEs es ρ st).bind fun xs st1 => .ok (.lst (xs.map (·.1)), if xs.all (·.2 == 2) then 2 else 1) st1
  | .tup es, ρ, st => (evalEs es ρ st).bind fun xs st1 => .ok (lvl (if xs.all (·.2 == 2) then 2 else 0) (.tup (xs.map (·.1)))) st1
  | .emp, _, st => .ok (.fn 0, 2) st
  | .neg a, ρ, st => (evalE a ρ st).bind fun x st1 => match x with
    | (.int i, _) => .ok (.int (-i), 2) st1
    | _ => .no
  | .not a, ρ, st => (evalE a ρ st).bind fun x st1 => match bool? x with
    | some b => .ok (.bl (!b), 2) st1
    | none => .no
  | .bin o a b, ρ, st => (evalE a ρ st).bind fun x st1 => (evalE b ρ st1).bind fun y st2 => .of (binD o x y) st2
  | .cmp o a b, ρ, st => (evalE a ρ st).bind fun x st1 => (evalE b ρ st1).bind fun y st2 => .of ((cmpD o x.1 y.1).map fun c => (.bl c, 2)) st2
  | .cmp2 o p a b c, ρ, st => (evalE a ρ st).bind fun x st1 => (evalE b ρ st1).bind fun y st2 => match cmpD o x.1 y.1 with
    | none => .no
    | some false => .ok (.bl false, 2) st2
    | some true => (evalE c ρ st2).bind fun z st3 => .of ((cmpD p y.1 z.1).map fun c => (.bl c, 2)) st3
  | .and a b, ρ, st => (evalE a ρ st).bind fun x st1 => match bool? x with
    | some true => evalE b ρ st1
    | some false => .ok (.bl false, 2) st1
    | none => .no
  | .or a b, ρ, st => (evalE a ρ st).bind fun x st1 => match bool? x with
    | some true => .ok (.bl true, 2) st1
    | some false => evalE b ρ st1
    | none => .no
  | .ife c a b, ρ, st => (evalE c ρ st).bind fun x st1 => match bool? x with
    | some true => evalE a ρ st1
    | some false => evalE b ρ st1
    | none => .no
  | .ix a b, ρ, st => (evalE a ρ st).bind fun x st1 => (evalE b ρ st1).bind fun y st2 => .of (ixD st2 x y.1) st2
  | .sl a lo hi, ρ, st => (evalE a ρ st).bind fun x st1 => (evalEs lo ρ st1).bind fun y st2 => (evalEs hi ρ st2).bind fun z st3 => match oneI y, oneI z with
    | some i, some j => .of (slD x i j) st3
    | _, _ => .no
  | .rev a, ρ, st => (evalE a ρ st).bind fun x st1 => match x with
    | (.lst xs, l) => .ok (.lst xs.reverse, lvItems l xs) st1
    | _ => .no
  | .lc v t s c, ρ, st => (evalSr s ρ st).bind fun ds st1 => (lcGo (fun ρ st => noEx (evalTs c ρ st)) (fun ρ st => noEx (evalE v ρ st)) t (wipeE ρ t.slots) ds st1).bind fun ys st2 =>
      .ok (.lst (ys.map (·.1)), if ys.all (·.2 == 2) then 2 else 1) st2
  | .lsr s, ρ, st => (evalSr s ρ st).bind fun ds st1 => if D.flatL ds then .ok (.lst ds, 2) st1 else .no
  | .call f as, ρ, st => (evalEs as ρ st).bind fun xs st1 => call f (xs.map (·.1)) st1
  | .callk f pm as ks, ρ, st => (evalEs as ρ st).bind fun xs st1 => (evalEs ks ρ st1).bind fun ys st2 => match permD pm (xs ++ ys) with
    | some zs => call f (zs.map (·.1)) st2
    | none => .no
  | .bi b as, ρ, st => (evalEs as ρ st).bind fun xs st1 => .of (biD st1 b xs) st1
  | .isi a ts, ρ, st => (evalE a ρ st).bind fun x st1 => .of ((ts.foldr (fun t r => match isTyD t x.1, r with
      | some b, some c => some (b || c)
      | _, _ => none) (some false)).map fun c => (.bl c, 2)) st1
  | .mink a i v, ρ, st => (evalE a ρ st).bind fun x st1 => match x with
    | (.lst xs, l) => .of ((minKey (fun d st => match evalE v (ρ.set i (some d)) st with
        | .ok (y, _) _ => keyI y
        | _ => none) st1 xs).map fun d => lvl (if l = 2 then 2 else 0) d) st1
    | _ => .no
  | .srtk s i v, ρ, st => (evalSr s ρ st).bind fun xs st1 => .of ((srtKey (fun d => match evalE v (ρ.set i (some d)) st1 with
        | .ok (y, _) _ => keyI y
        | _ => none) xs).map fun ys => (.lst ys, if D.flatL ys then 2 else 1)) st1
def evalEs : Es → Env → Sto → R (List DL)
  | .nil, _, st => .ok [] st
  | .cons e es, ρ, st => (evalE e ρ st).bind fun x st1 => (evalEs es ρ st1).bind fun xs st2 => .ok (x :: xs) st2
def evalTs : Es → Env → Sto → R Bool
  | .nil, _, st => .ok true st
  | .cons e .nil, ρ, st => (evalE e ρ st).bind fun x st1 => .of (bool? x) st1
  | .cons _ (.cons _ _), _, _ => .no
/-- what a loop goes over -/
def evalSr : Sr → Env → Sto → R (List D)
  | .seq e, ρ, st => (evalE e ρ st).bind fun x st1 => match x with
    | (.lst xs, _) => .ok xs st1
    | (.tup xs, _) => .ok xs st1
    | _ => .no
  | .rng1 a, ρ, st => (evalE a ρ st).bind fun x st1 => match x with
    | (.int n, _) => if -most ≤ n ∧ n ≤ most then .ok (rngD 0 n) st1 else .no
    | _ => .no
  | .rng2 a b, ρ, st => (evalE a ρ st).bind fun x st1 => (evalE b ρ st1).bind fun y st2 => match x, y with
    | (.int m, _), (.int n, _) => if -most ≤ m ∧ m ≤ most ∧ -most ≤ n ∧ n ≤ most then .ok (rngD m n) st2 else .no
    | _, _ => .no
  | .enu e, ρ, st => (evalE e ρ st).bind fun x st1 => match x with
    | (.lst xs, _) => .ok (enuD 0 xs) st1
    | _ => .no
  | .zip a b, ρ, st => (evalE a ρ st).bind fun x st1 => (evalE b ρ st1).bind fun y st2 => match x, y with
    | (.lst xs, _), (.lst ys, _) => .ok (zipD xs ys) st2
    | _, _ => .no
end
end

/-! ### statements -/
abbrev SEnv := List (Option DL)
mutual
inductive S where
  | asg (i : Nat) (e : E) (vs : List Nat)
  | asgT (t : Tg) (e : E) (vs : List Nat)
  | par (i j : Nat) (a b : E) (vs : List Nat)
  | par3 (i j k : Nat) (a b c : E) (vs : List Nat)
  | set1 (i : Nat) (x e : E) (vs : List Nat)
  | set2 (i : Nat) (x y e : E) (vs : List Nat)
  | app (i : Nat) (e : E) (vs : List Nat)
  | app1 (i : Nat) (x e : E) (vs : List Nat)
  | rem (i : Nat) (e : E) (vs : List Nat)
  | appop (i j : Nat) (e : E) (vs : List Nat)
  | asgpop (i j : Nat) (e : E) (vs : List Nat)
  | cset (i : Nat) (x e : E) (vs : List Nat)
  | asgc (i : Nat) (e : E)
  | parc (i j : Nat) (a b : E)
  | expr (e : E) (vs : List Nat)
  | ite (c : E) (vs : List Nat) (a b : Ss)
  | whl (n : Nat) (c : E) (vs : List Nat) (b : Ss)
  | for_ (t : Tg) (s : Sr) (vs : List Nat) (b : Ss)
  | forR (t : Tg) (s : Sr) (vs wr : List Nat) (b : Ss)
  | ret (e : E) (vs : List Nat)
  | retv (i : Nat)
  | retN | brk | cnt | pass
  | rais (e : E)
inductive Ss where
  | nil | cons (s : S) (r : Ss) | prot (wr : List Nat) (b r : Ss)
end
inductive Fl where
  | nx | brk | cnt | ret (d : D) (l : Nat)
def visible (vs : List Nat) (i : Nat) (x : DL) : Bool := vs.contains i || x.2 == 0 || x.2 == 3 || x.1.flat
def viewGo (vs : List Nat) : Nat → SEnv → Env
  | _, [] => []
  | i, none :: r => none :: viewGo vs (i + 1) r
  | i, some x :: r => (if visible vs i x then some x.1 else none) :: viewGo vs (i + 1) r
def view (vs : List Nat) (ρ : SEnv) : Env := viewGo vs 0 ρ
def fz1 (vs : List Nat) (i : Nat) (x : DL) : DL := if vs.contains i && !x.1.flat && x.2 != 3 then (x.1, 0) else x
def fzGo (vs : List Nat) : Nat → SEnv → SEnv
  | _, [] => []
  | i, o :: r => o.map (fz1 vs i) :: fzGo vs (i + 1) r
def fz (vs : List Nat) (ρ : SEnv) : SEnv := fzGo vs 0 ρ
def setS (ρ : SEnv) (i : Nat) (x : DL) : Option SEnv := match ρ[i]? with
  | some (some (_, 3)) => none
  | some _ => some (ρ.set i (some x))
  | none => none
mutual
def Tg.bindS : Tg → DL → SEnv → Option SEnv
  | .nm i, x, ρ => setS ρ i x
  | .tp ts, (.tup xs, l), ρ => Tg.bindSL ts xs l ρ
  | .tp _, _, _ => none
def Tg.bindSL : List Tg → List D → Nat → SEnv → Option SEnv
  | [], [], _, ρ => some ρ
  | t :: ts, x :: xs, l, ρ => match Tg.bindS t (lvl (if l = 2 then 2 else 0) x) ρ with
    | some ρ' => Tg.bindSL ts xs l ρ'
    | none => none
  | _, _, _, _ => none
end
/-- a slot's own list -/
def ownL (ρ : SEnv) (i : Nat) : Option (List D × Nat) := match ρ[i]? with
  | some (some (.lst xs, l)) => if l = 1 ∨ l = 2 then some (xs, l) else none
  | _ => none
def minLv (l m : Nat) : Nat := if l = 2 ∧ m = 2 then 2 else 1
def protGo (wr : List Nat) : Nat → SEnv → SEnv
  | _, [] => []
  | i, o :: r => (if wr.contains i then o else o.map fun x => (x.1, 3)) :: protGo wr (i + 1) r
def backOf (o p : Option DL) : Option DL := match o with
  | some (d, 3) => some (d, 3)
  | _ => match p with
    | some (d, _) => if d.flat then some (d, 2) else none
    | none => none
def backGo (wr : List Nat) : Nat → SEnv → SEnv → SEnv
  | i, o :: r, p :: q => (if wr.contains i then backOf o p else o) :: backGo wr (i + 1) r q
  | _, _, _ => []
def forGo (body : SEnv → Sto → R (Fl × SEnv)) (t : Tg) : List D → SEnv → Sto → R (Fl × SEnv)
  | [], ρ, st => .ok (.nx, ρ) st
  | d :: ds, ρ, st => match t.bindS (lv0 d) ρ with
    | none => .no
    | some ρ1 => (body ρ1 st).bind fun f st1 => match f with
      | (.nx, ρ2) => forGo body t ds ρ2 st1
      | (.cnt, ρ2) => forGo body t ds ρ2 st1
      | (.brk, ρ2) => .ok (.nx, ρ2) st1
      | (.ret d l, ρ2) => .ok (.ret d l, ρ2) st1
def whlGo (c : SEnv → Sto → R Bool) (body : SEnv → Sto → R (Fl × SEnv)) : Nat → SEnv → Sto → R (Fl × SEnv)
  | 0, _, _ => .no
  | n + 1, ρ, st => (c ρ st).bind fun b st1 => if b then (body ρ st1).bind fun f st2 => match f with
      | (.nx, ρ2) => whlGo c body n ρ2 st2
      | (.cnt, ρ2) => whlGo c body n ρ2 st2
      | (.brk, ρ2) => .ok (.nx, ρ2) st2
      | (.ret d l, ρ2) => .ok (.ret d l, ρ2) st2
    else .ok (.nx, ρ) st1
section
variable (call : Nat → List D → Sto → R DL)
/-- an expression in a statement: what may be known to others afterwards is frozen -/
def evalB (e : E) (vs : List Nat) (ρ : SEnv) (st : Sto) : R (DL × SEnv) :=
  (evalE call e (view vs ρ) st).bind fun x st1 => .ok (x, if x.2 = 2 then ρ else fz vs ρ) st1
def evalC (e : E) (vs : List Nat) (ρ : SEnv) (st : Sto) : R Bool :=
  (evalE call e (view vs ρ) st).bind fun x st1 => .of (bool? x) st1
def stoU (o : Option SEnv) (st : Sto) : R (Fl × SEnv) := match o with
  | some ρ => .ok (.nx, ρ) st
  | none => .no
mutual
def execS : S → SEnv → Sto → R (Fl × SEnv)
  | .asg i e vs, ρ, st => (evalB call e vs ρ st).bind fun x st1 => stoU (setS x.2 i x.1) st1
  | .asgT t e vs, ρ, st => (evalB call e vs ρ st).bind fun x st1 => stoU (t.bindS x.1 x.2) st1
  | .par i j a b vs, ρ, st => (evalB call a vs ρ st).bind fun x st1 => (evalB call b vs ρ st1).bind fun y st2 => if i = j then .no else
      stoU ((setS (if x.1.2 = 2 ∧ y.1.2 = 2 then ρ else fz vs ρ) i x.1).bind fun ρ' => setS ρ' j y.1) st2
  | .par3 i j k a b c vs, ρ, st => (evalB call a vs ρ st).bind fun x st1 => (evalB call b vs ρ st1).bind fun y st2 => (evalB call c vs ρ st2).bind fun z st3 => if i = j ∨ i = k ∨ j = k then .no else
      stoU ((setS (if x.1.2 = 2 ∧ y.1.2 = 2 ∧ z.1.2 = 2 then ρ else fz vs ρ) i x.1).bind fun ρ' => (setS ρ' j y.1).bind fun ρ'' => setS ρ'' k z.1) st3
  | .set1 i x e vs, ρ, st => (evalB call e vs ρ st).bind fun y st1 => (evalE call x (view [] y.2) st1).bind fun k st2 => match ownL y.2 i, k.1 with
    | some (xs, l), .int n => (match L2.ixN xs.length n with
      | some m => .ok (.nx, y.2.set i (some (.lst (xs.set m y.1.1), minLv l y.1.2))) st2
      | none => .no)
    | _, _ => .no
  | .set2 i x z e vs, ρ, st => (evalB call e vs ρ st).bind fun y st1 => (evalE call x (view [] y.2) st1).bind fun k st2 => (evalE call z (view [] y.2) st2).bind fun k2 st3 => match ownL y.2 i, k.1, k2.1 with
    | some (xs, 2), .int n, .int n2 => (match L2.ixN xs.length n with
      | some m => (match xs[m]? with
        | some (.lst ys) => (match L2.ixN ys.length n2 with
          | some m2 => if y.1.2 = 2 then .ok (.nx, y.2.set i (some (.lst (xs.set m (.lst (ys.set m2 y.1.1))), 2))) st3 else .no
          | none => .no)
        | _ => .no)
      | none => .no)
    | _, _, _ => .no
  | .app i e vs, ρ, st => (evalB call e vs ρ st).bind fun y st1 => match ownL y.2 i with
    | some (xs, l) => if xs.length < most then .ok (.nx, y.2.set i (some (.lst (xs ++ [y.1.1]), minLv l y.1.2))) st1 else .no
    | none => .no
  | .app1 i x e vs, ρ, st => (evalE call x (view [] ρ) st).bind fun k st1 => (evalB call e vs ρ st1).bind fun y st2 => match ownL y.2 i, k.1 with
    | some (xs, 2), .int n => (match L2.ixN xs.length n with
      | some m => (match xs[m]? with
        | some (.lst ys) => if y.1.2 = 2 ∧ ys.length < most then .ok (.nx, y.2.set i (some (.lst (xs.set m (.lst (ys ++ [y.1.1]))), 2))) st2 else .no
        | _ => .no)
      | none => .no)
    | _, _ => .no
  | .rem i e vs, ρ, st => (evalB call e vs ρ st).bind fun y st1 => match ownL y.2 i, y.1.1 with
    | some (xs, l), .int n => (match ints? xs with
      | some ns => if n ∈ ns then .ok (.nx, y.2.set i (some (.lst ((ns.erase n).map .int), 2))) st1 else .no
      | none => .no)
    | _, _ => .no
  | .appop i j e vs, ρ, st => (evalE call e (view vs ρ) st).bind fun k st1 => match ownL ρ i, ownL ρ j, k.1 with
    | some (xs, l), some (ys, m), .int n => (match L2.ixN ys.length n with
      | some p => (match ys[p]? with
        | some y => if y.flat ∧ xs.length < most ∧ i ≠ j ∧ ys.length ≤ most then .ok (.nx, (ρ.set j (some (.lst (ys.eraseIdx p), m))).set i (some (.lst (xs ++ [y]), l))) st1 else .no
        | none => .no)
      | none => .no)
    | _, _, _ => .no
  | .asgpop i j e vs, ρ, st => (evalE call e (view vs ρ) st).bind fun k st1 => match ownL ρ j, k.1 with
    | some (ys, m), .int n => (match L2.ixN ys.length n with
      | some p => (match ys[p]? with
        | some y => if i ≠ j ∧ ys.length ≤ most then stoU (setS (ρ.set j (some (.lst (ys.eraseIdx p), m))) i (lvl (if m = 2 then 2 else 0) y)) st1 else .no
        | none => .no)
      | none => .no)
    | _, _ => .no
  | .cset i x e vs, ρ, st => (evalB call e vs ρ st).bind fun y st1 => (evalE call x (view [] y.2) st1).bind fun k st2 => match (view [] y.2)[i]?, k.1 with
    | some (some (.cell c)), .int n => (match st2[c]? with
      | some xs => (match L2.ixN xs.length n with
        | some m => if y.1.1.scal then .ok (.nx, y.2) (st2.set c (xs.set m y.1.1)) else .no
        | none => .no)
      | none => .no)
    | _, _ => .no
  | .asgc i e, ρ, st => (evalE call e (view [] ρ) st).bind fun x st1 => match x with
    | (.lst xs, l) => if xs.all D.scal ∧ (l = 1 ∨ l = 2) then stoU (setS ρ i (.cell st1.length, 2)) (st1 ++ [xs]) else .no
    | _ => .no
  | .parc i j a b, ρ, st => (evalE call a (view [] ρ) st).bind fun x st1 => (evalE call b (view [] ρ) st1).bind fun y st2 => match x, y with
    | (.lst xs, l), (.lst ys, m) => if xs.all D.scal ∧ (l = 1 ∨ l = 2) ∧ ys.all D.scal ∧ (m = 1 ∨ m = 2) ∧ i ≠ j then stoU ((setS ρ i (.cell st2.length, 2)).bind fun ρ' => setS ρ' j (.cell (st2.length + 1), 2)) (st2 ++ [xs, ys]) else .no
    | _, _ => .no
  | .expr e vs, ρ, st => (evalE call e (view vs ρ) st).bind fun x st1 => .ok (.nx, ρ) st1
  | .ite c vs a b, ρ, st => (evalC call c vs ρ st).bind fun x st1 => if x then execSs a ρ st1 else execSs b ρ st1
  | .whl n c vs b, ρ, st => whlGo (fun ρ st => evalC call c vs ρ st) (fun ρ st => execSs b ρ st) n ρ st
  | .for_ t s vs b, ρ, st => (evalSr call s (view vs ρ) st).bind fun ds st1 => forGo (fun ρ st => execSs b ρ st) t ds (fz vs ρ) st1
  | .forR t s vs wr b, ρ, st => if vs.any wr.contains then .no else (evalSr call s (view vs ρ) st).bind fun ds st1 => (forGo (fun ρ st => execSs b ρ st) t ds (protGo wr 0 ρ) st1).bind fun f st2 => match f with
    | (.nx, ρ2) => .ok (.nx, backGo wr 0 ρ ρ2) st2
    | (.ret d l, ρ2) => .ok (.ret d l, ρ2) st2
    | _ => .no
  | .ret e vs, ρ, st => (evalE call e (view vs ρ) st).bind fun x st1 => .ok (.ret x.1 x.2, ρ) st1
  | .retv i, ρ, st => match ρ[i]? with
    | some (some (d, l)) => .ok (.ret d (lvl (if l = 3 then 0 else l) d).2, ρ) st
    | _ => .no
  | .retN, ρ, st => .ok (.ret .non 2, ρ) st
  | .brk, ρ, st => .ok (.brk, ρ) st
  | .cnt, ρ, st => .ok (.cnt, ρ) st
  | .pass, ρ, st => .ok (.nx, ρ) st
  | .rais _, _, _ => .no
def execSs : Ss → SEnv → Sto → R (Fl × SEnv)
  | .nil, ρ, st => .ok (.nx, ρ) st
  | .cons s r, ρ, st => (execS s ρ st).bind fun f st1 => match f with
    | (.nx, ρ1) => execSs r ρ1 st1
    | (f, ρ1) => .ok (f, ρ1) st1
  | .prot wr b r, ρ, st => (execSs b (protGo wr 0 ρ) st).bind fun f st1 => match f with
    | (.nx, ρ2) => execSs r (backGo wr 0 ρ ρ2) st1
    | (.ret d l, ρ2) => .ok (.ret d l, ρ2) st1
    | _ => .no
end
end

/-! ### defs -/
structure Fn where
  np : Nat
  nl : Nat
  body : Ss
def startS (f : Fn) (xs : List D) : SEnv := (xs.map fun d => some (lv0 d)) ++ List.replicate (f.nl - f.np) none
def outOf : R (Fl × SEnv) → R DL
  | .ok (.ret d l, _) st => .ok (d, l) st
  | .ok (.nx, _) st => .ok (.non, 2) st
  | .ok _ _ => .no
  | .ex c x st => .ex c x st
  | .no => .no
/-- the def f of the table T, called, to the depth n -/
def run (T : List Fn) : Nat → Nat → List D → Sto → R DL
  | 0, _, _, _ => .no
  | n + 1, f, xs, st => match T[f]? with
    | some fn => if xs.length = fn.np then (match outOf (execSs (run T n) fn.body (startS fn xs) st) with
      | .ok (d, l) st1 => if st1.length = st.length then .ok (d, l) st1 else if d.scal then .ok (d, 2) (st1.take st.length) else .no
      | .ex c x st1 => .ex c x (st1.take st.length)
      | .no => .no) else .no
    | none => .no
end IX
/-! IXb: when a value of the abstract heap is a tree value. Own work. -/
namespace IX
open PySem PySem.Spec PyProof.Rows L2 Evl

section
variable (K : PySem.W.Frag)
mutual
/-- v is d, read in the frozen heap Z, the cells at C -/
inductive Is (Z : Hp) (C : List Addr) : V → D → Prop
  | non : Is Z C .non .non
  | bl (b : Bool) : Is Z C (.bl b) (.bl b)
  | int (i : Int) : Is Z C (.int i) (.int i)
  | str (x : Str) : Is Z C (.str x) (.str x)
  | lst {a : Addr} {xs : List V} {ds : List D} : Z a = some (.lst xs) → xs.length ≤ sizeLine → IsL Z C xs ds → Is Z C (.ref a) (.lst ds)
  | tup {a : Addr} {xs : List V} {ds : List D} : SqT K Z a xs → xs.length ≤ sizeLine → IsL Z C xs ds → Is Z C (.ref a) (.tup ds)
  | cell {a : Addr} {k : Nat} : C[k]? = some a → Is Z C (.ref a) (.cell k)
  | emp {a : Addr} {k : Nat} : Z a = some (.dK []) → Is Z C (.ref a) (.fn k)
  | scr {a : Addr} {ns : List Int} : SqL K Z a (ns.map V.int) → ns.length ≤ 1000 → Is Z C (.ref a) (.scr ns)
inductive IsL (Z : Hp) (C : List Addr) : List V → List D → Prop
  | nil : IsL Z C [] []
  | cons {v : V} {vs : List V} {d : D} {ds : List D} : Is Z C v d → IsL Z C vs ds → IsL Z C (v :: vs) (d :: ds)
end
mutual
/-- v is d of level l; S: the lists of it that no one else knows -/
inductive Ow (Z : Hp) (C : List Addr) (H : Hp) : Nat → List Addr → V → D → Prop
  | fro {v : V} {d : D} : Is K Z C v d → Ow Z C H 0 [] v d
  | flt {l : Nat} {v : V} {d : D} : Is K Z C v d → d.flat = true → Ow Z C H l [] v d
  | one {p : Addr} {vs : List V} {ds : List D} : H p = some (.lst vs) → Z p = none → vs.length ≤ sizeLine → IsL K Z C vs ds → Ow Z C H 1 [p] (.ref p) (.lst ds)
  | lst {S : List Addr} {p : Addr} {vs : List V} {ds : List D} : H p = some (.lst vs) → Z p = none → vs.length ≤ sizeLine → OwL Z C H S vs ds → Ow Z C H 2 (p :: S) (.ref p) (.lst ds)
  | tup {S : List Addr} {p : Addr} {vs : List V} {ds : List D} : SqT K Z p vs → vs.length ≤ sizeLine → OwL Z C H S vs ds → Ow Z C H 2 S (.ref p) (.tup ds)
inductive OwL (Z : Hp) (C : List Addr) (H : Hp) : List Addr → List V → List D → Prop
  | nil : OwL Z C H [] [] []
  | cons {S S' : List Addr} {v : V} {vs : List V} {d : D} {ds : List D} : Ow Z C H 2 S v d → OwL Z C H S' vs ds → OwL Z C H (S ++ S') (v :: vs) (d :: ds)
end
end

section
variable {K : PySem.W.Frag} {Z Z' H H' : Hp} {C C' : List Addr} {v : V} {vs : List V} {d : D} {ds : List D} {l : Nat} {S : List Addr} {a p : Addr}

theorem IsL.length : ∀ {vs : List V} {ds : List D}, IsL K Z C vs ds → vs.length = ds.length
  | _, _, .nil => rfl
  | _, _, .cons _ t => by simp [IsL.length t]
theorem IsL.get : ∀ {vs : List V} {ds : List D} {i : Nat} {d : D}, IsL K Z C vs ds → ds[i]? = some d → ∃ v, vs[i]? = some v ∧ Is K Z C v d
  | _, _, _, _, .nil, h => by simp at h
  | _, _, 0, _, .cons r _, h => ⟨_, rfl, by cases h; exact r⟩
  | _, _, i + 1, _, .cons _ t, h => IsL.get (i := i) t (by simpa using h)
theorem IsL.getV : ∀ {vs : List V} {ds : List D} {i : Nat} {v : V}, IsL K Z C vs ds → vs[i]? = some v → ∃ d, ds[i]? = some d ∧ Is K Z C v d
  | _, _, _, _, .nil, h => by simp at h
  | _, _, 0, _, .cons r _, h => ⟨_, rfl, by cases h; exact r⟩
  | _, _, i + 1, _, .cons _ t, h => IsL.getV (i := i) t (by simpa using h)
theorem IsL.append : ∀ {vs ws : List V} {ds es : List D}, IsL K Z C vs ds → IsL K Z C ws es → IsL K Z C (vs ++ ws) (ds ++ es)
  | _, _, _, _, .nil, s => s
  | _, _, _, _, .cons r t, s => .cons r (IsL.append t s)
theorem IsL.set (r : Is K Z C v d) : ∀ {vs : List V} {ds : List D} (i : Nat), IsL K Z C vs ds → IsL K Z C (vs.set i v) (ds.set i d)
  | _, _, _, .nil => .nil
  | _, _, 0, .cons _ t => .cons r t
  | _, _, i + 1, .cons q t => .cons q (IsL.set r i t)
theorem IsL.take : ∀ {vs : List V} {ds : List D} (n : Nat), IsL K Z C vs ds → IsL K Z C (vs.take n) (ds.take n)
  | _, _, 0, _ => .nil
  | _, _, _ + 1, .nil => .nil
  | _, _, n + 1, .cons r t => .cons r (IsL.take n t)
theorem IsL.drop : ∀ {vs : List V} {ds : List D} (n : Nat), IsL K Z C vs ds → IsL K Z C (vs.drop n) (ds.drop n)
  | _, _, 0, h => h
  | _, _, _ + 1, .nil => .nil
  | _, _, n + 1, .cons _ t => IsL.drop n t
theorem IsL.reverse : ∀ {vs : List V} {ds : List D}, IsL K Z C vs ds → IsL K Z C vs.reverse ds.reverse
  | _, _, .nil => .nil
  | _, _, .cons r t => by simp only [List.reverse_cons]; exact (IsL.reverse t).append (.cons r .nil)
theorem IsL.erase : ∀ {vs : List V} {ds : List D} (i : Nat), IsL K Z C vs ds → IsL K Z C (vs.eraseIdx i) (ds.eraseIdx i)
  | _, _, _, .nil => .nil
  | _, _, 0, .cons _ t => t
  | _, _, i + 1, .cons q t => .cons q (IsL.erase i t)
theorem IsL.split : ∀ {vs ws : List V} {es : List D}, IsL K Z C (vs ++ ws) es → ∃ ds fs, es = ds ++ fs ∧ IsL K Z C vs ds ∧ IsL K Z C ws fs
  | [], _, es, h => ⟨[], es, rfl, .nil, h⟩
  | v :: vs, _, _, .cons r t => by
    obtain ⟨ds, fs, rfl, h1, h2⟩ := IsL.split (vs := vs) t
    exact ⟨_ :: ds, fs, rfl, .cons r h1, h2⟩

/-- what stays known of the frozen heap -/
def Pre (C C' : List Addr) : Prop := ∀ (k : Nat) (a : Addr), C[k]? = some a → C'[k]? = some a
theorem Pre.refl (C : List Addr) : Pre C C := fun _ _ h => h
mutual
theorem Is.mono (e : Ex Z Z') (c : Pre C C') : ∀ {v : V} {d : D}, Is K Z C v d → Is K Z' C' v d
  | _, _, .non => .non
  | _, _, .bl b => .bl b
  | _, _, .int i => .int i
  | _, _, .str x => .str x
  | _, _, .lst h z t => .lst (e _ _ h) z (IsL.mono e c t)
  | _, _, .tup h z t => .tup (ex_t e h) z (IsL.mono e c t)
  | _, _, .cell h => .cell (c _ _ h)
  | _, _, .emp h => .emp (e _ _ h)
  | _, _, .scr h z => .scr (ex_l e h) z
theorem IsL.mono (e : Ex Z Z') (c : Pre C C') : ∀ {vs : List V} {ds : List D}, IsL K Z C vs ds → IsL K Z' C' vs ds
  | _, _, .nil => .nil
  | _, _, .cons r t => .cons (Is.mono e c r) (IsL.mono e c t)
end
theorem Is.to (h : Is K Z C v d) (e : Ex Z Z') : Is K Z' C v d := h.mono e (Pre.refl C)
theorem IsL.to (h : IsL K Z C vs ds) (e : Ex Z Z') : IsL K Z' C vs ds := h.mono e (Pre.refl C)

mutual
theorem dp_mono (e : Ex Z Z') : ∀ {v : V} {p : PyData}, Dp K Z v p → Dp K Z' v p
  | _, _, .non => .non
  | _, _, .bl b => .bl b
  | _, _, .int i => .int i
  | _, _, .str x => .str x
  | _, _, .lst h t => .lst (ex_l e h) (dpAll_mono e t)
  | _, _, .tup h t => .tup (ex_t e h) (dpAll_mono e t)
theorem dpAll_mono (e : Ex Z Z') : ∀ {vs : List V} {ps : List PyData}, DpAll K Z vs ps → DpAll K Z' vs ps
  | _, _, .nil => .nil
  | _, _, .cons r t => .cons (dp_mono e r) (dpAll_mono e t)
end
mutual
theorem Is.dp : ∀ {v : V} {d : D} {p : PyData}, Is K Z C v d → d.py = some p → Dp K Z v p
  | _, _, _, .non, h => by cases h; exact .non
  | _, _, _, .bl b, h => by cases h; exact .bl b
  | _, _, _, .int i, h => by cases h; exact .int i
  | _, _, _, .str x, h => by cases h; exact .str x
  | _, .lst ds, _, .lst s _ t, h => by
    simp only [D.py, Option.map_eq_some_iff] at h
    obtain ⟨ps, hp, rfl⟩ := h
    exact .lst (sq_of s) (IsL.dp t hp)
  | _, .tup ds, _, .tup s _ t, h => by
    simp only [D.py, Option.map_eq_some_iff] at h
    obtain ⟨ps, hp, rfl⟩ := h
    exact .tup s (IsL.dp t hp)
  | _, _, _, .cell _, h => by cases h
  | _, _, _, .emp _, h => by cases h
  | _, _, _, .scr _ _, h => by cases h
theorem IsL.dp : ∀ {vs : List V} {ds : List D} {ps : List PyData}, IsL K Z C vs ds → D.pyL ds = some ps → DpAll K Z vs ps
  | _, _, _, .nil, h => by cases h; exact .nil
  | _, d :: ds, _, .cons r t, h => by
    simp only [D.pyL] at h
    split at h
    · rename_i p ps h1 h2
      cases h
      exact .cons (Is.dp r h1) (IsL.dp t h2)
    · cases h
end

/-! ### scalars -/
theorem is_int {i : Int} (h : Is K Z C v (.int i)) : v = .int i := by cases h; rfl
theorem is_bl {b : Bool} (h : Is K Z C v (.bl b)) : v = .bl b := by cases h; rfl
theorem is_str {x : Str} (h : Is K Z C v (.str x)) : v = .str x := by cases h; rfl
theorem is_non (h : Is K Z C v .non) : v = .non := by cases h; rfl
theorem is_lst (h : Is K Z C v (.lst ds)) : ∃ a xs, v = .ref a ∧ Z a = some (.lst xs) ∧ xs.length ≤ sizeLine ∧ IsL K Z C xs ds := by cases h; exact ⟨_, _, rfl, ‹_›, ‹_›, ‹_›⟩
theorem is_tup (h : Is K Z C v (.tup ds)) : ∃ a xs, v = .ref a ∧ SqT K Z a xs ∧ xs.length ≤ sizeLine ∧ IsL K Z C xs ds := by cases h; exact ⟨_, _, rfl, ‹_›, ‹_›, ‹_›⟩
theorem is_cell {k : Nat} (h : Is K Z C v (.cell k)) : ∃ a, v = .ref a ∧ C[k]? = some a := by cases h; exact ⟨_, rfl, ‹_›⟩
theorem isl_ints : ∀ {vs : List V} {ds : List D} {ns : List Int}, IsL K Z C vs ds → ints? ds = some ns → vs = ns.map V.int ∧ ds = ns.map D.int
  | _, [], _, .nil, h => by cases h; exact ⟨rfl, rfl⟩
  | _, .int i :: ds, _, .cons r t, h => by
    simp only [ints?, Option.map_eq_some_iff] at h
    obtain ⟨ns, hn, rfl⟩ := h
    obtain ⟨e1, e2⟩ := isl_ints t hn
    rw [is_int r, e1, e2]
    exact ⟨rfl, rfl⟩
  | _, .non :: _, _, _, h => by cases h
  | _, .bl _ :: _, _, _, h => by cases h
  | _, .str _ :: _, _, _, h => by cases h
  | _, .lst _ :: _, _, _, h => by cases h
  | _, .tup _ :: _, _, _, h => by cases h
  | _, .cell _ :: _, _, _, h => by cases h
  | _, .fn _ :: _, _, _, h => by cases h
  | _, .clo _ _ :: _, _, _, h => by cases h
  | _, .exc _ _ :: _, _, _, h => by cases h
  | _, .scr _ :: _, _, _, h => by cases h
theorem isl_of_ints : ∀ ns : List Int, IsL K Z C (ns.map V.int) (ns.map D.int)
  | [] => .nil
  | n :: ns => .cons (.int n) (isl_of_ints ns)

/-! ### owned -/
mutual
theorem Ow.node : ∀ {l : Nat} {S : List Addr} {v : V} {d : D}, Ow K Z C H l S v d → ∀ a ∈ S, Z a = none ∧ ∃ vs, H a = some (.lst vs)
  | _, _, _, _, .fro _, _, h => by simp at h
  | _, _, _, _, .flt _ _, _, h => by simp at h
  | _, _, _, _, .one e z _ _, _, h => by
    simp only [List.mem_singleton] at h
    subst h
    exact ⟨z, _, e⟩
  | _, _, _, _, .lst e z _ t, a, h => by
    rcases List.mem_cons.mp h with rfl | h
    · exact ⟨z, _, e⟩
    · exact OwL.node t a h
  | _, _, _, _, .tup _ _ t, a, h => OwL.node t a h
theorem OwL.node : ∀ {S : List Addr} {vs : List V} {ds : List D}, OwL K Z C H S vs ds → ∀ a ∈ S, Z a = none ∧ ∃ vs, H a = some (.lst vs)
  | _, _, _, .nil, _, h => by simp at h
  | _, _, _, .cons r t, a, h => by
    rcases List.mem_append.mp h with h | h
    · exact Ow.node r a h
    · exact OwL.node t a h
end
mutual
theorem Ow.mono (e : Ex Z Z') (c : Pre C C') : ∀ {l : Nat} {S : List Addr} {v : V} {d : D}, Ow K Z C H l S v d → (∀ a ∈ S, Z' a = none ∧ H' a = H a) → Ow K Z' C' H' l S v d
  | _, _, _, _, .fro i, _ => .fro (i.mono e c)
  | _, _, _, _, .flt i f, _ => .flt (i.mono e c) f
  | _, _, _, _, .one g z n t, h => .one (by rw [(h _ (by simp)).2]; exact g) (h _ (by simp)).1 n (t.mono e c)
  | _, _, _, _, .lst g z n t, h => .lst (by rw [(h _ (by simp)).2]; exact g) (h _ (by simp)).1 n (OwL.mono e c t fun a ha => h a (List.mem_cons_of_mem _ ha))
  | _, _, _, _, .tup g n t, h => .tup (ex_t e g) n (OwL.mono e c t h)
theorem OwL.mono (e : Ex Z Z') (c : Pre C C') : ∀ {S : List Addr} {vs : List V} {ds : List D}, OwL K Z C H S vs ds → (∀ a ∈ S, Z' a = none ∧ H' a = H a) → OwL K Z' C' H' S vs ds
  | _, _, _, .nil, _ => .nil
  | _, _, _, .cons r t, h => .cons (Ow.mono e c r fun a ha => h a (List.mem_append_left _ ha)) (OwL.mono e c t fun a ha => h a (List.mem_append_right _ ha))
end
mutual
theorem Ow.froz (e : Ex Z Z') : ∀ {l : Nat} {S : List Addr} {v : V} {d : D}, Ow K Z C H l S v d → (∀ a ∈ S, Z' a = H a) → Is K Z' C v d
  | _, _, _, _, .fro i, _ => i.to e
  | _, _, _, _, .flt i _, _ => i.to e
  | _, _, _, _, .one g _ n t, h => .lst (by rw [h _ (by simp)]; exact g) n (t.to e)
  | _, _, _, _, .lst g _ n t, h => .lst (by rw [h _ (by simp)]; exact g) n (OwL.froz e t fun a ha => h a (List.mem_cons_of_mem _ ha))
  | _, _, _, _, .tup g n t, h => .tup (ex_t e g) n (OwL.froz e t h)
theorem OwL.froz (e : Ex Z Z') : ∀ {S : List Addr} {vs : List V} {ds : List D}, OwL K Z C H S vs ds → (∀ a ∈ S, Z' a = H a) → IsL K Z' C vs ds
  | _, _, _, .nil, _ => .nil
  | _, _, _, .cons r t, h => .cons (Ow.froz e r fun a ha => h a (List.mem_append_left _ ha)) (OwL.froz e t fun a ha => h a (List.mem_append_right _ ha))
end
theorem OwL.length : ∀ {S : List Addr} {vs : List V} {ds : List D}, OwL K Z C H S vs ds → vs.length = ds.length
  | _, _, _, .nil => rfl
  | _, _, _, .cons _ t => by simp [OwL.length t]
/-- flat things need no ownership -/
theorem isl_flat : ∀ {vs : List V} {ds : List D}, IsL K Z C vs ds → D.flatL ds = true → OwL K Z C H [] vs ds
  | _, _, .nil, _ => .nil
  | _, _, .cons r t, h => by
    simp only [D.flatL, Bool.and_eq_true] at h
    exact .cons (S := []) (.flt r h.1) (isl_flat t h.2)
theorem Ow.zero (h : Ow K Z C H 0 S v d) : S = [] ∧ Is K Z C v d := by
  cases h with
  | fro i => exact ⟨rfl, i⟩
  | flt i _ => exact ⟨rfl, i⟩
mutual
theorem Ow.flat0 : ∀ {l : Nat} {S : List Addr} {v : V} {d : D}, Ow K Z C H l S v d → d.flat = true → S = [] ∧ Is K Z C v d
  | _, _, _, _, .fro i, _ => ⟨rfl, i⟩
  | _, _, _, _, .flt i _, _ => ⟨rfl, i⟩
  | _, _, _, _, .one _ _ _ _, f => by cases f
  | _, _, _, _, .lst _ _ _ _, f => by cases f
  | _, _, _, _, .tup g n t, f => by
    obtain ⟨rfl, i⟩ := OwL.flat0 t f
    exact ⟨rfl, .tup g n i⟩
theorem OwL.flat0 : ∀ {S : List Addr} {vs : List V} {ds : List D}, OwL K Z C H S vs ds → D.flatL ds = true → S = [] ∧ IsL K Z C vs ds
  | _, _, _, .nil, _ => ⟨rfl, .nil⟩
  | _, _, _, .cons r t, f => by
    simp only [D.flatL, Bool.and_eq_true] at f
    obtain ⟨rfl, i⟩ := Ow.flat0 r f.1
    obtain ⟨rfl, j⟩ := OwL.flat0 t f.2
    exact ⟨rfl, .cons i j⟩
end
/-- lists may be forgotten -/
def NoL (Z Z' : Hp) : Prop := ∀ a o, Z a = some o → Z' a = some o ∨ ∃ vs, o = .lst vs
theorem NoL.t {a : Addr} {xs : List V} (e : NoL Z Z') (h : SqT K Z a xs) : SqT K Z' a xs := by
  rcases h with (h | ⟨o, h⟩) | h
  · rcases e a _ h with q | ⟨_, q⟩
    · exact .inl (.inl q)
    · cases q
  · rcases e a _ h with q | ⟨_, q⟩
    · exact .inl (.inr ⟨o, q⟩)
    · cases q
  · exact .inr h
mutual
theorem Is.noL (e : NoL Z Z') : ∀ {v : V} {d : D}, Is K Z C v d → d.flat = true → Is K Z' C v d
  | _, _, .non, _ => .non
  | _, _, .bl b, _ => .bl b
  | _, _, .int i, _ => .int i
  | _, _, .str x, _ => .str x
  | _, _, .lst _ _ _, f => by cases f
  | _, _, .tup h z t, f => .tup (e.t h) z (IsL.noL e t f)
  | _, _, .cell h, _ => .cell h
  | _, _, .emp h, _ => .emp ((e _ _ h).elim id fun ⟨_, q⟩ => by cases q)
  | _, _, .scr _ _, f => by cases f
theorem IsL.noL (e : NoL Z Z') : ∀ {vs : List V} {ds : List D}, IsL K Z C vs ds → D.flatL ds = true → IsL K Z' C vs ds
  | _, _, .nil, _ => .nil
  | _, _, .cons r t, f => by
    simp only [D.flatL, Bool.and_eq_true] at f
    exact .cons (Is.noL e r f.1) (IsL.noL e t f.2)
end
mutual
theorem Ow.noL (e : NoL Z Z') (hz : ∀ a, Z a = none → Z' a = none) : ∀ {S : List Addr} {v : V} {d : D}, Ow K Z C H 2 S v d → Ow K Z' C H 2 S v d
  | _, _, _, .flt i f => .flt (i.noL e f) f
  | _, _, _, .lst g z n t => .lst g (hz _ z) n (OwL.noL e hz t)
  | _, _, _, .tup g n t => .tup (e.t g) n (OwL.noL e hz t)
theorem OwL.noL (e : NoL Z Z') (hz : ∀ a, Z a = none → Z' a = none) : ∀ {S : List Addr} {vs : List V} {ds : List D}, OwL K Z C H S vs ds → OwL K Z' C H S vs ds
  | _, _, _, .nil => .nil
  | _, _, _, .cons r t => .cons (Ow.noL e hz r) (OwL.noL e hz t)
end
theorem isl_scal (h : IsL K (fun _ => none) [] vs ds) : IsL K Z C vs ds := h.mono (fun _ _ h => by cases h) (fun _ _ h => by simp at h)
mutual
theorem Is.scal : ∀ {v : V} {d : D}, Is K Z C v d → d.scal = true → Is K (fun _ => none) [] v d
  | _, _, .non, _ => .non
  | _, _, .bl b, _ => .bl b
  | _, _, .int i, _ => .int i
  | _, _, .str x, _ => .str x
  | _, _, .lst _ _ _, f => by cases f
  | _, _, .tup _ _ _, f => by cases f
  | _, _, .cell _, f => by cases f
  | _, _, .emp _, f => by cases f
  | _, _, .scr _ _, f => by cases f
theorem IsL.scal : ∀ {vs : List V} {ds : List D}, IsL K Z C vs ds → ds.all D.scal = true → IsL K (fun _ => none) [] vs ds
  | _, _, .nil, _ => .nil
  | _, _, .cons r t, f => by
    simp only [List.all_cons, Bool.and_eq_true] at f
    exact .cons (Is.scal r f.1) (IsL.scal t f.2)
end
end

/-! ### states -/
section
variable (K : PySem.W.Frag)
/-- the frozen heap Z lies in H; the cells stand at C and hold st -/
structure RE (Z : Hp) (C : List Addr) (H : Hp) (st : Sto) : Prop where
  ex : Ex Z H
  len : C.length = st.length
  cel : ∀ (k : Nat) (ds : List D), st[k]? = some ds → ∃ a vs, C[k]? = some a ∧ H a = some (.lst vs) ∧ vs.length ≤ sizeLine ∧ IsL K (fun _ => none) [] vs ds ∧ ds.all D.scal = true
  cz : ∀ a ∈ C, Z a = none
  nd : C.Nodup
/-- from Z, H to Z', H', st': what was known stays, what is new is new -/
structure Post (Z : Hp) (C : List Addr) (H Z' H' : Hp) (st' : Sto) : Prop where
  z : Ex Z Z'
  re : RE K Z' C H' st'
  fr : ∀ a o, H a = some o → a ∉ C → H' a = some o
  nw : ∀ a, Z a = none → Z' a ≠ none → H a = none
end
section
variable {K : PySem.W.Frag} {Z Z' Z1 Z2 H H' H1 H2 : Hp} {C C' : List Addr} {v : V} {vs : List V} {d : D} {ds : List D} {l : Nat} {S : List Addr} {a p : Addr} {st st1 st2 : Sto}
theorem RE.some (r : RE K Z C H st) (h : a ∈ C) : ∃ vs, H a = some (.lst vs) := by
  obtain ⟨k, hk, e⟩ := List.getElem_of_mem h
  have hs : k < st.length := by rw [← r.len]; exact hk
  obtain ⟨a', vs, h1, h2, _⟩ := r.cel k _ (List.getElem?_eq_getElem hs)
  rw [List.getElem?_eq_getElem hk, e] at h1
  cases h1
  exact ⟨vs, h2⟩
theorem RE.not (r : RE K Z C H st) (h : H a = none) : a ∉ C := fun hc => by
  obtain ⟨vs, e⟩ := r.some hc
  rw [h] at e; cases e
theorem Post.refl (r : RE K Z C H st) : Post K Z C H Z H st := ⟨fun _ _ h => h, r, fun _ _ h _ => h, fun a h1 h2 => absurd h1 h2⟩
theorem Post.back (P : Post K Z C H Z1 H1 st1) (h : H1 a = none) : H a = none := by
  cases e : H a with
  | none => rfl
  | some o =>
    have hc : a ∉ C := P.re.not h
    have := P.fr a o e hc
    rw [h] at this; cases this
theorem Post.trans (P : Post K Z C H Z1 H1 st1) (P2 : Post K Z1 C H1 Z2 H2 st2) : Post K Z C H Z2 H2 st2 :=
  ⟨P.z.trans P2.z, P2.re, fun a o h hc => P2.fr a o (P.fr a o h hc) hc, fun a h1 h2 => by
    cases e : Z1 a with
    | none => exact P.back (P2.nw a e h2)
    | some o => exact P.nw a h1 (by rw [e]; simp)⟩
/-- an owned value, behind a further step -/
theorem Ow.step (P : Post K Z1 C H1 Z2 H2 st2) (o : Ow K Z1 C H1 l S v d) (hc : ∀ a ∈ S, a ∉ C) : Ow K Z2 C H2 l S v d :=
  o.mono P.z (Pre.refl C) fun a ha => by
    obtain ⟨hz, ws, hh⟩ := o.node a ha
    refine ⟨?_, by rw [hh]; exact P.fr a _ hh (hc a ha)⟩
    cases e : Z2 a with
    | none => rfl
    | some u =>
      have := P.nw a hz (by rw [e]; simp)
      rw [hh] at this; cases this
theorem OwL.step (P : Post K Z1 C H1 Z2 H2 st2) (o : OwL K Z1 C H1 S vs ds) (hc : ∀ a ∈ S, a ∉ C) : OwL K Z2 C H2 S vs ds :=
  o.mono P.z (Pre.refl C) fun a ha => by
    obtain ⟨hz, ws, hh⟩ := o.node a ha
    refine ⟨?_, by rw [hh]; exact P.fr a _ hh (hc a ha)⟩
    cases e : Z2 a with
    | none => rfl
    | some u =>
      have := P.nw a hz (by rw [e]; simp)
      rw [hh] at this; cases this
/-- freeze -/
def frz (Z H : Hp) (S : List Addr) : Hp := fun a => if a ∈ S then H a else Z a
theorem frz_ex (hz : ∀ a ∈ S, Z a = none) : Ex Z (frz Z H S) := fun a o h => by
  unfold frz
  rw [if_neg (fun hs => by rw [hz a hs] at h; cases h)]
  exact h
theorem frz_in (h : a ∈ S) : frz Z H S a = H a := if_pos h
theorem Post.froz (P : Post K Z C H Z1 H1 st1) (hz : ∀ a ∈ S, Z1 a = none) (hf : ∀ a ∈ S, H a = none) (hc : ∀ a ∈ S, a ∉ C) : Post K Z C H (frz Z1 H1 S) H1 st1 :=
  ⟨P.z.trans (frz_ex hz), ⟨fun a o h => by
      unfold frz at h
      split at h
      · exact h
      · exact P.re.ex a o h, P.re.len, P.re.cel, fun a ha => by
      unfold frz
      rw [if_neg (fun hs => hc a hs ha)]
      exact P.re.cz a ha, P.re.nd⟩, P.fr, fun a h1 h2 => by
    unfold frz at h2
    split at h2
    · exact hf a ‹_›
    · exact P.nw a h1 h2⟩
/-- an evaluation's end may be frozen -/
theorem frozen (r : RE K Z C H st) (P : Post K Z C H Z1 H1 st1) (o : Ow K Z1 C H1 l S v d) (hf : ∀ a ∈ S, H a = none) : ∃ Z2, Post K Z C H Z2 H1 st1 ∧ Is K Z2 C v d ∧ Ex Z1 Z2 :=
  ⟨frz Z1 H1 S, P.froz (fun a h => (o.node a h).1) hf (fun a h => r.not (hf a h)), o.froz (frz_ex fun a h => (o.node a h).1) fun a h => frz_in h, frz_ex fun a h => (o.node a h).1⟩
end
end IX
/-! IXc: readings of the small language, and the operations. Own work. -/
namespace IX
open PySem PySem.Spec PyProof.Rows L2 Evl

section
variable (K : PySem.W.Frag)
/-- so far: from the base Z0, H0 to Z, H, st; the lists S are new and ours -/
structure Md (Z0 : Hp) (C : List Addr) (H0 Z H : Hp) (st : Sto) (S : List Addr) : Prop where
  r0 : ∃ st0, RE K Z0 C H0 st0
  p : Post K Z0 C H0 Z H st
  nd : S.Nodup
  fr : ∀ a ∈ S, H0 a = none
  my : ∀ a ∈ S, Z a = none ∧ ∃ vs, H a = some (.lst vs)
inductive OwV (Z : Hp) (C : List Addr) (H : Hp) : List Addr → List V → List DL → Prop
  | nil : OwV Z C H [] [] []
  | cons {S S' : List Addr} {v : V} {vs : List V} {x : DL} {xs : List DL} : Ow K Z C H x.2 S v x.1 → OwV Z C H S' vs xs → OwV Z C H (S ++ S') (v :: vs) (x :: xs)
structure EnvR (Z : Hp) (C : List Addr) (σ : L2.St) (ρ : Env) : Prop where
  get : ∀ (i : Nat) (d : D), ρ[i]? = some (some d) → ∃ v, σ[i]? = some (some v) ∧ Is K Z C v d
  len : ρ.length ≤ σ.length
def Wr (r : R DL) (Z : Hp) (C : List Addr) (H : Hp) (Q : VK) : Prop := match r with
  | .ok x st' => ∀ v Z' H' S, Md K Z C H Z' H' st' S → Ow K Z' C H' x.2 S v x.1 → Q v H'
  | _ => False
def WrL (r : R (List DL)) (Z : Hp) (C : List Addr) (H : Hp) (Q : List V → Hp → Prop) : Prop := match r with
  | .ok xs st' => ∀ vs Z' H' S, Md K Z C H Z' H' st' S → OwV K Z' C H' S vs xs → Q vs H'
  | _ => False
def WrB (r : R Bool) (Z : Hp) (C : List Addr) (H : Hp) (Q : Bool → Hp → Prop) : Prop := match r with
  | .ok b st' => ∀ Z' H', Md K Z C H Z' H' st' [] → Q b H'
  | _ => False
end
section
variable (K : PySem.W.Frag) (call : Nat → List D → Sto → R DL)
def rd (e : E) : TE := fun σ H Q => ∃ Z C ρ st, RE K Z C H st ∧ EnvR K Z C σ ρ ∧ Wr K (evalE call e ρ st) Z C H Q
def rds (es : Es) : TA := fun σ H Q => ∃ Z C ρ st, RE K Z C H st ∧ EnvR K Z C σ ρ ∧ WrL K (evalEs call es ρ st) Z C H Q
def rdb (e : E) : TT := fun σ H Q => ∃ Z C ρ st, RE K Z C H st ∧ EnvR K Z C σ ρ ∧ WrB K ((evalE call e ρ st).bind fun x s => .of (bool? x) s) Z C H Q
end

section
variable {K : PySem.W.Frag} {Z Z0 Z' Z1 Z2 H H0 H' H1 H2 : Hp} {C C' : List Addr} {v x y : V} {vs : List V} {d : D} {ds : List D} {l : Nat} {S S0 S1 S2 : List Addr} {a p : Addr} {st st1 st2 : Sto} {σ : L2.St} {ρ : Env} {Q : VK}

theorem EnvR.to (h : EnvR K Z C σ ρ) (e : Ex Z Z') : EnvR K Z' C σ ρ := ⟨fun i d hi => by
  obtain ⟨v, h1, h2⟩ := h.get i d hi
  exact ⟨v, h1, h2.to e⟩, h.len⟩
theorem EnvR.set (h : EnvR K Z C σ ρ) {i : Nat} (r : Is K Z C v d) : EnvR K Z C (σ.set i (some v)) (ρ.set i (some d)) := ⟨fun j e hj => by
  by_cases q : i = j
  · subst q
    by_cases hi : i < ρ.length
    · rw [List.getElem?_set_self hi] at hj
      cases hj
      exact ⟨v, List.getElem?_set_self (Nat.lt_of_lt_of_le hi h.len), r⟩
    · rw [List.getElem?_eq_none (by simpa using hi)] at hj; cases hj
  · rw [List.getElem?_set_ne q] at hj ⊢
    exact h.get j e hj, by simpa using h.len⟩
theorem EnvR.unset (h : EnvR K Z C σ ρ) {i : Nat} : EnvR K Z C (σ.set i none) (ρ.set i none) := ⟨fun j e hj => by
  by_cases q : i = j
  · subst q
    by_cases hi : i < ρ.length
    · rw [List.getElem?_set_self hi] at hj; cases hj
    · rw [List.getElem?_eq_none (by simpa using hi)] at hj; cases hj
  · rw [List.getElem?_set_ne q] at hj ⊢
    exact h.get j e hj, by simpa using h.len⟩
theorem EnvR.wipe (h : EnvR K Z C σ ρ) : ∀ vs : List Nat, EnvR K Z C (L2.wipe σ vs) (wipeE ρ vs)
  | [] => h
  | _ :: vs => (EnvR.wipe h vs).unset
theorem Md.refl (r : RE K Z C H st) : Md K Z C H Z H st [] := ⟨⟨st, r⟩, Post.refl r, List.nodup_nil, fun _ h => by simp at h, fun _ h => by simp at h⟩
theorem Md.re (m : Md K Z0 C H0 Z H st S) : RE K Z C H st := m.p.re
theorem Md.not (m : Md K Z0 C H0 Z H st S) : ∀ a ∈ S, a ∉ C := fun a h => by
  obtain ⟨s0, r⟩ := m.r0
  exact r.not (m.fr a h)
theorem Md.sub (m : Md K Z0 C H0 Z H st S) (n : S1.Nodup) (h : ∀ a ∈ S1, a ∈ S) : Md K Z0 C H0 Z H st S1 := ⟨m.r0, m.p, n, fun a ha => m.fr a (h a ha), fun a ha => m.my a (h a ha)⟩
theorem Md.drop (m : Md K Z0 C H0 Z H st S) : Md K Z0 C H0 Z H st [] := m.sub List.nodup_nil fun _ h => by simp at h
/-- one step behind another one -/
theorem Md.seq (m : Md K Z0 C H0 Z1 H1 st1 S1) (n : Md K Z1 C H1 Z2 H2 st2 S2) : Md K Z0 C H0 Z2 H2 st2 (S1 ++ S2) := by
  refine ⟨m.r0, m.p.trans n.p, ?_, fun a h => ?_, fun a h => ?_⟩
  · refine List.nodup_append.mpr ⟨m.nd, n.nd, fun a h1 b h2 e => ?_⟩
    subst e
    obtain ⟨_, ws, e1⟩ := m.my a h1
    have e2 := n.fr a h2
    rw [e1] at e2; cases e2
  · rcases List.mem_append.mp h with h | h
    · exact m.fr a h
    · exact m.p.back (n.fr a h)
  · rcases List.mem_append.mp h with h | h
    · obtain ⟨z, ws, e⟩ := m.my a h
      refine ⟨?_, ws, n.p.fr a _ e (m.not a h)⟩
      cases q : Z2 a with
      | none => rfl
      | some u =>
        have := n.p.nw a z (by rw [q]; simp)
        rw [e] at this; cases this
    · exact n.my a h
theorem Md.keep (m : Md K Z0 C H0 Z1 H1 st1 S1) (n : Md K Z1 C H1 Z2 H2 st2 S2) (o : Ow K Z1 C H1 l S v d) (h : ∀ a ∈ S, a ∈ S1) : Ow K Z2 C H2 l S v d := o.step n.p fun a ha => m.not a (h a ha)
theorem OwV.step {xs : List DL} : ∀ {S : List Addr} {vs : List V} {xs : List DL}, Post K Z1 C H1 Z2 H2 st2 → OwV K Z1 C H1 S vs xs → (∀ a ∈ S, a ∉ C) → OwV K Z2 C H2 S vs xs
  | _, _, _, _, .nil, _ => .nil
  | _, _, _, P, .cons r t, h => .cons (r.step P fun a ha => h a (List.mem_append_left _ ha)) (OwV.step (xs := xs) P t fun a ha => h a (List.mem_append_right _ ha))
/-- freeze all that is ours -/
theorem Md.froz (m : Md K Z0 C H0 Z H st S) : Md K Z0 C H0 (frz Z H S) H st [] ∧ Ex Z (frz Z H S) :=
  ⟨⟨m.r0, m.p.froz (fun a h => (m.my a h).1) m.fr m.not, List.nodup_nil, fun _ h => by simp at h, fun _ h => by simp at h⟩, frz_ex fun a h => (m.my a h).1⟩
theorem Md.frozen (m : Md K Z0 C H0 Z H st S) (o : Ow K Z C H l S1 v d) (h : ∀ a ∈ S1, a ∈ S) : Is K (frz Z H S) C v d := o.froz m.froz.2 fun a ha => frz_in (h a ha)
theorem OwV.froz (e : Ex Z Z') : ∀ {S : List Addr} {vs : List V} {xs : List DL}, OwV K Z C H S vs xs → (∀ a ∈ S, Z' a = H a) → IsL K Z' C vs (xs.map (·.1))
  | _, _, _, .nil, _ => .nil
  | _, _, _, .cons r t, h => .cons (r.froz e fun a ha => h a (List.mem_append_left _ ha)) (OwV.froz e t fun a ha => h a (List.mem_append_right _ ha))
theorem OwV.length : ∀ {S : List Addr} {vs : List V} {xs : List DL}, OwV K Z C H S vs xs → vs.length = xs.length
  | _, _, _, .nil => rfl
  | _, _, _, .cons _ t => by simp [OwV.length t]
theorem OwV.append : ∀ {S S' : List Addr} {vs ws : List V} {xs ys : List DL}, OwV K Z C H S vs xs → OwV K Z C H S' ws ys → OwV K Z C H (S ++ S') (vs ++ ws) (xs ++ ys)
  | _, _, _, _, _, _, .nil, s => s
  | _, _, _, _, _, _, .cons r t, s => by rw [List.append_assoc]; exact .cons r (OwV.append t s)
/-- a flat value has any level -/
theorem Ow.any (o : Ow K Z C H l S v d) (f : d.flat = true) {l' : Nat} : S = [] ∧ Ow K Z C H l' [] v d := by
  obtain ⟨rfl, i⟩ := o.flat0 f
  exact ⟨rfl, .flt i f⟩
def lvOk (x : DL) : Prop := x.2 = 2 ∨ x.1.flat = true
theorem OwV.two : ∀ {S : List Addr} {vs : List V} {xs : List DL}, OwV K Z C H S vs xs → (∀ x ∈ xs, lvOk x) → OwL K Z C H S vs (xs.map (·.1))
  | _, _, _, .nil, _ => .nil
  | _, _, _, .cons (S := S) (S' := S') (x := x) r t, h => by
    have t' := OwV.two t fun y hy => h y (List.mem_cons_of_mem _ hy)
    rcases h x List.mem_cons_self with h | h
    · rw [h] at r; exact .cons r t'
    · obtain ⟨rfl, o⟩ := r.any h (l' := 2)
      exact .cons o t'
theorem OwL.toV : ∀ {S : List Addr} {vs : List V} {ds : List D}, OwL K Z C H S vs ds → OwV K Z C H S vs (ds.map fun d => (d, 2))
  | _, _, _, .nil => .nil
  | _, _, _, .cons r t => .cons r (OwL.toV t)
theorem IsL.toV : ∀ {vs : List V} {ds : List D}, IsL K Z C vs ds → OwV K Z C H [] vs (ds.map fun d => (d, 0))
  | _, _, .nil => .nil
  | _, _, .cons r t => .cons (S := []) (.fro r) (IsL.toV t)
/-- the items of a list of level l -/
def itemsDL (l : Nat) (ds : List D) : List DL := ds.map fun d => (d, if l = 2 then 2 else 0)
theorem itemsDL_fst (l : Nat) (ds : List D) : (itemsDL l ds).map (·.1) = ds := by
  unfold itemsDL
  rw [List.map_map]
  show ds.map (fun d => d) = ds
  exact List.map_id' ds
theorem flatL_mem : ∀ {ds : List D} {d : D}, D.flatL ds = true → d ∈ ds → d.flat = true
  | e :: r, d, h, hd => by
    simp only [D.flatL, Bool.and_eq_true] at h
    rcases List.mem_cons.mp hd with rfl | hd
    · exact h.1
    · exact flatL_mem h.2 hd
theorem itemsDL_ok {l : Nat} {ds : List D} (h : l = 2 ∨ D.flatL ds = true) : ∀ x ∈ itemsDL l ds, lvOk x := by
  unfold itemsDL
  intro x hx
  obtain ⟨d, hd, rfl⟩ := List.mem_map.mp hx
  rcases h with h | h
  · left; simp [h]
  · right
    exact flatL_mem h hd
theorem ow_lst (o : Ow K Z C H l S v (.lst ds)) (ex : Ex Z H) : ∃ p vs S', v = .ref p ∧ H p = some (.lst vs) ∧ vs.length ≤ sizeLine ∧ vs.length = ds.length ∧ OwV K Z C H S' vs (itemsDL l ds) ∧ List.Sublist S' S := by
  cases o with
  | fro i =>
    obtain ⟨p, vs, rfl, h1, h2, h3⟩ := is_lst i
    exact ⟨p, vs, [], rfl, ex _ _ h1, h2, h3.length, by unfold itemsDL; simp; exact h3.toV, List.Sublist.refl _⟩
  | flt i f => cases f
  | one h1 h2 h3 h4 => exact ⟨_, _, [], rfl, h1, h3, h4.length, by unfold itemsDL; simp; exact h4.toV, List.nil_sublist _⟩
  | lst h1 h2 h3 h4 => exact ⟨_, _, _, rfl, h1, h3, h4.length, by unfold itemsDL; simp; exact h4.toV, List.sublist_cons_self _ _⟩
theorem ow_tup (o : Ow K Z C H l S v (.tup ds)) (ex : Ex Z H) : ∃ p vs, v = .ref p ∧ SqT K Z p vs ∧ vs.length ≤ sizeLine ∧ vs.length = ds.length ∧ OwV K Z C H S vs (itemsDL l ds) := by
  cases o with
  | fro i =>
    obtain ⟨p, vs, rfl, h1, h2, h3⟩ := is_tup i
    exact ⟨p, vs, rfl, h1, h2, h3.length, by unfold itemsDL; simp; exact h3.toV⟩
  | flt i f =>
    obtain ⟨p, vs, rfl, h1, h2, h3⟩ := is_tup i
    refine ⟨p, vs, rfl, h1, h2, h3.length, ?_⟩
    have t := (isl_flat (H := H) h3 f).toV
    have t0 := h3.toV (H := H)
    unfold itemsDL
    by_cases q : l = 2
    · simp only [q, if_true]; exact t
    · simp only [q, if_false]; exact t0
  | tup h1 h2 h3 => exact ⟨_, _, rfl, h1, h2, h3.length, by unfold itemsDL; simp; exact h3.toV⟩
theorem ow_int {i : Int} (o : Ow K Z C H l S v (.int i)) : v = .int i ∧ S = [] := by
  obtain ⟨rfl, h⟩ := o.flat0 rfl
  exact ⟨is_int h, rfl⟩
theorem ow_bl {b : Bool} (o : Ow K Z C H l S v (.bl b)) : v = .bl b ∧ S = [] := by
  obtain ⟨rfl, h⟩ := o.flat0 rfl
  exact ⟨is_bl h, rfl⟩
theorem ow_str {b : Str} (o : Ow K Z C H l S v (.str b)) : v = .str b ∧ S = [] := by
  obtain ⟨rfl, h⟩ := o.flat0 rfl
  exact ⟨is_str h, rfl⟩
theorem ow_non (o : Ow K Z C H l S v .non) : v = .non ∧ S = [] := by
  obtain ⟨rfl, h⟩ := o.flat0 rfl
  exact ⟨is_non h, rfl⟩
theorem Ow.of_int (i : Int) : Ow K Z C H l [] (.int i) (.int i) := .flt (.int i) rfl
theorem Ow.of_bl (b : Bool) : Ow K Z C H l [] (.bl b) (.bl b) := .flt (.bl b) rfl
theorem Ow.of_str (b : Str) : Ow K Z C H l [] (.str b) (.str b) := .flt (.str b) rfl
theorem Ow.of_non : Ow K Z C H l [] .non .non := .flt .non rfl

/-! ### new objects -/
theorem Post.put {o : HO} (P : Post K Z0 C H0 Z H st) (hp : H p = none) : Post K Z0 C H0 Z (upd H p o) st :=
  ⟨P.z, ⟨P.re.ex.mut (by cases e : Z p with
      | none => rfl
      | some u =>
        have := P.re.ex p u e
        rw [hp] at this; cases this), P.re.len, fun k ds h => by
      obtain ⟨a, vs, h1, h2, h3⟩ := P.re.cel k ds h
      exact ⟨a, vs, h1, by rw [upd_ne (ne_of_none h2 hp)]; exact h2, h3⟩, P.re.cz, P.re.nd⟩,
    fun a u h hc => by
      have := P.fr a u h hc
      rw [upd_ne (ne_of_none this hp)]; exact this, P.nw⟩
/-- a new object that is ours -/
theorem Md.put {vs : List V} (m : Md K Z0 C H0 Z H st S) (hp : H p = none) : Md K Z0 C H0 Z (upd H p (.lst vs)) st (p :: S) :=
  ⟨m.r0, m.p.put hp, List.nodup_cons.mpr ⟨fun h => (by
      obtain ⟨_, ws, e⟩ := m.my p h
      rw [hp] at e; cases e), m.nd⟩, fun a h => by
    rcases List.mem_cons.mp h with rfl | h
    · exact m.p.back hp
    · exact m.fr a h, fun a h => by
    rcases List.mem_cons.mp h with rfl | h
    · refine ⟨?_, vs, upd_same⟩
      cases e : Z a with
      | none => rfl
      | some u =>
        have := m.re.ex a u e
        rw [hp] at this; cases this
    · obtain ⟨z, ws, e⟩ := m.my a h
      exact ⟨z, ws, by rw [upd_ne (ne_of_none e hp)]; exact e⟩⟩
theorem OwV.put {o : HO} (hp : H p = none) : ∀ {S : List Addr} {vs : List V} {xs : List DL}, OwV K Z C H S vs xs → OwV K Z C (upd H p o) S vs xs
  | _, _, _, .nil => .nil
  | _, _, _, .cons r t => .cons (r.mono (fun _ _ h => h) (Pre.refl C) fun a ha => by
      obtain ⟨z, ws, e⟩ := r.node a ha
      exact ⟨z, upd_ne (ne_of_none e hp)⟩) (OwV.put hp t)
theorem OwL.put {o : HO} (hp : H p = none) (t : OwL K Z C H S vs ds) : OwL K Z C (upd H p o) S vs ds := t.mono (fun _ _ h => h) (Pre.refl C) fun a ha => by
  obtain ⟨z, ws, e⟩ := t.node a ha
  exact ⟨z, upd_ne (ne_of_none e hp)⟩
/-- a new list of known items -/
theorem new_lst {xs : List DL} {L : Nat} (m : Md K Z0 C H0 Z H st S) (o : OwV K Z C H S1 vs xs) (hs : List.Sublist S1 S) (hl : vs.length ≤ sizeLine) (hp : H p = none) (hL : L = 1 ∨ (L = 2 ∧ ∀ x ∈ xs, lvOk x)) :
    ∃ Z' S', Md K Z0 C H0 Z' (upd H p (.lst vs)) st S' ∧ Ow K Z' C (upd H p (.lst vs)) L S' (.ref p) (.lst (xs.map (·.1))) := by
  have m1 := m.sub (m.nd.sublist hs) fun a h => hs.subset h
  rcases hL with rfl | ⟨rfl, h⟩
  · obtain ⟨m2, e2⟩ := m1.froz
    refine ⟨_, [p], m2.put hp, .one upd_same ?_ hl (o.froz e2 fun a ha => frz_in ha)⟩
    exact ((m2.put (vs := vs) hp).my p (by simp)).1
  · have m2 := m1.put (vs := vs) hp
    exact ⟨Z, p :: S1, m2, .lst upd_same (m2.my p (by simp)).1 hl ((o.two h).put hp)⟩
/-- a new object that is known at once -/
theorem Md.fix {o : HO} (m : Md K Z0 C H0 Z H st S) (hp : H p = none) : Md K Z0 C H0 (upd Z p o) (upd H p o) st S ∧ Ex Z (upd Z p o) := by
  have hz : Z p = none := by
    cases e : Z p with
    | none => rfl
    | some u =>
      have := m.re.ex p u e
      rw [hp] at this; cases this
  have ez : Ex Z (upd Z p o) := Ex.new hz
  have P := m.p.put (o := o) hp
  refine ⟨⟨m.r0, ⟨P.z.trans ez, ⟨fun a u h => ?_, P.re.len, P.re.cel, fun a h => ?_, P.re.nd⟩, P.fr, fun a h1 h2 => ?_⟩, m.nd, m.fr, fun a h => ?_⟩, ez⟩
  · by_cases q : a = p
    · rw [q, upd_same] at h; rw [q, upd_same]; exact h
    · rw [upd_ne q] at h; rw [upd_ne q]; exact m.re.ex a u h
  · obtain ⟨ws, e⟩ := m.re.some h
    rw [upd_ne (ne_of_none e hp)]
    exact m.re.cz a h
  · by_cases q : a = p
    · rw [q]; exact m.p.back hp
    · rw [upd_ne q] at h2; exact m.p.nw a h1 h2
  · obtain ⟨z, ws, e⟩ := m.my a h
    have q := ne_of_none e hp
    exact ⟨by rw [upd_ne q]; exact z, ws, by rw [upd_ne q]; exact e⟩
theorem Md.tup {vs : List V} (m : Md K Z0 C H0 Z H st S) (hp : H p = none) : Md K Z0 C H0 (upd Z p (.tup vs)) (upd H p (.tup vs)) st S ∧ Ex Z (upd Z p (.tup vs)) := m.fix hp
theorem new_tup {xs : List DL} {L : Nat} (m : Md K Z0 C H0 Z H st S) (o : OwV K Z C H S vs xs) (hl : vs.length ≤ sizeLine) (hp : H p = none) (hL : L = 0 ∨ (L = 2 ∧ ∀ x ∈ xs, lvOk x)) :
    ∃ Z' S', Md K Z0 C H0 Z' (upd H p (.tup vs)) st S' ∧ Ow K Z' C (upd H p (.tup vs)) L S' (.ref p) (.tup (xs.map (·.1))) := by
  rcases hL with rfl | ⟨rfl, h⟩
  · obtain ⟨m2, e2⟩ := m.froz
    obtain ⟨m3, e3⟩ := m2.tup (vs := vs) hp
    exact ⟨_, [], m3, .fro (.tup (st_of upd_same) hl ((o.froz e2 fun a ha => frz_in ha).to e3))⟩
  · obtain ⟨m3, e3⟩ := m.tup (vs := vs) hp
    refine ⟨_, S, m3, .tup (st_of upd_same) hl ((o.two h).mono e3 (Pre.refl C) fun a ha => ?_)⟩
    obtain ⟨z, ws, e⟩ := m.my a ha
    exact ⟨(m3.my a ha).1, upd_ne (ne_of_none e hp)⟩
theorem lvl_ow (o : Ow K Z C H l S v d) : Ow K Z C H (lvl l d).2 S v d := by
  unfold lvl
  by_cases f : d.flat = true
  · obtain ⟨rfl, i⟩ := o.flat0 f
    exact .flt i f
  · simp only [f]; exact o
end
end IX
/-! IXd: the operations of the small language. Own work. -/
namespace IX
open PySem PySem.Spec PyProof.Rows L2 Evl

section
variable (K : PySem.W.Frag)
/-- two values, and what is to be shown of the operation's outcome -/
def rTwo (f : DL → DL → Sto → R DL) : R2 := fun x y H Q => ∃ Z0 C H0 Z st X Y S1 S2, Md K Z0 C H0 Z H st (S1 ++ S2) ∧ Ow K Z C H X.2 S1 x X.1 ∧ Ow K Z C H Y.2 S2 y Y.1 ∧ Wr K (f X Y st) Z0 C H0 Q
def rBo (o : Bo) : R2 := rTwo K fun X Y st => .of (binD o X Y) st
def rCo (o : Co) : R2 := rTwo K fun X Y st => .of ((cmpD o X.1 Y.1).map fun c => (.bl c, 2)) st
end
section
variable {K : PySem.W.Frag} {X : Cx} {Z Z0 Z' H H0 : Hp} {C : List Addr} {x y : V} {S S1 S2 : List Addr} {st : Sto} {Q : VK}
theorem wr_int {i : Int} {l : Nat} (m : Md K Z0 C H0 Z H st S) (h : Wr K (.ok (.int i, l) st) Z0 C H0 Q) : Q (.int i) H := h _ _ _ _ m.drop (.of_int i)
theorem wr_bl {i : Bool} {l : Nat} (m : Md K Z0 C H0 Z H st S) (h : Wr K (.ok (.bl i, l) st) Z0 C H0 Q) : Q (.bl i) H := h _ _ _ _ m.drop (.of_bl i)
theorem wr_str {i : Str} {l : Nat} (m : Md K Z0 C H0 Z H st S) (h : Wr K (.ok (.str i, l) st) Z0 C H0 Q) : Q (.str i) H := h _ _ _ _ m.drop (.of_str i)
theorem le_line {n : Nat} (h : n ≤ most) : n ≤ sizeLine := Nat.le_trans h (by decide)
theorem lt_line {n : Nat} (h : n < most) : n < sizeLine := Nat.lt_of_lt_of_le h (by decide)

theorem op_addI : OpR X (binaryOp .Add) (rBo X.K .add) := by
  intro pins s σ H x y v u Q I rx ry ⟨Z0, C, H0, Z, st, A, B, S1, S2, m, ha, hb, h⟩
  obtain ⟨d, l⟩ := A
  obtain ⟨e, k⟩ := B
  simp only [binD] at h ha hb
  unfold addD at h
  split at h
  · rename_i i _ j _ e1 e2
    cases e1; cases e2
    obtain ⟨rfl, rfl⟩ := ow_int ha
    obtain ⟨rfl, rfl⟩ := ow_int hb
    exact op_add pins s σ H _ _ v u Q I rx ry ⟨i, j, rfl, rfl, wr_int m h⟩
  · rename_i xs l' ys m' e1 e2
    cases e1; cases e2
    split at h
    · rename_i hz
      obtain ⟨p, vs, T1, rfl, hp, _, n1, o1, s1⟩ := ow_lst ha m.re.ex
      obtain ⟨q, ws, T2, rfl, hq, _, n2, o2, s2⟩ := ow_lst hb m.re.ex
      refine op_cat pins s σ H _ _ v u Q I rx ry ⟨p, q, vs, ws, rfl, rfl, hp, hq, by rw [n1, n2]; exact le_line hz, fun r hr => ?_⟩
      obtain ⟨Z', S', m', o'⟩ := new_lst (L := if (l = 2 ∨ D.flatL xs = true) ∧ (k = 2 ∨ D.flatL ys = true) then 2 else 1) m (o1.append o2) (s1.append s2) (by rw [List.length_append, n1, n2]; exact le_line hz) hr (by
        split
        · rename_i hl
          refine .inr ⟨rfl, fun z hz => ?_⟩
          rcases List.mem_append.mp hz with hz | hz
          · exact itemsDL_ok hl.1 z hz
          · exact itemsDL_ok hl.2 z hz
        · exact .inl rfl)
      rw [List.map_append, itemsDL_fst, itemsDL_fst] at o'
      exact h _ _ _ _ m' o'
    · exact h.elim
  · rename_i xs l' ys m' e1 e2
    cases e1; cases e2
    split at h
    · rename_i hz
      obtain ⟨p, vs, rfl, hp, z1, n1, o1⟩ := ow_tup ha m.re.ex
      obtain ⟨q, ws, rfl, hq, z2, n2, o2⟩ := ow_tup hb m.re.ex
      refine op_catA pins s σ H _ _ v u Q I rx ry ⟨p, q, vs, ws, rfl, rfl, ex_t m.re.ex hp, ex_t m.re.ex hq, by rw [n1, n2]; exact le_line hz, fun e => ?_, fun _ e => ?_, fun _ _ r hr => ?_⟩
      · have e1 : xs = [] := by rw [e] at n1; exact List.eq_nil_of_length_eq_zero n1.symm
        subst e1
        by_cases hl : l = 2 ∧ k = 2
        · have o := lvl_ow hb
          rw [hl.2] at o
          rw [if_pos hl] at h
          exact h _ _ _ _ (m.sub (List.nodup_append.mp m.nd).2.1 fun a ha => List.mem_append_right _ ha) o
        · rw [if_neg hl] at h
          obtain ⟨m2, _⟩ := m.froz
          exact h _ _ _ _ m2 (lvl_ow (.fro (m.frozen hb fun a ha => List.mem_append_right _ ha)))
      · have e1 : ys = [] := by rw [e] at n2; exact List.eq_nil_of_length_eq_zero n2.symm
        subst e1
        rw [List.append_nil] at h
        by_cases hl : l = 2 ∧ k = 2
        · have o := lvl_ow ha
          rw [hl.1] at o
          rw [if_pos hl] at h
          exact h _ _ _ _ (m.sub (List.nodup_append.mp m.nd).1 fun a ha => List.mem_append_left _ ha) o
        · rw [if_neg hl] at h
          obtain ⟨m2, _⟩ := m.froz
          exact h _ _ _ _ m2 (lvl_ow (.fro (m.frozen ha fun a ha => List.mem_append_left _ ha)))
      · obtain ⟨Z', S', m', o'⟩ := new_tup (L := if l = 2 ∧ k = 2 then 2 else 0) m (o1.append o2) (by rw [List.length_append, n1, n2]; exact le_line hz) hr (by
          split
          · rename_i hl
            refine .inr ⟨rfl, fun z hz => ?_⟩
            rcases List.mem_append.mp hz with hz | hz
            · exact itemsDL_ok (.inl hl.1) z hz
            · exact itemsDL_ok (.inl hl.2) z hz
          · exact .inl rfl)
        rw [List.map_append, itemsDL_fst, itemsDL_fst] at o'
        exact h _ _ _ _ m' (lvl_ow o')
    · exact h.elim
  · rename_i i _ j _ e1 e2
    cases e1; cases e2
    split at h
    · rename_i hz
      obtain ⟨rfl, rfl⟩ := ow_str ha
      obtain ⟨rfl, rfl⟩ := ow_str hb
      exact op_add_str pins s σ H _ _ v u Q I rx ry ⟨i, j, rfl, rfl, le_line hz, wr_str m h⟩
    · exact h.elim
  · exact h.elim
theorem op_subI : OpR X (binaryOp .Sub) (rBo X.K .sub) := by
  intro pins s σ H x y v u Q I rx ry ⟨Z0, C, H0, Z, st, A, B, S1, S2, m, ha, hb, h⟩
  obtain ⟨d, l⟩ := A
  obtain ⟨e, k⟩ := B
  simp only [binD] at h ha hb
  unfold subD at h
  split at h
  · rename_i i _ j _ e1 e2
    cases e1; cases e2
    obtain ⟨rfl, rfl⟩ := ow_int ha
    obtain ⟨rfl, rfl⟩ := ow_int hb
    exact op_sub pins s σ H _ _ v u Q I rx ry ⟨i, j, rfl, rfl, wr_int m h⟩
  · exact h.elim
theorem op_mulI : OpR X (binaryOp .Mult) (rBo X.K .mul) := by
  intro pins s σ H x y v u Q I rx ry ⟨Z0, C, H0, Z, st, A, B, S1, S2, m, ha, hb, h⟩
  obtain ⟨d, l⟩ := A
  obtain ⟨e, k⟩ := B
  simp only [binD] at h ha hb
  unfold mulD at h
  split at h
  · rename_i i _ j _ e1 e2
    cases e1; cases e2
    split at h
    · rename_i hm
      obtain ⟨rfl, rfl⟩ := ow_int ha
      obtain ⟨rfl, rfl⟩ := ow_int hb
      have hm' : i.natAbs.log2 + j.natAbs.log2 < 1000000 := of_decide_eq_true hm
      exact op_mulW pins s σ H _ _ v u Q I rx ry ⟨i, j, rfl, rfl, hm', wr_int m h⟩
    · exact h.elim
  · rename_i xs l' j m' e1 e2
    cases e1; cases e2
    split at h
    · rename_i hz
      obtain ⟨p, vs, T1, rfl, hp, _, n1, o1, s1⟩ := ow_lst ha m.re.ex
      obtain ⟨rfl, rfl⟩ := ow_int hb
      have hmost : (most : Int) < 2 ^ 63 := by decide
      refine op_rep pins s σ H _ _ v u Q I rx ry ⟨p, j, vs, rfl, rfl, hp, by have := hz.1; omega, by have := hz.2.2; omega, by rw [n1]; exact le_line hz.2.1, fun r hr => ?_⟩
      -- the items are frozen, or flat: known in the frozen heap
      obtain ⟨m2, e2⟩ := m.froz
      have il : IsL X.K (frz Z H (S1 ++ [])) C vs xs := by
        have := o1.froz e2 (fun a ha => frz_in (List.mem_append_left _ (s1.subset ha)))
        rw [itemsDL_fst] at this
        exact this
      have rep : ∀ n : Nat, IsL X.K (frz Z H (S1 ++ [])) C (List.replicate n vs).flatten (List.replicate n xs).flatten := by
        intro n
        induction n with
        | zero => exact .nil
        | succ n ih => simp only [List.replicate_succ, List.flatten_cons]; exact il.append ih
      have hlen : (List.replicate j.toNat vs).flatten.length ≤ sizeLine := by
        rw [List.length_flatten, List.map_replicate, List.sum_replicate_nat, n1, Nat.mul_comm]
        exact le_line hz.2.1
      obtain ⟨Z', S', m', o'⟩ := new_lst (L := if D.flatL xs = true then 2 else 1) m2 (rep j.toNat).toV (List.Sublist.refl _) hlen hr (by
        split
        · rename_i hf
          refine .inr ⟨rfl, fun z hz => ?_⟩
          obtain ⟨d, hd, rfl⟩ := List.mem_map.mp hz
          refine .inr ?_
          obtain ⟨w, hw, hd⟩ := List.mem_flatten.mp hd
          rw [List.mem_replicate] at hw
          rw [hw.2] at hd
          exact flatL_mem hf hd
        · exact .inl rfl)
      rw [List.map_map] at o'
      have e3 : ((fun x : DL => x.1) ∘ fun d : D => (d, 0)) = id := rfl
      rw [e3, List.map_id] at o'
      exact h _ _ _ _ m' o'
    · exact h.elim
  · exact h.elim
theorem op_fdivA : OpR X (binaryOp .FloorDiv) (rI (fun _ j => j ≠ 0 ∧ j.natAbs.log2 < 9000) fun i j => .int (i.fdiv j)) := opI fun i j _ _ _ _ _ hc q => floordiv_int hc.1 q (.inl (PyProof.noPylong_of_log2 hc.2))
theorem op_fdivI : OpR X (binaryOp .FloorDiv) (rBo X.K .fdiv) := by
  intro pins s σ H x y v u Q I rx ry ⟨Z0, C, H0, Z, st, A, B, S1, S2, m, ha, hb, h⟩
  obtain ⟨d, l⟩ := A
  obtain ⟨e, k⟩ := B
  simp only [binD] at h ha hb
  unfold fdivD at h
  split at h
  · rename_i i _ j _ e1 e2
    cases e1; cases e2
    split at h
    · rename_i hm
      obtain ⟨rfl, rfl⟩ := ow_int ha
      obtain ⟨rfl, rfl⟩ := ow_int hb
      exact op_fdivA pins s σ H _ _ v u Q I rx ry ⟨i, j, rfl, rfl, of_decide_eq_true hm, wr_int m h⟩
    · exact h.elim
  · exact h.elim
theorem op_modI : OpR X (binaryOp .Mod) (rBo X.K .mod) := by
  intro pins s σ H x y v u Q I rx ry ⟨Z0, C, H0, Z, st, A, B, S1, S2, m, ha, hb, h⟩
  obtain ⟨d, l⟩ := A
  obtain ⟨e, k⟩ := B
  simp only [binD] at h ha hb
  unfold modD at h
  split at h
  · rename_i i _ j _ e1 e2
    cases e1; cases e2
    split at h
    · rename_i hm
      obtain ⟨rfl, rfl⟩ := ow_int ha
      obtain ⟨rfl, rfl⟩ := ow_int hb
      exact op_modN pins s σ H _ _ v u Q I rx ry ⟨i, j, rfl, rfl, hm, wr_int m h⟩
    · exact h.elim
  · exact h.elim
theorem op_powI : OpR X (binaryOp .Pow) (rBo X.K .pow) := by
  intro pins s σ H x y v u Q I rx ry ⟨Z0, C, H0, Z, st, A, B, S1, S2, m, ha, hb, h⟩
  obtain ⟨d, l⟩ := A
  obtain ⟨e, k⟩ := B
  simp only [binD] at h ha hb
  unfold powD at h
  split at h
  · rename_i i _ j _ e1 e2
    cases e1; cases e2
    split at h
    · rename_i hm
      obtain ⟨rfl, rfl⟩ := ow_int ha
      obtain ⟨rfl, rfl⟩ := ow_int hb
      exact opI (C := fun i j => 0 ≤ j ∧ (Builtin.Int.intBits i : Int) * j ≤ 2 ^ 27) (g := fun i j => i ^ j.toNat) (fun _ _ _ _ _ _ _ hc q => pow_int hc.1 hc.2 q) pins s σ H _ _ v u Q I rx ry ⟨i, j, rfl, rfl, hm, wr_int m h⟩
    · exact h.elim
  · exact h.elim

/-! ### comparisons -/
theorem map_bl {o : Option Bool} (h : Wr K (.of (o.map fun c => (D.bl c, 2)) st) Z0 C H0 Q) : ∃ c, o = some c ∧ Wr K (.ok (D.bl c, 2) st) Z0 C H0 Q := by
  cases o with
  | none => exact h.elim
  | some c => exact ⟨c, rfl, h⟩
theorem pair_dp {d e : D} {l k : Nat} {p q : PyData} (m : Md K Z0 C H0 Z H st (S1 ++ S2)) (ha : Ow K Z C H l S1 x d) (hb : Ow K Z C H k S2 y e) (h : pyPair d e = some (p, q)) :
    Dp K H x p ∧ Dp K H y q ∧ SeqAt.shaped p = true ∧ SeqAt.shaped q = true := by
  unfold pyPair at h
  split at h
  · rename_i p' q' h1 h2
    split at h
    · rename_i h3
      cases h
      rw [Bool.and_eq_true] at h3
      have i1 := m.frozen ha fun a ha => List.mem_append_left _ ha
      have i2 := m.frozen hb fun a ha => List.mem_append_right _ ha
      exact ⟨dp_mono m.froz.1.re.ex (i1.dp h1), dp_mono m.froz.1.re.ex (i2.dp h2), h3.1, h3.2⟩
    · cases h
  · cases h
theorem op_eqI (hu : X.A.units + 64 < cLine) : OpR X (compareOp .Eq) (rCo X.K .eq) := by
  intro pins s σ H x y v u Q I rx ry ⟨Z0, C, H0, Z, st, A, B, S1, S2, m, ha, hb, h⟩
  obtain ⟨c, hc, h⟩ := map_bl h
  simp only [cmpD, eqD, Option.map_eq_some_iff] at hc
  obtain ⟨⟨p, q⟩, hp, rfl⟩ := hc
  obtain ⟨h1, h2, h3, h4⟩ := pair_dp m ha hb hp
  exact op_eqD hu pins s σ H _ _ v u Q I rx ry ⟨p, q, h1, h2, h3, h4, wr_bl m h⟩
theorem op_neI (hu : X.A.units + 64 < cLine) : OpR X (compareOp .NotEq) (rCo X.K .ne) := by
  intro pins s σ H x y v u Q I rx ry ⟨Z0, C, H0, Z, st, A, B, S1, S2, m, ha, hb, h⟩
  obtain ⟨c, hc, h⟩ := map_bl h
  simp only [cmpD, eqD, Option.map_map, Option.map_eq_some_iff] at hc
  obtain ⟨⟨p, q⟩, hp, rfl⟩ := hc
  obtain ⟨h1, h2, h3, h4⟩ := pair_dp m ha hb hp
  exact op_neD hu pins s σ H _ _ v u Q I rx ry ⟨p, q, h1, h2, h3, h4, wr_bl m h⟩
theorem in_dp {d e : D} {l k : Nat} {c : Bool} (m : Md K Z0 C H0 Z H st (S1 ++ S2)) (ha : Ow K Z C H l S1 x d) (hb : Ow K Z C H k S2 y e) (h : inD d e = some c) :
    ∃ p qs, Dp K H x p ∧ Dp K H y (.list qs) ∧ SeqAt.shaped p = true ∧ SeqAt.shaped (.list qs) = true ∧ (qs.any fun z => PyData.eqv z p) = c := by
  unfold inD at h
  split at h
  · rename_i ys
    split at h
    · rename_i p qs h1 h2
      split at h
      · rename_i h3
        cases h
        rw [Bool.and_eq_true] at h3
        have i1 := m.frozen ha fun a ha => List.mem_append_left _ ha
        have i2 := m.frozen hb fun a ha => List.mem_append_right _ ha
        exact ⟨p, qs, dp_mono m.froz.1.re.ex (i1.dp h1), dp_mono m.froz.1.re.ex (i2.dp (by simp only [D.py, h2]; rfl)), h3.1, h3.2, rfl⟩
      · cases h
    · cases h
  · cases h
theorem op_inI (hu : X.A.units + 65 < cLine) : OpR X (compareOp .In) (rCo X.K .in_) := by
  intro pins s σ H x y v u Q I rx ry ⟨Z0, C, H0, Z, st, A, B, S1, S2, m, ha, hb, h⟩
  obtain ⟨c, hc, h⟩ := map_bl h
  obtain ⟨p, qs, h1, h2, h3, h4, rfl⟩ := in_dp m ha hb hc
  exact op_inD hu pins s σ H _ _ v u Q I rx ry ⟨p, qs, h1, h2, h3, h4, wr_bl m h⟩
theorem op_ninI (hu : X.A.units + 65 < cLine) : OpR X (compareOp .NotIn) (rCo X.K .nin) := by
  intro pins s σ H x y v u Q I rx ry ⟨Z0, C, H0, Z, st, A, B, S1, S2, m, ha, hb, h⟩
  obtain ⟨c, hc, h⟩ := map_bl h
  simp only [cmpD, Option.map_eq_some_iff] at hc
  obtain ⟨c', hc, rfl⟩ := hc
  obtain ⟨p, qs, h1, h2, h3, h4, rfl⟩ := in_dp m ha hb hc
  exact op_notInD hu pins s σ H _ _ v u Q I rx ry ⟨p, qs, h1, h2, h3, h4, wr_bl m h⟩
theorem ints_lt {d e : D} {c : Bool} (h : cmpD .lt d e = some c) : ∃ i j : Int, d = .int i ∧ e = .int j ∧ decide (i < j) = c := by
  cases d <;> cases e <;> first | (cases h; exact ⟨_, _, rfl, rfl, rfl⟩) | cases h
theorem op_ltI : OpR X (compareOp .Lt) (rCo X.K .lt) := by
  intro pins s σ H x y v u Q I rx ry ⟨Z0, C, H0, Z, st, A, B, S1, S2, m, ha, hb, h⟩
  obtain ⟨c, hc, h⟩ := map_bl h
  obtain ⟨i, j, e1, e2, rfl⟩ := ints_lt hc
  rw [e1] at ha
  rw [e2] at hb
  obtain ⟨rfl, rfl⟩ := ow_int ha
  obtain ⟨rfl, rfl⟩ := ow_int hb
  exact op_lt pins s σ H _ _ v u Q I rx ry ⟨_, _, rfl, rfl, wr_bl m h⟩
theorem ints_le {d e : D} {c : Bool} (h : cmpD .le d e = some c) : ∃ i j : Int, d = .int i ∧ e = .int j ∧ decide (i ≤ j) = c := by
  cases d <;> cases e <;> first | (cases h; exact ⟨_, _, rfl, rfl, rfl⟩) | cases h
theorem op_leI : OpR X (compareOp .LtE) (rCo X.K .le) := by
  intro pins s σ H x y v u Q I rx ry ⟨Z0, C, H0, Z, st, A, B, S1, S2, m, ha, hb, h⟩
  obtain ⟨c, hc, h⟩ := map_bl h
  obtain ⟨i, j, e1, e2, rfl⟩ := ints_le hc
  rw [e1] at ha
  rw [e2] at hb
  obtain ⟨rfl, rfl⟩ := ow_int ha
  obtain ⟨rfl, rfl⟩ := ow_int hb
  exact op_le pins s σ H _ _ v u Q I rx ry ⟨_, _, rfl, rfl, wr_bl m h⟩
theorem ints_gt {d e : D} {c : Bool} (h : cmpD .gt d e = some c) : ∃ i j : Int, d = .int i ∧ e = .int j ∧ decide (j < i) = c := by
  cases d <;> cases e <;> first | (cases h; exact ⟨_, _, rfl, rfl, rfl⟩) | cases h
theorem op_gtI : OpR X (compareOp .Gt) (rCo X.K .gt) := by
  intro pins s σ H x y v u Q I rx ry ⟨Z0, C, H0, Z, st, A, B, S1, S2, m, ha, hb, h⟩
  obtain ⟨c, hc, h⟩ := map_bl h
  obtain ⟨i, j, e1, e2, rfl⟩ := ints_gt hc
  rw [e1] at ha
  rw [e2] at hb
  obtain ⟨rfl, rfl⟩ := ow_int ha
  obtain ⟨rfl, rfl⟩ := ow_int hb
  exact op_gt pins s σ H _ _ v u Q I rx ry ⟨_, _, rfl, rfl, wr_bl m h⟩
theorem ints_ge {d e : D} {c : Bool} (h : cmpD .ge d e = some c) : ∃ i j : Int, d = .int i ∧ e = .int j ∧ decide (j ≤ i) = c := by
  cases d <;> cases e <;> first | (cases h; exact ⟨_, _, rfl, rfl, rfl⟩) | cases h
theorem op_geI : OpR X (compareOp .GtE) (rCo X.K .ge) := by
  intro pins s σ H x y v u Q I rx ry ⟨Z0, C, H0, Z, st, A, B, S1, S2, m, ha, hb, h⟩
  obtain ⟨c, hc, h⟩ := map_bl h
  obtain ⟨i, j, e1, e2, rfl⟩ := ints_ge hc
  rw [e1] at ha
  rw [e2] at hb
  obtain ⟨rfl, rfl⟩ := ow_int ha
  obtain ⟨rfl, rfl⟩ := ow_int hb
  exact op_ge pins s σ H _ _ v u Q I rx ry ⟨_, _, rfl, rfl, wr_bl m h⟩
/-- is: against None, True, False -/
theorem is_val {d e : D} {l k : Nat} {c : Bool} {v u : Value} (ha : Ow K Z C H l S1 x d) (hb : Ow K Z C H k S2 y e) (h : isD d e = some c) (rx : RelV x v) (ry : RelV y u) : plainIs v u = true ∧ (v == u) = c := by
  unfold isD at h
  split at h
  · cases h
    obtain ⟨rfl, _⟩ := ow_non ha
    obtain ⟨rfl, _⟩ := ow_non hb
    cases rx; cases ry; exact ⟨rfl, rfl⟩
  · cases h
    rename_i hd
    obtain ⟨rfl, _⟩ := ow_non hb
    cases ry
    have : x ≠ .non := by
      rintro rfl
      cases ha with
      | fro i => cases i; exact hd rfl
      | flt i => cases i; exact hd rfl
    cases x <;> first
      | exact absurd rfl this
      | (cases rx; exact ⟨rfl, rfl⟩)
      | (obtain ⟨t, rfl⟩ := rx; exact ⟨rfl, rfl⟩)
  · cases h
    rename_i a b
    obtain ⟨rfl, _⟩ := ow_bl ha
    obtain ⟨rfl, _⟩ := ow_bl hb
    cases rx; cases ry
    refine ⟨rfl, ?_⟩
    cases a <;> cases b <;> rfl
  · cases h
    rename_i hd
    obtain ⟨rfl, _⟩ := ow_bl hb
    cases ry
    have : ∀ b, x ≠ .bl b := by
      rintro b rfl
      cases ha with
      | fro i => cases i; exact hd _ rfl
      | flt i => cases i; exact hd _ rfl
    cases x <;> first
      | exact absurd rfl (this _)
      | (cases rx; exact ⟨rfl, rfl⟩)
      | (obtain ⟨t, rfl⟩ := rx; exact ⟨rfl, rfl⟩)
  · cases h
theorem op_isI : OpR X (compareOp .Is) (rCo X.K .is_) := by
  intro pins s σ H x y v u Q I rx ry ⟨Z0, C, H0, Z, st, A, B, S1, S2, m, ha, hb, h⟩
  obtain ⟨c, hc, h⟩ := map_bl h
  obtain ⟨h1, h2⟩ := is_val ha hb hc rx ry
  exact wpAny_is_plain h1 ⟨.bl c, H, I, by rw [h2]; rfl, wr_bl m h⟩
theorem op_isnI : OpR X (compareOp .IsNot) (rCo X.K .isn) := by
  intro pins s σ H x y v u Q I rx ry ⟨Z0, C, H0, Z, st, A, B, S1, S2, m, ha, hb, h⟩
  obtain ⟨c, hc, h⟩ := map_bl h
  simp only [cmpD, Option.map_eq_some_iff] at hc
  obtain ⟨c', hc, rfl⟩ := hc
  obtain ⟨h1, h2⟩ := is_val ha hb hc rx ry
  exact wpAny_isNot_plain h1 ⟨.bl (!c'), H, I, by rw [h2]; rfl, wr_bl m h⟩
end
end IX
/-! IXe: index, slices, isinstance, built-ins of the small language. Own work. -/
namespace IX
open PySem PySem.Spec PyProof.Rows L2 Evl

section
variable {K : PySem.W.Frag} {X : Cx} {Z Z0 Z' H H0 : Hp} {C : List Addr} {x y v : V} {vs : List V} {d : D} {ds : List D} {l : Nat} {S S1 S2 : List Addr} {st : Sto} {Q : VK}

theorem OwV.get : ∀ {S : List Addr} {vs : List V} {xs : List DL} {i : Nat} {x : DL}, OwV K Z C H S vs xs → xs[i]? = some x → ∃ v S', vs[i]? = some v ∧ Ow K Z C H x.2 S' v x.1 ∧ List.Sublist S' S
  | _, _, _, _, _, .nil, h => by simp at h
  | _, _, _, 0, _, .cons r _, h => ⟨_, _, rfl, by cases h; exact r, List.sublist_append_left _ _⟩
  | _, _, _, i + 1, _, .cons _ t, h => by
    obtain ⟨v, S', h1, h2, h3⟩ := OwV.get (i := i) t (by simpa using h)
    exact ⟨v, S', by simpa using h1, h2, h3.trans (List.sublist_append_right _ _)⟩
theorem OwV.take : ∀ {S : List Addr} {vs : List V} {xs : List DL} (n : Nat), OwV K Z C H S vs xs → ∃ S', OwV K Z C H S' (vs.take n) (xs.take n) ∧ List.Sublist S' S
  | _, _, _, 0, _ => ⟨[], .nil, List.nil_sublist _⟩
  | _, _, _, _ + 1, .nil => ⟨[], .nil, List.nil_sublist _⟩
  | _, _, _, n + 1, .cons r t => by
    obtain ⟨S', h1, h2⟩ := OwV.take n t
    exact ⟨_, .cons r h1, (List.Sublist.refl _).append h2⟩
theorem OwV.drop : ∀ {S : List Addr} {vs : List V} {xs : List DL} (n : Nat), OwV K Z C H S vs xs → ∃ S', OwV K Z C H S' (vs.drop n) (xs.drop n) ∧ List.Sublist S' S
  | _, _, _, 0, h => ⟨_, h, List.Sublist.refl _⟩
  | _, _, _, _ + 1, .nil => ⟨[], .nil, List.nil_sublist _⟩
  | _, _, _, n + 1, .cons _ t => by
    obtain ⟨S', h1, h2⟩ := OwV.drop n t
    exact ⟨S', h1, h2.trans (List.sublist_append_right _ _)⟩
theorem cutL_map {α β : Type} (f : α → β) (xs : List α) (lo hi : Option Int) : (cutL xs lo hi).map f = cutL (xs.map f) lo hi := by
  unfold cutL
  simp only [List.map_take, List.map_drop, List.length_map]
theorem cutL_mem {α : Type} {xs : List α} {lo hi : Option Int} {x : α} (h : x ∈ cutL xs lo hi) : x ∈ xs := List.mem_of_mem_drop (List.mem_of_mem_take h)
theorem cutL_len {α : Type} {xs : List α} {lo hi : Option Int} : (cutL xs lo hi).length ≤ xs.length := by
  unfold cutL
  simp only [List.length_take, List.length_drop]
  omega
theorem OwV.cut {xs : List DL} (o : OwV K Z C H S vs xs) (lo hi : Option Int) : ∃ S', OwV K Z C H S' (cutL vs lo hi) (cutL xs lo hi) ∧ List.Sublist S' S := by
  unfold cutL
  rw [o.length]
  obtain ⟨S1, h1, h2⟩ := o.drop (HT.sIx xs.length 0 lo)
  obtain ⟨S2, h3, h4⟩ := h1.take (HT.sIx xs.length xs.length hi - HT.sIx xs.length 0 lo)
  exact ⟨S2, h3, h4.trans h2⟩
theorem atI_some {α : Type} {xs : List α} {i : Int} {x : α} (h : L2.atI xs i = some x) : ∃ j, L2.ixN xs.length i = some j ∧ xs[j]? = some x := by
  unfold L2.atI at h
  obtain ⟨j, h1, h2⟩ := Option.bind_eq_some_iff.mp h
  exact ⟨j, h1, h2⟩
theorem atI_of {α β : Type} {xs : List α} {ys : List β} {i : Int} {j : Nat} {y : β} (h : L2.ixN xs.length i = some j) (hl : ys.length = xs.length) (hy : ys[j]? = some y) : L2.atI ys i = some y := by
  unfold L2.atI
  rw [hl, h]
  exact hy
theorem itemsDL_get {i : Nat} (h : ds[i]? = some d) : (itemsDL l ds)[i]? = some (d, if l = 2 then 2 else 0) := by
  unfold itemsDL
  rw [List.getElem?_map, h]
  rfl
/-- the items of a readable value, with what is known of each -/
theorem ow_items {xs : List D} (m : Md K Z0 C H0 Z H st S) (o : Ow K Z C H l S1 v d) (h1 : ∀ a ∈ S1, a ∈ S) (hx : items st d = some xs) :
    ∃ p vs S', v = .ref p ∧ (SqL K H p vs ∨ SqT K H p vs) ∧ vs.length = xs.length ∧ OwV K Z C H S' vs (itemsDL l xs) ∧ List.Sublist S' S1 := by
  cases d with
  | lst ds =>
    cases hx
    obtain ⟨p, vs, S', rfl, hp, _, n, ov, sb⟩ := ow_lst o m.re.ex
    exact ⟨p, vs, S', rfl, .inl (sq_of hp), n, ov, sb⟩
  | tup ds =>
    cases hx
    obtain ⟨p, vs, rfl, hp, _, n, ov⟩ := ow_tup o m.re.ex
    exact ⟨p, vs, S1, rfl, .inr (ex_t m.re.ex hp), n, ov, List.Sublist.refl _⟩
  | cell k =>
    obtain ⟨rfl, i⟩ := o.flat0 rfl
    obtain ⟨a, rfl, hc⟩ := is_cell i
    obtain ⟨a', ws, e1, e2, e3, e4, e5⟩ := m.re.cel k xs hx
    rw [hc] at e1
    cases e1
    refine ⟨a, ws, [], rfl, .inl (sq_of e2), e4.length, ?_, List.Sublist.refl _⟩
    have i0 : IsL K Z C ws xs := isl_scal e4
    have hf : D.flatL xs = true := by
      have : ∀ ds : List D, ds.all D.scal = true → D.flatL ds = true := by
        intro ds
        induction ds with
        | nil => intro _; rfl
        | cons d r ih =>
          intro h
          simp only [List.all_cons, Bool.and_eq_true] at h
          simp only [D.flatL, Bool.and_eq_true]
          refine ⟨?_, ih h.2⟩
          cases d <;> first | rfl | (have := h.1; cases this)
      exact this xs e5
    unfold itemsDL
    by_cases q : l = 2
    · simp only [q, if_true]; exact (isl_flat i0 hf).toV
    · simp only [q, if_false]; exact i0.toV
  | scr ns =>
    cases hx
    have : Is K Z C v (.scr ns) := by
      cases o with
      | fro i => exact i
      | flt i _ => exact i
    cases this with
    | scr hs hz =>
      refine ⟨_, _, [], rfl, .inl (ex_l m.re.ex hs), by simp, ?_, List.nil_sublist _⟩
      have i0 : IsL K Z C (ns.map V.int) (ns.map D.int) := isl_of_ints ns
      have hf : D.flatL (ns.map D.int) = true := by
        clear hs hz o h1
        induction ns with
        | nil => rfl
        | cons n r ih => simp only [List.map_cons, D.flatL, D.flat, Bool.true_and]; exact ih (isl_of_ints r)
      unfold itemsDL
      by_cases q : l = 2
      · simp only [q, if_true]; exact (isl_flat i0 hf).toV
      · simp only [q, if_false]; exact i0.toV
  | _ => cases hx

/-! ### a[b] -/
theorem ix_I : IxR X (rTwo X.K fun A B st => .of (ixD st A B.1) st) := by
  intro value slice pins s σ H x y v u Q I rx ry ⟨Z0, C, H0, Z, st, A, B, S1, S2, m, ha, hb, h⟩ hs
  obtain ⟨d, l⟩ := A
  obtain ⟨e, k⟩ := B
  simp only at h ha hb
  cases e with
  | int i =>
    simp only [ixD] at h
    cases hx : items st d with
    | none => rw [hx] at h; exact h.elim
    | some xs =>
      rw [hx] at h
      simp only [Option.bind_some] at h
      cases hy : L2.atI xs i with
      | none => rw [hy] at h; exact h.elim
      | some z =>
        rw [hy] at h
        obtain ⟨rfl, rfl⟩ := ow_int hb
        obtain ⟨p, vs, S', rfl, hp, n, ov, sb⟩ := ow_items m ha (fun a h => List.mem_append_left _ h) hx
        obtain ⟨j, j1, j2⟩ := atI_some hy
        obtain ⟨w, S'', w1, w2, w3⟩ := ov.get (itemsDL_get (l := l) j2)
        have hw := atI_of (ys := vs) j1 n w1
        have q : Q w H := h _ _ _ _ (m.sub (m.nd.sublist ((w3.trans sb).trans (List.sublist_append_left _ _))) fun a h => List.mem_append_left _ ((w3.trans sb).subset h)) (lvl_ow w2)
        rcases hp with hp | hp
        · exact ix_list value slice pins s σ H _ _ v u Q I rx ry ⟨p, vs, i, w, rfl, rfl, hp, hw, q⟩ hs
        · exact ix_tup value slice pins s σ H _ _ v u Q I rx ry ⟨p, vs, i, w, rfl, rfl, hp, hw, q⟩ hs
  | _ => exact h.elim

/-! ### a[lo:hi] -/
def rSlI (K : PySem.W.Frag) : V → Option Int → Option Int → Hp → VK → Prop := fun x lo hi H Q => ∃ Z0 C H0 Z st A S, Md K Z0 C H0 Z H st S ∧ Ow K Z C H A.2 S x A.1 ∧ Wr K (.of (slD A lo hi) st) Z0 C H0 Q
theorem lvItems_ok {xs : List D} (P : D → Prop) {ys : List DL} (h : ∀ y ∈ ys, y ∈ itemsDL l xs) : lvItems l xs = 1 ∨ (lvItems l xs = 2 ∧ ∀ x ∈ ys, lvOk x) := by
  unfold lvItems
  split
  · rename_i hl
    exact .inr ⟨rfl, fun z hz => itemsDL_ok hl z (h z hz)⟩
  · exact .inl rfl
theorem sl_I : SlR X (rSlI X.K) := by
  intro pins s σ H x v vl vu lo hi sl Q I rx hs pl pu ⟨Z0, C, H0, Z, st, A, S, m, ha, h⟩
  obtain ⟨d, l⟩ := A
  simp only at ha
  cases d with
  | lst xs =>
    simp only [slD] at h
    obtain ⟨p, vs, S', rfl, hp, z, n, ov, sb⟩ := ow_lst ha m.re.ex
    refine sl_list pins s σ H _ v vl vu lo hi sl Q I rx hs pl pu ⟨p, vs, rfl, sq_of hp, fun r hr => ?_⟩
    obtain ⟨S'', oc, sc⟩ := ov.cut lo hi
    obtain ⟨Z', S3, m', o'⟩ := new_lst (L := lvItems l xs) m oc (sc.trans sb) (Nat.le_trans cutL_len z) hr (lvItems_ok (fun _ => True) fun y hy => cutL_mem hy)
    rw [cutL_map, itemsDL_fst] at o'
    exact h _ _ _ _ m' o'
  | scr ns =>
    simp only [slD] at h
    obtain ⟨p, vs, S', rfl, hp, n, ov, sb⟩ := ow_items (xs := ns.map .int) m ha (fun a h => h) rfl
    have : Is X.K Z C (V.ref p) (.scr ns) := by
      cases ha with
      | fro i => exact i
      | flt i _ => exact i
    cases this with
    | scr hq hz =>
      refine sl_list pins s σ H _ v vl vu lo hi sl Q I rx hs pl pu ⟨p, ns.map V.int, rfl, ex_l m.re.ex hq, fun r hr => ?_⟩
      have il : OwV X.K Z C H [] (ns.map V.int) (itemsDL 2 (ns.map D.int)) := by
        unfold itemsDL
        simp only [if_true]
        refine (isl_flat (isl_of_ints ns) ?_).toV
        clear hq hz ov n h ha
        induction ns with
        | nil => rfl
        | cons n r ih => simp only [List.map_cons, D.flatL, D.flat, Bool.true_and]; exact ih
      obtain ⟨S'', oc, sc⟩ := il.cut lo hi
      obtain ⟨Z', S3, m', o'⟩ := new_lst (L := 2) m oc (sc.trans (List.nil_sublist _)) (Nat.le_trans cutL_len (by rw [List.length_map]; exact Nat.le_trans hz (by decide))) hr (.inr ⟨rfl, fun y hy => itemsDL_ok (.inl rfl) y (cutL_mem hy)⟩)
      rw [cutL_map, itemsDL_fst] at o'
      exact h _ _ _ _ m' o'
  | tup xs =>
    simp only [slD] at h
    split at h
    · exact h.elim
    · rename_i hw
      obtain ⟨p, vs, rfl, hp, z, n, ov⟩ := ow_tup ha m.re.ex
      refine sl_tup pins s σ H _ v vl vu lo hi sl Q I rx hs pl pu ⟨p, vs, rfl, ex_t m.re.ex hp, by rw [n]; exact hw, fun r hr => ?_⟩
      obtain ⟨S'', oc, sc⟩ := ov.cut lo hi
      obtain ⟨Z', S3, m', o'⟩ := new_tup (L := if l = 2 then 2 else 0) (m.sub (m.nd.sublist sc) fun a h => sc.subset h) oc (Nat.le_trans cutL_len z) hr (by
        split
        · rename_i hl
          exact .inr ⟨rfl, fun y hy => itemsDL_ok (.inl hl) y (cutL_mem hy)⟩
        · exact .inl rfl)
      rw [cutL_map, itemsDL_fst] at o'
      exact h _ _ _ _ m' (lvl_ow o')
  | _ => exact h.elim

/-! ### isinstance -/
def tyN : D → Option String
  | .non => some "NoneType" | .bl _ => some "bool" | .int _ => some "int" | .str _ => some "str"
  | .lst _ => some "list" | .cell _ => some "list" | .tup _ => some "tuple" | .fn _ => some "dict"
  | _ => none
def Ty.n : Ty → String
  | .int => "int" | .bool => "bool" | .list => "list" | .tuple => "tuple" | .str => "str" | .dict => "dict"
theorem kitB_all : ∀ a ∈ ["NoneType", "bool", "int", "str", "list", "tuple", "dict"], ∀ t ∈ [Ty.int, .bool, .list, .tuple, .str, .dict], kitB a t.n = some (a == t.n || (a == "bool" && t.n == "int")) := by
  decide +kernel
theorem isTy_kit {t : Ty} {b : Bool} (h : isTyD t d = some b) : ∃ a, tyN d = some a ∧ kitB a t.n = some b := by
  cases d <;> cases t <;> first
    | (cases h; exact ⟨_, rfl, kitB_all _ (by decide) _ (by decide)⟩)
    | cases h
theorem ow_ty {a : String} (m : Md K Z0 C H0 Z H st S) (o : Ow K Z C H l S1 v d) (h : tyN d = some a) : TyX K H v (.type a) := by
  cases d with
  | non => cases h; obtain ⟨rfl, _⟩ := ow_non o; exact .base .non
  | bl b => cases h; obtain ⟨rfl, _⟩ := ow_bl o; exact .base (.bl b)
  | int b => cases h; obtain ⟨rfl, _⟩ := ow_int o; exact .base (.int b)
  | str b => cases h; obtain ⟨rfl, _⟩ := ow_str o; exact .base (.str b)
  | lst ds =>
    cases h
    obtain ⟨p, vs, S', rfl, hp, _⟩ := ow_lst o m.re.ex
    exact .base (.lst hp)
  | tup ds =>
    cases h
    obtain ⟨p, vs, rfl, hp, _⟩ := ow_tup o m.re.ex
    rcases ex_t m.re.ex hp with (q | ⟨ob, q⟩) | ⟨ob, its, n, q, c, _⟩
    · exact .base (.tup q)
    · exact .fTuple q
    · exact .kTuple q c
  | cell k =>
    cases h
    obtain ⟨rfl, i⟩ := o.flat0 rfl
    obtain ⟨a, rfl, hc⟩ := is_cell i
    obtain ⟨ws, e⟩ := m.re.some (List.mem_of_getElem? hc)
    exact .base (.lst e)
  | fn k =>
    cases h
    obtain ⟨rfl, i⟩ := o.flat0 rfl
    cases i with
    | emp hz => exact .base (.dK (m.re.ex _ _ hz))
  | _ => cases h
def isAnyD (d : D) (ts : List Ty) : Option Bool := ts.foldr (fun t r => match isTyD t d, r with
  | some b, some c => some (b || c)
  | _, _ => none) (some false)
theorem isAny_kit : ∀ {ts : List Ty} {b : Bool}, isAnyD d ts = some b → (ts = [] ∧ b = false) ∨ ∃ a, tyN d = some a ∧ PySem.W.kitAny K (.type a) (ts.map fun t => .type t.n) = some b
  | [], b, h => .inl ⟨rfl, by cases h; rfl⟩
  | t :: ts, b, h => by
    have h' : (match isTyD t d, isAnyD d ts with
      | some b, some c => some (b || c)
      | _, _ => none) = some b := h
    split at h'
    · rename_i b1 c1 h1 h2
      cases h'
      obtain ⟨a, ha, hk⟩ := isTy_kit h1
      refine .inr ⟨a, ha, ?_⟩
      refine kitAny_cons (b := b1) (kit_ty hk) (fun e => ?_) fun e => by rw [e]; rfl
      rw [e, Bool.false_or]
      rcases isAny_kit (ts := ts) h2 with ⟨rfl, rfl⟩ | ⟨a', ha', hk'⟩
      · rfl
      · rw [ha] at ha'; cases ha'; exact hk'
    · cases h'
end
end IX
/-! IXf: built-ins of the small language. Own work. -/
namespace IX
open PySem PySem.Spec PyProof.Rows L2 Evl

section
variable {K : PySem.W.Frag} {X : Cx} {Z Z0 Z' H H0 : Hp} {C : List Addr} {x y v : V} {vs : List V} {d : D} {ds : List D} {l : Nat} {S S1 S2 : List Addr} {st : Sto} {Q : VK}
def rArg (K : PySem.W.Frag) (f : Sto → List DL → Option DL) : List V → Hp → VK → Prop := fun vs H Q => ∃ Z0 C H0 Z st xs S, Md K Z0 C H0 Z H st S ∧ OwV K Z C H S vs xs ∧ Wr K (.of (f st xs) st) Z0 C H0 Q
theorem OwV.one {x : DL} (o : OwV K Z C H S vs [x]) : ∃ v, vs = [v] ∧ Ow K Z C H x.2 S v x.1 := by
  cases o with
  | cons r t =>
    cases t
    exact ⟨_, rfl, by rw [List.append_nil]; exact r⟩
theorem OwV.pair {x y : DL} (o : OwV K Z C H S vs [x, y]) : ∃ v w S1 S2, vs = [v, w] ∧ S = S1 ++ S2 ∧ Ow K Z C H x.2 S1 v x.1 ∧ Ow K Z C H y.2 S2 w y.1 := by
  cases o with
  | cons r t =>
    obtain ⟨w, rfl, r2⟩ := t.one
    exact ⟨_, _, _, _, rfl, rfl, r, r2⟩
theorem ow_ints {xs : List D} {ns : List Int} (o : Ow K Z C H l S v (.lst xs)) (m : Md K Z0 C H0 Z H st S1) (h : ints? xs = some ns) (h1 : ∀ a ∈ S, a ∈ S1) : ∃ p, v = .ref p ∧ H p = some (.lst (ns.map V.int)) ∧ ns.length ≤ sizeLine := by
  have i := m.frozen o h1
  obtain ⟨p, ws, rfl, h2, h3, h4⟩ := is_lst i
  obtain ⟨rfl, _⟩ := isl_ints h4 h
  exact ⟨p, rfl, m.froz.1.re.ex _ _ h2, by simpa using h3⟩
theorem bi_len : CallR X (.builtin "len") (rArg X.K lenD) := by
  intro pins s σ H xs us Q I r ⟨Z0, C, H0, Z, st, as, S, m, o, h⟩
  unfold lenD at h
  split at h
  · rename_i d l
    cases hx : items st d with
    | none => rw [hx] at h; exact h.elim
    | some ys =>
      rw [hx] at h
      obtain ⟨v, rfl, ow⟩ := o.one
      obtain ⟨p, vs, S', rfl, hp, n, ov, sb⟩ := ow_items m ow (fun a h => h) hx
      refine call_len_seq pins s σ H _ us Q I r ⟨p, vs, rfl, hp, ?_⟩
      rw [n]
      exact wr_int m h
  · exact h.elim
theorem bi_sum (hc : X.calm = true) : CallR X (.builtin "sum") (rArg X.K fun _ => sumD) := by
  intro pins s σ H xs us Q I r ⟨Z0, C, H0, Z, st, as, S, m, o, h⟩
  dsimp only at h
  unfold sumD at h
  split at h
  · rename_i ys l
    cases hx : ints? ys with
    | none => rw [hx] at h; exact h.elim
    | some ns =>
      rw [hx] at h
      obtain ⟨v, rfl, ow⟩ := o.one
      obtain ⟨p, rfl, hp, _⟩ := ow_ints ow m hx fun a h => h
      exact cr_sum hc pins s σ H _ us Q I r ⟨p, ns, rfl, sq_of hp, wr_int m h⟩
  · exact h.elim
theorem maxL_ok : ∀ {ns : List Int} {n : Int}, maxL ns = some n → n ∈ ns ∧ ∀ y ∈ ns, y ≤ n := by
  intro ns n h
  cases ns with
  | nil => cases h
  | cons x xs =>
    have key : ∀ (ys : List Int) (a : Int), (ys.foldl (fun a b => if a < b then b else a) a = a ∨ ys.foldl (fun a b => if a < b then b else a) a ∈ ys) ∧ a ≤ ys.foldl (fun a b => if a < b then b else a) a ∧ ∀ y ∈ ys, y ≤ ys.foldl (fun a b => if a < b then b else a) a := by
      intro ys
      induction ys with
      | nil => intro a; simp
      | cons y ys ih =>
        intro a
        obtain ⟨h1, h2, h3⟩ := ih (if a < y then y else a)
        simp only [List.foldl_cons, List.mem_cons]
        refine ⟨?_, ?_, ?_⟩
        · rcases h1 with h1 | h1
          · rw [h1]; split <;> simp
          · exact .inr (.inr h1)
        · split at h2 <;> split <;> omega
        · rintro z (rfl | hz)
          · split at h2 <;> split <;> omega
          · exact h3 z hz
    cases h
    obtain ⟨h1, h2, h3⟩ := key xs x
    refine ⟨?_, ?_⟩
    · rcases h1 with h1 | h1
      · rw [h1]; exact List.mem_cons_self
      · exact List.mem_cons_of_mem _ h1
    · intro y hy
      rcases List.mem_cons.mp hy with rfl | hy
      · exact h2
      · exact h3 y hy
theorem minL_ok : ∀ {ns : List Int} {n : Int}, minL ns = some n → n ∈ ns ∧ ∀ y ∈ ns, n ≤ y := by
  intro ns n h
  cases ns with
  | nil => cases h
  | cons x xs =>
    have key : ∀ (ys : List Int) (a : Int), (ys.foldl (fun a b => if b < a then b else a) a = a ∨ ys.foldl (fun a b => if b < a then b else a) a ∈ ys) ∧ ys.foldl (fun a b => if b < a then b else a) a ≤ a ∧ ∀ y ∈ ys, ys.foldl (fun a b => if b < a then b else a) a ≤ y := by
      intro ys
      induction ys with
      | nil => intro a; simp
      | cons y ys ih =>
        intro a
        obtain ⟨h1, h2, h3⟩ := ih (if y < a then y else a)
        simp only [List.foldl_cons, List.mem_cons]
        refine ⟨?_, ?_, ?_⟩
        · rcases h1 with h1 | h1
          · rw [h1]; split <;> simp
          · exact .inr (.inr h1)
        · split at h2 <;> split <;> omega
        · rintro z (rfl | hz)
          · split at h2 <;> split <;> omega
          · exact h3 z hz
    cases h
    obtain ⟨h1, h2, h3⟩ := key xs x
    refine ⟨?_, ?_⟩
    · rcases h1 with h1 | h1
      · rw [h1]; exact List.mem_cons_self
      · exact List.mem_cons_of_mem _ h1
    · intro y hy
      rcases List.mem_cons.mp hy with rfl | hy
      · exact h2
      · exact h3 y hy
theorem bi_max (hc : X.calm = true) : CallR X (.builtin "max") (rArg X.K fun _ => maxD) := by
  intro pins s σ H xs us Q I r ⟨Z0, C, H0, Z, st, as, S, m, o, h⟩
  dsimp only at h
  unfold maxD at h
  split at h
  · rename_i ys l
    cases hx : ints? ys with
    | none => rw [hx] at h; exact h.elim
    | some ns =>
      rw [hx] at h
      simp only [Option.bind_some] at h
      cases hm : maxL ns with
      | none => rw [hm] at h; exact h.elim
      | some n =>
        rw [hm] at h
        obtain ⟨v, rfl, ow⟩ := o.one
        obtain ⟨p, rfl, hp, _⟩ := ow_ints ow m hx fun a h => h
        obtain ⟨k1, k2⟩ := maxL_ok hm
        refine cr_max hc pins s σ H _ us Q I r ⟨p, ns, rfl, sq_of hp, List.length_pos_of_mem k1, fun z z1 z2 => ?_⟩
        have e : z = n := Int.le_antisymm (k2 z z1) (z2 n k1)
        rw [e]
        exact wr_int m h
  · exact h.elim
theorem bi_min (hc : X.calm = true) : CallR X (.builtin "min") (rArg X.K fun _ => minD) := by
  intro pins s σ H xs us Q I r ⟨Z0, C, H0, Z, st, as, S, m, o, h⟩
  dsimp only at h
  unfold minD at h
  split at h
  · rename_i ys l
    cases hx : ints? ys with
    | none => rw [hx] at h; exact h.elim
    | some ns =>
      rw [hx] at h
      simp only [Option.bind_some] at h
      cases hm : minL ns with
      | none => rw [hm] at h; exact h.elim
      | some n =>
        rw [hm] at h
        obtain ⟨v, rfl, ow⟩ := o.one
        obtain ⟨p, rfl, hp, _⟩ := ow_ints ow m hx fun a h => h
        obtain ⟨k1, k2⟩ := minL_ok hm
        refine cr_min hc pins s σ H _ us Q I r ⟨p, ns, rfl, sq_of hp, List.length_pos_of_mem k1, fun z z1 z2 => ?_⟩
        have e : z = n := Int.le_antisymm (z2 n k1) (k2 z z1)
        rw [e]
        exact wr_int m h
  · exact h.elim
theorem bi_max2 (hc : X.calm = true) : CallR X (.builtin "max") (rArg X.K fun _ => max2D) := by
  intro pins s σ H xs us Q I r ⟨Z0, C, H0, Z, st, as, S, m, o, h⟩
  dsimp only at h
  unfold max2D at h
  split at h
  · rename_i i l j k
    obtain ⟨v, w, S1, S2, rfl, rfl, o1, o2⟩ := o.pair
    obtain ⟨rfl, rfl⟩ := ow_int o1
    obtain ⟨rfl, rfl⟩ := ow_int o2
    exact call_max2 hc pins s σ H _ us Q I r ⟨i, j, rfl, wr_int m h⟩
  · exact h.elim
theorem bi_min2 (hc : X.calm = true) : CallR X (.builtin "min") (rArg X.K fun _ => min2D) := by
  intro pins s σ H xs us Q I r ⟨Z0, C, H0, Z, st, as, S, m, o, h⟩
  dsimp only at h
  unfold min2D at h
  split at h
  · rename_i i l j k
    obtain ⟨v, w, S1, S2, rfl, rfl, o1, o2⟩ := o.pair
    obtain ⟨rfl, rfl⟩ := ow_int o1
    obtain ⟨rfl, rfl⟩ := ow_int o2
    exact call_min2 hc pins s σ H _ us Q I r ⟨i, j, rfl, wr_int m h⟩
  · exact h.elim
theorem bi_abs : CallR X (.builtin "abs") (rArg X.K fun _ => absD) := by
  intro pins s σ H xs us Q I r ⟨Z0, C, H0, Z, st, as, S, m, o, h⟩
  dsimp only at h
  unfold absD at h
  split at h
  · rename_i i l
    obtain ⟨v, rfl, ow⟩ := o.one
    obtain ⟨rfl, rfl⟩ := ow_int ow
    exact call_abs pins s σ H _ us Q I r ⟨i, rfl, wr_int m h⟩
  · exact h.elim
theorem bi_int : CallR X (.type "int") (rArg X.K fun _ => intD) := by
  intro pins s σ H xs us Q I r ⟨Z0, C, H0, Z, st, as, S, m, o, h⟩
  dsimp only at h
  unfold intD at h
  split at h
  · rename_i i l
    obtain ⟨v, rfl, ow⟩ := o.one
    obtain ⟨rfl, rfl⟩ := ow_int ow
    exact call_int1 pins s σ H _ us Q I r (.inl ⟨i, rfl, wr_int m h⟩)
  · rename_i i l
    obtain ⟨v, rfl, ow⟩ := o.one
    obtain ⟨rfl, rfl⟩ := ow_bl ow
    exact call_int1 pins s σ H _ us Q I r (.inr ⟨i, rfl, wr_int m h⟩)
  · exact h.elim
theorem bi_list : CallR X (.type "list") (rArg X.K fun _ => listD) := by
  intro pins s σ H xs us Q I r ⟨Z0, C, H0, Z, st, as, S, m, o, h⟩
  dsimp only at h
  unfold listD at h
  split at h
  · rename_i ys l
    obtain ⟨v, rfl, ow⟩ := o.one
    obtain ⟨p, vs, S', rfl, hp, z, n, ov, sb⟩ := ow_lst ow m.re.ex
    refine call_list_of pins s σ H _ us Q I r ⟨p, vs, rfl, .inl (sq_of hp), fun q hq => ?_⟩
    obtain ⟨Z', S3, m', o'⟩ := new_lst (L := lvItems l ys) m ov sb z hq (lvItems_ok (fun _ => True) fun y hy => hy)
    rw [itemsDL_fst] at o'
    exact h _ _ _ _ m' o'
  · rename_i ys l
    obtain ⟨v, rfl, ow⟩ := o.one
    obtain ⟨p, vs, rfl, hp, z, n, ov⟩ := ow_tup ow m.re.ex
    refine call_list_of pins s σ H _ us Q I r ⟨p, vs, rfl, .inr (ex_t m.re.ex hp), fun q hq => ?_⟩
    obtain ⟨Z', S3, m', o'⟩ := new_lst (L := lvItems l ys) m ov (List.Sublist.refl _) z hq (lvItems_ok (fun _ => True) fun y hy => hy)
    rw [itemsDL_fst] at o'
    exact h _ _ _ _ m' o'
  · exact h.elim
theorem bi_tuple : CallR X (.type "tuple") (rArg X.K fun _ => tupleD) := by
  intro pins s σ H xs us Q I r ⟨Z0, C, H0, Z, st, as, S, m, o, h⟩
  dsimp only at h
  unfold tupleD at h
  split at h
  · rename_i ys l
    obtain ⟨v, rfl, ow⟩ := o.one
    obtain ⟨p, vs, S', rfl, hp, z, n, ov, sb⟩ := ow_lst ow m.re.ex
    refine call_tuple_of pins s σ H _ us Q I r ⟨p, vs, rfl, .inl ⟨sq_of hp, fun q hq => ?_⟩⟩
    obtain ⟨Z', S3, m', o'⟩ := new_tup (L := if l = 2 then 2 else 0) (m.sub (m.nd.sublist sb) fun a h => sb.subset h) ov z hq (by
      split
      · rename_i hl
        exact .inr ⟨rfl, fun y hy => itemsDL_ok (.inl hl) y hy⟩
      · exact .inl rfl)
    rw [itemsDL_fst] at o'
    exact h _ _ _ _ m' (lvl_ow o')
  · exact h.elim
theorem insI_perm (x : Int) : ∀ ys : List Int, (insI x ys).Perm (x :: ys)
  | [] => .refl _
  | y :: ys => by
    unfold insI
    split
    · exact .refl _
    · exact ((insI_perm x ys).cons y).trans (.swap x y ys)
theorem sortI_perm : ∀ xs : List Int, (sortI xs).Perm xs
  | [] => .refl _
  | x :: xs => (insI_perm x (sortI xs)).trans ((sortI_perm xs).cons x)
theorem insI_sorted (x : Int) : ∀ ys : List Int, ys.Pairwise (· ≤ ·) → (insI x ys).Pairwise (· ≤ ·)
  | [], _ => List.pairwise_singleton _ _
  | y :: ys, h => by
    unfold insI
    rw [List.pairwise_cons] at h
    split
    · rename_i hxy
      refine List.pairwise_cons.mpr ⟨fun z hz => ?_, List.pairwise_cons.mpr h⟩
      rcases List.mem_cons.mp hz with rfl | hz
      · exact hxy
      · exact Int.le_trans hxy (h.1 z hz)
    · rename_i hxy
      refine List.pairwise_cons.mpr ⟨fun z hz => ?_, insI_sorted x ys h.2⟩
      rcases List.mem_cons.mp ((insI_perm x ys).mem_iff.mp hz) with rfl | hz
      · omega
      · exact h.1 z hz
theorem sortI_sorted : ∀ xs : List Int, (sortI xs).Pairwise (· ≤ ·)
  | [] => .nil
  | x :: xs => insI_sorted x _ (sortI_sorted xs)
theorem sorted_eq : ∀ {xs ys : List Int}, xs.Perm ys → xs.Pairwise (· ≤ ·) → ys.Pairwise (· ≤ ·) → xs = ys
  | [], ys, p, _, _ => by rw [List.nil_perm.mp p]
  | x :: xs, [], p, _, _ => by exact absurd p.length_eq (by simp)
  | x :: xs, y :: ys, p, hx, hy => by
    rw [List.pairwise_cons] at hx hy
    have e : x = y := by
      have h1 : x ∈ y :: ys := p.mem_iff.mp List.mem_cons_self
      have h2 : y ∈ x :: xs := p.mem_iff.mpr List.mem_cons_self
      rcases List.mem_cons.mp h1 with h1 | h1
      · exact h1
      · rcases List.mem_cons.mp h2 with h2 | h2
        · exact h2.symm
        · exact Int.le_antisymm (hx.1 y h2) (hy.1 x h1)
    subst e
    rw [sorted_eq (List.Perm.cons_inv p) hx.2 hy.2]
theorem new_ints {ns : List Int} {p : Addr} (m : Md K Z0 C H0 Z H st S) (hl : ns.length ≤ sizeLine) (hp : H p = none) :
    ∃ Z' S', Md K Z0 C H0 Z' (upd H p (.lst (ns.map V.int))) st S' ∧ Ow K Z' C (upd H p (.lst (ns.map V.int))) 2 S' (.ref p) (.lst (ns.map .int)) := by
  have hf : ∀ ns : List Int, D.flatL (ns.map D.int) = true := by
    intro ns
    induction ns with
    | nil => rfl
    | cons n r ih => simp only [List.map_cons, D.flatL, D.flat, Bool.true_and]; exact ih
  obtain ⟨Z', S', h1, h2⟩ := new_lst (L := 2) (xs := (ns.map D.int).map fun d => (d, 2)) m (isl_flat (isl_of_ints ns) (hf ns)).toV (List.nil_sublist _) (by simpa using hl) hp (.inr ⟨rfl, fun x hx => by
    obtain ⟨d, _, rfl⟩ := List.mem_map.mp hx
    exact .inl rfl⟩)
  refine ⟨Z', S', h1, ?_⟩
  rw [List.map_map] at h2
  have e : ((fun x : DL => x.1) ∘ fun d : D => (d, 2)) = id := rfl
  rw [e, List.map_id] at h2
  exact h2
theorem bi_sorted : CallR X (.builtin "sorted") (rArg X.K fun _ => sortedD) := by
  intro pins s σ H xs us Q I r ⟨Z0, C, H0, Z, st, as, S, m, o, h⟩
  dsimp only at h
  unfold sortedD at h
  split at h
  · rename_i ys l
    cases hx : ints? ys with
    | none => rw [hx] at h; exact h.elim
    | some ns =>
      rw [hx] at h
      obtain ⟨v, rfl, ow⟩ := o.one
      obtain ⟨p, rfl, hp, hz⟩ := ow_ints ow m hx fun a h => h
      refine cr_sortedI pins s σ H _ us Q I r ⟨p, ns, rfl, sq_of hp, fun ms q h1 h2 hq => ?_⟩
      have e : ms = sortI ns := sorted_eq (h1.trans (sortI_perm ns).symm) h2 (sortI_sorted ns)
      rw [e]
      obtain ⟨Z', S', m', o'⟩ := new_ints (ns := sortI ns) m (by rw [(sortI_perm ns).length_eq]; exact hz) hq
      exact h _ _ _ _ m' o'
  · exact h.elim
end
end IX
namespace IX
open PySem PySem.Spec PyProof.Rows L2 Evl
section
variable {Pg : Program} {w : World} {A : Around} {Rz : Result → Shared → Prop} {it l S q n0 : Addr} {its : List Value} {bs : List (List Value)}
/-- the walk of sum over lists -/
theorem suml_loop (hh : A.in1.handled = none) (hne : l ≠ it) (hS1 : S ≠ it) (hS2 : S ≠ l) :
    ∀ (k i : Nat) (s : Shared) (t : Addr) (acc : List Value) (m c : Nat), its.length - i = k → i ≤ its.length → s.heap.IsListIter it l i ∧ s.heap.IsList l its.toArray → n0 ≤ S → PySem.IsL s.heap t acc.toArray m → (t = q ∧ i = 0) ∨ (n0 ≤ t ∧ i ≠ 0) → t ≠ S →
      s.heap.get? S = some { cls := .type "list", dict := none, data := .seq #[.ref t] c, slots := #[] } →
      (∀ (j : Nat) (v : Value), its[j]? = some v → ∃ (b : Addr) (zs : List Value) (n : Nat), v = .ref b ∧ bs[j]? = some zs ∧ PySem.IsL s.heap b zs.toArray n ∧ b ≠ it ∧ b ≠ S) → bs.length = its.length → acc.length + (bs.drop i).flatten.length ≤ sizeLine → it < s.heap.objs.size → S < s.heap.objs.size → t ≠ it →
      (∀ h' tk p m', (∀ b o, b ≠ it → b ≠ S → s.heap.get? b = some o → h'.get? b = some o) → PySem.IsL h' p (acc ++ (bs.drop i).flatten).toArray m' → (p = q ∧ its = []) ∨ (n0 ≤ p ∧ its ≠ []) → Rz (.ok (.ret (.ref p))) { s with heap := h', toks := tk }) →
      codeAny (model Pg w) A (.builtin "sum.loop" ⟨[.ref it, .ref S, rawInt 2, rawInt 0], []⟩) Rz s := by
  have Wk := Walks.list (prog := Pg) (w := w) hh it l hne its.toArray
  intro k
  induction k with
  | zero =>
    intro i s t acc m c hk hi hst hn0 ht hq htS hS hit hlen hsz hI hSl hti fin
    have e : i = its.length := by omega
    subst e
    refine codeAny_builtin PySem.F.entry_sum_loop ?_
    rw [Around.under_plainId PySem.F.plain_sum_loop]
    refine wpAny_bind (m := seqItems? (.ref S)) (wpAny_seqItems hS rfl ?_)
    refine wpAny_bind (wpAny_tryCatch (Wk.done s _ _ (by simpa using hst) fun h' tk hk' => wpAny_pure (fin h' tk t m (fun b o h1 h2 e => hk' b o (by simpa using h1) e) ?_ ?_)))
    · rw [List.drop_eq_nil_of_le (by omega), List.flatten_nil, List.append_nil]
      exact hk' t _ (by simpa using hti) ht
    · rcases hq with ⟨h1, h2⟩ | ⟨h1, h2⟩
      · exact .inl ⟨h1, List.length_eq_zero_iff.mp h2⟩
      · exact .inr ⟨h1, fun z => h2 (by rw [z]; rfl)⟩
  | succ k ih =>
    intro i s t acc m c hk hi hst hn0 ht hq htS hS hit hlen hsz hI hSl hti fin
    have hlt : i < its.length := by omega
    refine codeAny_builtin PySem.F.entry_sum_loop ?_
    rw [Around.under_plainId PySem.F.plain_sum_loop]
    refine wpAny_bind (m := seqItems? (.ref S)) (wpAny_seqItems hS rfl ?_)
    refine wpAny_bind (wpAny_tryCatch (Wk.item i s _ _ (by simpa using hlt) hst fun v h' tk hP hst' hk' => ?_))
    have hP' : its[i]? = some v := by simpa using hP
    obtain ⟨b, zs, n, rfl, hb1, hb2, hb3, hb4⟩ := hit i v hP'
    have keepI : ∀ {b : Addr} {o : Obj}, b ≠ it → s.heap.get? b = some o → h'.get? b = some o := fun {b o} h1 e => hk' b o (by simpa using h1) e
    have ht' := keepI hti ht
    have hS' := keepI hS1 hS
    have dr : bs.drop i = zs :: bs.drop (i + 1) := by
      obtain ⟨g1, g2⟩ := List.getElem?_eq_some_iff.mp hb1
      rw [List.drop_eq_getElem_cons g1, g2]
    rw [dr, List.flatten_cons, List.length_append] at hsz
    show wpAny _ A.in1 ((holding [Value.ref b] (binaryOp .Add (.ref t) (.ref b))).attempt >>= _) _ _ _
    refine wpAny_bind (wpAny_attempt (wpAny_holding (PySem.P.add_list (s := { s with heap := h', toks := tk }) ht' (keepI hb3 hb2) ?_ (by simp only [List.size_toArray]; omega))))
    generalize hN : h'.objs.size = N
    have hS3 : (h'.push { cls := .type "list", data := .seq (acc.toArray ++ zs.toArray) }).get? S = some { cls := .type "list", dict := none, data := .seq #[.ref t] c, slots := #[] } := Heap.get?_push_of_some _ hS'
    show wpAny _ A.in1 (updateSeq S (fun _ => #[.ref N]) >>= _) _ _ _
    refine wpAny_bind (wpAny_updateSeq hS3 rfl ?_)
    have hS4 := Heap.get?_update_self (Obj.mapSeq fun _ => #[Value.ref N]) hS3 rfl
    have oth : ∀ {b : Addr} {o : Obj}, b ≠ S → h'.get? b = some o → ((((h'.push { cls := .type "list", data := .seq (acc.toArray ++ zs.toArray) }).update S (Obj.mapSeq fun _ => #[Value.ref N])).update S (Obj.mapSeq fun _ => #[Value.ref N])).get? b = some o) := fun {b o} h1 e => by
      rw [Heap.get?_update_other _ _ (Ne.symm h1), Heap.get?_update_other _ _ (Ne.symm h1)]
      exact Heap.get?_push_of_some _ e
    have hSN : S < N := hN ▸ Heap.lt_size hS'
    have hNS : N ≠ S := Nat.ne_of_gt hSN
    have hNI : N ≠ it := by
      obtain ⟨o, ho, _⟩ := hst'.1
      exact Nat.ne_of_gt (hN ▸ Heap.lt_size ho)
    refine wpAny_bind (wpAny_letGo (wpAny_bind (wpAny_updateSeq hS4 rfl (wpAny_pure ⟨plainId_quiet PySem.F.plain_sum_loop _, ?_⟩))))
    refine ih (i + 1) _ N (acc ++ zs) 0 c (by omega) hlt (Wk.frame _ _ _ hst' fun b hb o e => oth (fun z => ?_) e) hn0 ?_ (.inr ⟨?_, by omega⟩) hNS (Heap.get?_update_self _ hS4 rfl) (fun j v hv => ?_) hlen (by rw [List.length_append]; omega) ?_ ?_ hNI ?_
    · rcases List.mem_cons.mp hb with e | e
      · exact hS1 (z.symm.trans e)
      · exact hS2 (z.symm.trans (List.mem_singleton.mp e))
    · have e1 : (h'.push { cls := .type "list", data := .seq (acc.toArray ++ zs.toArray) }).get? N = some { cls := .type "list", data := .seq (acc.toArray ++ zs.toArray) } := by rw [← hN]; exact Heap.get?_push_size _ rfl
      show Heap.get? _ N = _
      rw [Heap.get?_update_other _ _ (Ne.symm hNS), Heap.get?_update_other _ _ (Ne.symm hNS), e1]
      simp
    · exact Nat.le_of_lt (Nat.lt_of_le_of_lt hn0 hSN)
    · obtain ⟨b, zs, n, e1, e2, e3, e4, e5⟩ := hit j v hv
      exact ⟨b, zs, n, e1, e2, oth e5 (keepI e4 e3), e4, e5⟩
    · obtain ⟨o, ho, _⟩ := hst'.1
      exact Heap.lt_size (oth hS1.symm ho)
    · exact Heap.lt_size (Heap.get?_update_self _ hS4 rfl)
    · intro h2 tk2 p m2 kp il hp
      rw [List.append_assoc] at il
      refine fin h2 tk2 p m2 (fun b o h1 h3 e => kp b o h1 h3 (oth h3 (keepI h1 e))) ?_ hp
      rw [dr, List.flatten_cons]
      exact il
end
section
variable {Pg : Program} {w : World} {A : Around} {E : Value → Shared → Prop} {l q : Addr} {its : List Value} {bs : List (List Value)} {Q : Value → Shared → Prop} {s : Shared}
theorem args_suml (a b : Value) : argsOk "sum" ⟨[a, b], []⟩ := by unfold argsOk; kernel_rfl
theorem suml_raw (hh : A.in1.handled = none) (hl : s.heap.IsList l its.toArray) {m : Nat} (hq : PySem.IsL s.heap q ([] : List Value).toArray m) (hit : ∀ (j : Nat) (v : Value), its[j]? = some v → ∃ (b : Addr) (zs : List Value) (n : Nat), v = .ref b ∧ bs[j]? = some zs ∧ PySem.IsL s.heap b zs.toArray n)
    (hlen : bs.length = its.length) (hsz : bs.flatten.length ≤ sizeLine)
    (h : ∀ h' tk p m', (∀ b o, s.heap.get? b = some o → h'.get? b = some o) → PySem.IsL h' p bs.flatten.toArray m' → (p = q ∧ its = []) ∨ (s.heap.objs.size ≤ p ∧ its ≠ []) → Q (.ref p) { s with heap := h', toks := tk }) :
    wpAny (model Pg w) A (call (.builtin "sum") [.ref l, .ref q]) Q E s := by
  refine call_function_tree PySem.F.kind_sum PySem.F.plain_sum PySem.F.entry_sum (args_suml _ _) ?_
  unfold Builtin.«sum»
  simp only [List.length_cons, List.length_nil]
  rw [if_neg (by decide)]
  refine wpAny_bind (wpAny_of_eq (show Builtin.Builtins.bindParams "sum" ["start"] 0 ⟨[.ref q], []⟩ = pure [some (.ref q)] from rfl) ?_)
  refine wpAny_bind (wpAny_pyIter_list hl ?_)
  generalize hI : s.heap.objs.size = it
  have hit0 : ∀ {b : Addr} {o : Obj}, s.heap.get? b = some o → b < it := fun e => hI ▸ Heap.lt_size e
  refine wpAny_bind (wpAny_pure ?_)
  simp only [List.forIn_cons, List.forIn_nil]
  have ty : ∀ sh : Shared, (∀ b o, s.heap.get? b = some o → sh.heap.get? b = some o) → sh.TypeIs (.ref q) "list" := fun sh k => ⟨_, k _ _ hq, rfl⟩
  have kp1 : ∀ b o, s.heap.get? b = some o → (s.heap.push { cls := .type "list_iterator", data := .fields #[.ref l, .int 0 0] }).get? b = some o := fun b o e => Heap.get?_push_of_some _ e
  refine wpAny_bind (wpAny_bind (wpAny_bind (wpAny_isInstance (b := false) (ty _ kp1) PySem.F.sub_list_str ?_)))
  simp only [Bool.false_eq_true, if_false]
  refine wpAny_pure (wpAny_bind (wpAny_bind (wpAny_isInstance (b := false) (ty _ kp1) PySem.F.sub_list_bytes ?_)))
  simp only [Bool.false_eq_true, if_false]
  refine wpAny_pure (wpAny_bind (wpAny_bind (wpAny_isInstance (b := false) (ty _ kp1) PySem.F.sub_list_bytearray ?_)))
  simp only [Bool.false_eq_true, if_false]
  refine wpAny_pure (wpAny_pure ?_)
  refine wpAny_bind (wpAny_newObj_type ?_)
  have k2 : ∀ b o, s.heap.get? b = some o → ((s.heap.push { cls := .type "list_iterator", data := .fields #[.ref l, .int 0 0] }).push { cls := .type "list", data := .seq #[.ref q] }).get? b = some o := fun b o e => Heap.get?_push_of_some _ (kp1 b o e)
  have e1 : (s.heap.push { cls := .type "list_iterator", data := .fields #[.ref l, .int 0 0] }).get? it = some { cls := .type "list_iterator", data := .fields #[.ref l, .int 0 0] } := by rw [← hI]; exact Heap.get?_push_size _ rfl
  have e2 : (s.heap.push { cls := .type "list_iterator", data := .fields #[.ref l, .int 0 0] }).objs.size = it + 1 := by rw [Heap.size_push, hI]
  obtain ⟨ol, hol, hl2⟩ := hl
  have hli := hit0 hol
  have hqi := hit0 hq
  refine wpAny_pure ⟨plainId_quiet PySem.F.plain_sum_loop _, suml_loop (n0 := s.heap.objs.size) (q := q) (bs := bs) (its := its) (l := l) hh (Nat.ne_of_lt hli) (by rw [e2]; exact Nat.ne_of_gt (Nat.lt_succ_self _)) (by rw [e2]; exact Nat.ne_of_gt (Nat.lt_succ_of_lt hli)) its.length 0 _ q [] m 0 rfl (Nat.zero_le _) ⟨⟨_, Heap.get?_push_of_some _ e1, rfl, rfl⟩, ⟨ol, k2 _ _ hol, hl2⟩⟩ ?_ (k2 _ _ hq) (.inl ⟨rfl, rfl⟩) (by rw [e2]; exact Nat.ne_of_lt (Nat.lt_succ_of_lt hqi)) (Heap.get?_push_size _ rfl)
    (fun j v hv => ?_) hlen (by simpa using hsz) ?_ ?_ (Nat.ne_of_lt hqi) fun h' tk p m' kp il hp => ?_⟩
  · rw [e2, hI]; exact Nat.le_succ _
  · obtain ⟨b, zs, n, g1, g2, g3⟩ := hit j v hv
    have hb := hit0 g3
    exact ⟨b, zs, n, g1, g2, k2 _ _ g3, Nat.ne_of_lt hb, by rw [e2]; exact Nat.ne_of_lt (Nat.lt_succ_of_lt hb)⟩
  · exact Heap.lt_size (Heap.get?_push_of_some _ e1)
  · exact Heap.lt_size (Heap.get?_push_size _ rfl)
  · refine h h' tk p m' (fun b o e => ?_) (by simpa using il) hp
    have hb := hit0 e
    exact kp b o (Nat.ne_of_lt hb) (by rw [e2]; exact Nat.ne_of_lt (Nat.lt_succ_of_lt hb)) (k2 _ _ e)
end
end IX
namespace IX
open PySem PySem.Spec PyProof.Rows L2 Evl
section
variable {K : PySem.W.Frag} {X : Cx} {Z Z0 Z' H H0 : Hp} {C : List Addr} {x y v : V} {vs : List V} {d : D} {ds : List D} {l : Nat} {S S1 S2 : List Addr} {st : Sto} {Q : VK}
theorem flat_vals {pins : List (Addr × Obj)} {σ : L2.St} {s : Shared} (I : Inv X pins σ H s) (ex : Ex Z H) : ∀ {xs : List D} {ws : List V} {its : List Value} {ds : List D}, IsL X.K Z C ws xs → Vals ws its → flats? xs = some ds →
    ∃ (bs : List (List Value)) (us : List V), (∀ (j : Nat) (v : Value), its[j]? = some v → ∃ (b : Addr) (zs : List Value) (n : Nat), v = .ref b ∧ bs[j]? = some zs ∧ PySem.IsL s.heap b zs.toArray n) ∧ bs.length = its.length ∧ Vals us bs.flatten ∧ IsL X.K Z C us ds
  | [], _, _, ds, .nil, r, h => by
    cases r
    cases h
    exact ⟨[], [], fun j v h => by simp at h, rfl, .nil, .nil⟩
  | .lst ys :: xs, _, _, ds, .cons i t, r, h => by
    simp only [flats?] at h
    obtain ⟨es, he, rfl⟩ := Option.map_eq_some_iff.mp h
    cases r with
    | cons r rr =>
      obtain ⟨bs, us, h1, h2, h3, h4⟩ := flat_vals I ex t rr he
      obtain ⟨a, ws, rfl, g1, g2, g3⟩ := is_lst i
      cases r
      obtain ⟨hz, its2, n, r2, _, e2⟩ := I.lstM (ex _ _ g1)
      refine ⟨its2 :: bs, ws ++ us, fun j v hv => ?_, by simp [h2], by rw [List.flatten_cons]; exact r2.append h3, g3.append h4⟩
      cases j with
      | zero => cases hv; exact ⟨a, its2, n, rfl, rfl, e2⟩
      | succ j => exact h1 j v (by simpa using hv)
  | .non :: _, _, _, _, _, _, h => by cases h
  | .bl _ :: _, _, _, _, _, _, h => by cases h
  | .int _ :: _, _, _, _, _, _, h => by cases h
  | .str _ :: _, _, _, _, _, _, h => by cases h
  | .tup _ :: _, _, _, _, _, _, h => by cases h
  | .cell _ :: _, _, _, _, _, _, h => by cases h
  | .fn _ :: _, _, _, _, _, _, h => by cases h
  | .clo _ _ :: _, _, _, _, _, _, h => by cases h
  | .exc _ _ :: _, _, _, _, _, _, h => by cases h
  | .scr _ :: _, _, _, _, _, _, h => by cases h
theorem bi_sumf (hc : X.calm = true) : CallR X (.builtin "sum") (rArg X.K fun _ => sumfD) := by
  intro pins s σ H xs us Q I r ⟨Z0, C, H0, Z, st, as, S, m, o, h⟩
  dsimp only at h
  unfold sumfD at h
  split at h
  · rename_i xs l
    cases hx : flats? xs with
    | none => rw [hx] at h; exact h.elim
    | some ds =>
      rw [hx] at h
      simp only [Option.bind_some] at h
      split at h
      · rename_i hsz
        obtain ⟨v, w, S1, S2, rfl, rfl, ha, hb⟩ := o.pair
        obtain ⟨mf, ef⟩ := m.froz
        have i1 := m.frozen ha fun a h => List.mem_append_left _ h
        obtain ⟨a, ws, rfl, g1, g2, g3⟩ := is_lst i1
        obtain ⟨u1, u2, rfl, r1, r2⟩ := vals2 r
        cases r1
        obtain ⟨hz1, its, n1, rv, hlen, e1⟩ := I.lstM (mf.re.ex _ _ g1)
        obtain ⟨bs, us, f1, f2, f3, f4⟩ := flat_vals I mf.re.ex g3 rv hx
        obtain ⟨q, vq, Sq, rfl, q1, q2, q3, _, _⟩ := ow_lst hb m.re.ex
        obtain rfl : vq = [] := List.length_eq_zero_iff.mp q3
        cases r2
        obtain ⟨_, itq, nq, rvq, _, eq⟩ := I.lstM q1
        cases rvq
        have hm : most = 100000 := rfl
        have lf : bs.flatten.length = ds.length := by rw [← f3.length, f4.length]
        have big : ds.length ≤ sizeLine := Nat.le_trans hsz (by decide)
        refine suml_raw (I.ok.hd hc) ⟨_, e1, rfl, _, rfl⟩ eq f1 f2 (by rw [lf]; exact big) fun h' tk p m' kp il hp => ?_
        rcases hp with ⟨rfl, hi⟩ | ⟨hp, hi⟩
        · subst hi
          cases rv
          cases g3
          cases hx
          refine ⟨.ref p, H, I.kept kp, rfl, ?_⟩
          exact h _ _ _ _ (m.sub (List.nodup_append.mp m.nd).2.1 fun a h => List.mem_append_right _ h) hb
        · have hpn : H p = none := I.hok.fresh hp
          have fl : ∀ x ∈ ds.map fun d => (d, 0), lvOk x ∨ D.flatL ds = false := fun x hx => by
            by_cases f : D.flatL ds = true
            · obtain ⟨d, hd, rfl⟩ := List.mem_map.mp hx
              exact .inl (.inr (flatL_mem f hd))
            · exact .inr (by simpa using f)
          obtain ⟨Z2, S3, m3, o3⟩ := new_lst (L := if D.flatL ds then 2 else 1) mf f4.toV (List.Sublist.refl _) (by rw [f4.length]; exact big) hpn (by
            by_cases f : D.flatL ds = true
            · refine .inr ⟨by simp [f], fun x hx => ?_⟩
              obtain ⟨d, hd, rfl⟩ := List.mem_map.mp hx
              exact .inr (flatL_mem f hd)
            · exact .inl (by simp [f]))
          rw [List.map_map] at o3
          have e : ((fun x : DL => x.1) ∘ fun d : D => (d, 0)) = id := rfl
          rw [e, List.map_id] at o3
          refine ⟨.ref p, upd H p (.lst us), I.laid kp hp ⟨by rw [f4.length]; exact big, _, _, f3, il⟩, rfl, ?_⟩
          exact h _ _ _ _ m3 o3
      · exact h.elim
  · exact h.elim
end
end IX
/-! IXg: what each construct's reading asks, from the interpreter's word. Own work. -/
namespace IX
open PySem PySem.Spec PyProof.Rows L2 Evl

section
variable {K : PySem.W.Frag} {call : Nat → List D → Sto → R DL} {Z Z0 Z' Z1 Z2 H H0 H' H1 H2 : Hp} {C : List Addr} {v w : V} {vs : List V} {d : D} {ds : List D} {l : Nat} {S S1 S2 : List Addr} {st st1 st2 : Sto} {σ : L2.St} {ρ : Env} {Q : VK} {a b c e : E} {es : Es}

/-- an outcome that is wanted is a value -/
structure Out {β : Type} (W : R β → Prop) : Prop where
  no : ¬ W .no
  ex : ∀ c x s, ¬ W (.ex c x s)
theorem out_wr : Out fun r => Wr K r Z C H Q := ⟨fun h => h, fun _ _ _ h => h⟩
theorem out_wrL {Q : List V → Hp → Prop} : Out fun r => WrL K r Z C H Q := ⟨fun h => h, fun _ _ _ h => h⟩
theorem out_wrB {Q : Bool → Hp → Prop} : Out fun r => WrB K r Z C H Q := ⟨fun h => h, fun _ _ _ h => h⟩
theorem wr_bind {β : Type} {W : R β → Prop} (o : Out W) {r : R DL} {f : DL → Sto → R β} (h : W (r.bind f)) (k : ∀ x st1, W (f x st1) → ∀ v Z' H' S, Md K Z C H Z' H' st1 S → Ow K Z' C H' x.2 S v x.1 → Q v H') : Wr K r Z C H Q := by
  cases r with
  | ok x s => exact fun v Z' H' S m ow => k x s h v Z' H' S m ow
  | ex c x s => exact o.ex _ _ _ h
  | no => exact o.no h
theorem wrL_bind {β : Type} {W : R β → Prop} (o : Out W) {r : R (List DL)} {f : List DL → Sto → R β} {Q : List V → Hp → Prop} (h : W (r.bind f)) (k : ∀ x st1, W (f x st1) → ∀ v Z' H' S, Md K Z C H Z' H' st1 S → OwV K Z' C H' S v x → Q v H') : WrL K r Z C H Q := by
  cases r with
  | ok x s => exact fun v Z' H' S m ow => k x s h v Z' H' S m ow
  | ex c x s => exact o.ex _ _ _ h
  | no => exact o.no h
theorem wrB_bind {β : Type} {W : R β → Prop} (o : Out W) {r : R DL} {f : Bool → Sto → R β} {Q : Bool → Hp → Prop} (h : W ((r.bind fun x s => .of (bool? x) s).bind f)) (k : ∀ x st1, W (f x st1) → ∀ Z' H', Md K Z C H Z' H' st1 [] → Q x H') : WrB K (r.bind fun x s => .of (bool? x) s) Z C H Q := by
  cases r with
  | ok x s =>
    cases e : bool? x with
    | none =>
      simp only [bind_ok, e, of_none, bind_no] at h
      exact (o.no h).elim
    | some b =>
      simp only [bind_ok, e, of_some] at h ⊢
      exact fun Z' H' m => k b s h Z' H' m
  | ex c x s => exact o.ex _ _ _ h
  | no => exact o.no h
theorem bool_is {x : DL} {b : Bool} (h : bool? x = some b) : x.1 = .bl b := by
  obtain ⟨d, l⟩ := x
  cases d <;> first | (cases h; rfl) | cases h
/-- a value that is a bool, as a test -/
theorem rdb_rd {Q : Bool → Hp → Prop} (h : rdb K call e σ H Q) : rd K call e σ H fun x H' => ∃ k, x = .bl k ∧ Q k H' := by
  obtain ⟨Z, C, ρ, st, re, er, h⟩ := h
  refine ⟨Z, C, ρ, st, re, er, wr_bind out_wrB h fun x st1 h v Z1 H1 S1 m o => ?_⟩
  cases e : bool? x with
  | none => rw [e] at h; exact h.elim
  | some b =>
    rw [e] at h
    rw [bool_is e] at o
    obtain ⟨rfl, rfl⟩ := ow_bl o
    exact ⟨b, rfl, h _ _ m⟩
theorem s_var {i : Nat} (h : rd K call (.var i) σ H Q) : tVar i σ H Q := by
  obtain ⟨Z, C, ρ, st, re, er, h⟩ := h
  simp only [evalE] at h
  split at h
  · rename_i d hd
    obtain ⟨v, h1, h2⟩ := er.get i d hd
    exact ⟨v, h1, h v Z H [] (Md.refl re) (lvl_ow (.fro h2))⟩
  · exact h.elim
def vOf : D → V
  | .bl b => .bl b | .int i => .int i | .str s => .str s | _ => .non
theorem s_con (hd : d.scal = true) (h : rd K call (.con d) σ H Q) : tC (vOf d) σ H Q := by
  obtain ⟨Z, C, ρ, st, re, er, h⟩ := h
  simp only [evalE] at h
  refine h _ Z H [] (Md.refl re) (lvl_ow (.fro ?_))
  cases d <;> first | exact .non | exact .bl _ | exact .int _ | exact .str _ | cases hd
theorem s_glo {x : Str} {v : V} (hd : ∀ Z C, Is K Z C v d) (h : rd K call (.glo x d) σ H Q) : tC v σ H Q := by
  obtain ⟨Z, C, ρ, st, re, er, h⟩ := h
  simp only [evalE] at h
  exact h _ Z H [] (Md.refl re) (lvl_ow (.fro (hd Z C)))
theorem all_two {xs : List DL} (h : xs.all (fun x => x.2 == 2) = true) : ∀ x ∈ xs, lvOk x := fun x hx => .inl (by simpa using List.all_eq_true.mp h x hx)
def Es.len : Es → Nat
  | .nil => 0
  | .cons _ es => es.len + 1
theorem evalEs_len : ∀ {es : Es} {ρ : Env} {st st1 : Sto} {xs : List DL}, evalEs call es ρ st = .ok xs st1 → xs.length = es.len
  | .nil, _, _, _, _, h => by simp only [evalEs] at h; cases h; rfl
  | .cons e es, ρ, st, st1, xs, h => by
    simp only [evalEs] at h
    cases h1 : evalE call e ρ st with
    | ok x s =>
      rw [h1] at h
      simp only [bind_ok] at h
      cases h2 : evalEs call es ρ s with
      | ok ys s2 =>
        rw [h2] at h
        cases h
        simp only [List.length_cons, Es.len, evalEs_len h2]
      | ex _ _ _ => rw [h2] at h; cases h
      | no => rw [h2] at h; cases h
    | ex _ _ _ => rw [h1] at h; cases h
    | no => rw [h1] at h; cases h
theorem s_lst (hl : es.len ≤ most) (h : rd K call (.lst es) σ H Q) : tLst (rds K call es) σ H Q := by
  obtain ⟨Z, C, ρ, st, re, er, h⟩ := h
  simp only [evalE] at h
  refine ⟨Z, C, ρ, st, re, er, ?_⟩
  cases hr : evalEs call es ρ st with
  | ok xs s =>
    rw [hr] at h
    intro vs Z' H' S m o
    have hz : vs.length ≤ sizeLine := by rw [o.length, evalEs_len hr]; exact le_line hl
    refine ⟨hz, fun p hp => ?_⟩
    obtain ⟨Z2, S2, m2, o2⟩ := new_lst (L := if xs.all (fun x => x.2 == 2) = true then 2 else 1) m o (List.Sublist.refl _) hz hp (by
      split
      · rename_i hx
        exact .inr ⟨rfl, all_two hx⟩
      · exact .inl rfl)
    exact h _ _ _ _ m2 o2
  | ex _ _ _ => rw [hr] at h; exact h.elim
  | no => rw [hr] at h; exact h.elim
theorem s_tup (hl : es.len ≤ most) (h : rd K call (.tup es) σ H Q) : tTup (rds K call es) σ H Q := by
  obtain ⟨Z, C, ρ, st, re, er, h⟩ := h
  simp only [evalE] at h
  refine ⟨Z, C, ρ, st, re, er, ?_⟩
  cases hr : evalEs call es ρ st with
  | ok xs s =>
    rw [hr] at h
    intro vs Z' H' S m o
    have hz : vs.length ≤ sizeLine := by rw [o.length, evalEs_len hr]; exact le_line hl
    refine ⟨hz, fun p hp => ?_⟩
    obtain ⟨Z2, S2, m2, o2⟩ := new_tup (L := if xs.all (fun x => x.2 == 2) = true then 2 else 0) m o hz hp (by
      split
      · rename_i hx
        exact .inr ⟨rfl, all_two hx⟩
      · exact .inl rfl)
    exact h _ _ _ _ m2 (lvl_ow o2)
  | ex _ _ _ => rw [hr] at h; exact h.elim
  | no => rw [hr] at h; exact h.elim
theorem s_emp (h : rd K call .emp σ H Q) : tDNewK σ H Q := by
  obtain ⟨Z, C, ρ, st, re, er, h⟩ := h
  simp only [evalE] at h
  intro p hp
  obtain ⟨m, _⟩ := (Md.refl re).fix (o := .dK []) hp
  exact h _ _ _ _ m (.flt (.emp upd_same) rfl)
theorem s_nil {Q : List V → Hp → Prop} (h : rds K call .nil σ H Q) : tNil σ H Q := by
  obtain ⟨Z, C, ρ, st, re, er, h⟩ := h
  simp only [evalEs] at h
  exact h [] Z H [] (Md.refl re) .nil
theorem s_cons {Q : List V → Hp → Prop} (h : rds K call (.cons e es) σ H Q) : tCons (rd K call e) (rds K call es) σ H Q := by
  obtain ⟨Z, C, ρ, st, re, er, h⟩ := h
  simp only [evalEs] at h
  refine ⟨Z, C, ρ, st, re, er, wr_bind out_wrL h fun x st1 h v Z1 H1 S1 m1 o1 => ?_⟩
  refine ⟨Z1, C, ρ, st1, m1.re, er.to m1.p.z, wrL_bind out_wrL h fun y st2 h w Z2 H2 S2 m2 o2 => ?_⟩
  exact h _ _ _ _ (m1.seq m2) (.cons (m1.keep m2 o1 fun a h => h) o2)
theorem s_neg (h : rd K call (.neg a) σ H Q) : tUn (rU fun i => .int (-i)) (rd K call a) σ H Q := by
  obtain ⟨Z, C, ρ, st, re, er, h⟩ := h
  simp only [evalE] at h
  refine ⟨Z, C, ρ, st, re, er, wr_bind out_wr h fun x st1 h v Z1 H1 S1 m1 o1 => ?_⟩
  obtain ⟨d, l⟩ := x
  cases d <;> first | exact h.elim | skip
  obtain ⟨rfl, rfl⟩ := ow_int o1
  exact ⟨_, rfl, wr_int m1 h⟩
theorem s_notV (h : rd K call (.not a) σ H Q) : tNotV (rd K call a) σ H Q := by
  obtain ⟨Z, C, ρ, st, re, er, h⟩ := h
  simp only [evalE] at h
  refine ⟨Z, C, ρ, st, re, er, wr_bind out_wr h fun x st1 h v Z1 H1 S1 m1 o1 => ?_⟩
  cases e : bool? x with
  | none => rw [e] at h; exact h.elim
  | some b =>
    rw [e] at h
    rw [bool_is e] at o1
    obtain ⟨rfl, rfl⟩ := ow_bl o1
    exact ⟨b, rfl, wr_bl m1 h⟩
theorem s_bin {o : Bo} (h : rd K call (.bin o a b) σ H Q) : tOp (rBo K o) (rd K call a) (rd K call b) σ H Q := by
  obtain ⟨Z, C, ρ, st, re, er, h⟩ := h
  simp only [evalE] at h
  refine ⟨Z, C, ρ, st, re, er, wr_bind out_wr h fun x st1 h v Z1 H1 S1 m1 o1 => ?_⟩
  refine ⟨Z1, C, ρ, st1, m1.re, er.to m1.p.z, wr_bind out_wr h fun y st2 h w Z2 H2 S2 m2 o2 => ?_⟩
  exact ⟨Z, C, H, Z2, st2, x, y, S1, S2, m1.seq m2, m1.keep m2 o1 (fun a h => h), o2, h⟩
theorem s_cmp {o : Co} (h : rd K call (.cmp o a b) σ H Q) : tOp (rCo K o) (rd K call a) (rd K call b) σ H Q := by
  obtain ⟨Z, C, ρ, st, re, er, h⟩ := h
  simp only [evalE] at h
  refine ⟨Z, C, ρ, st, re, er, wr_bind out_wr h fun x st1 h v Z1 H1 S1 m1 o1 => ?_⟩
  refine ⟨Z1, C, ρ, st1, m1.re, er.to m1.p.z, wr_bind out_wr h fun y st2 h w Z2 H2 S2 m2 o2 => ?_⟩
  exact ⟨Z, C, H, Z2, st2, x, y, S1, S2, m1.seq m2, m1.keep m2 o1 (fun a h => h), o2, h⟩
theorem s_ix (h : rd K call (.ix a b) σ H Q) : tOp (rTwo K fun A B st => .of (ixD st A B.1) st) (rd K call a) (rd K call b) σ H Q := by
  obtain ⟨Z, C, ρ, st, re, er, h⟩ := h
  simp only [evalE] at h
  refine ⟨Z, C, ρ, st, re, er, wr_bind out_wr h fun x st1 h v Z1 H1 S1 m1 o1 => ?_⟩
  refine ⟨Z1, C, ρ, st1, m1.re, er.to m1.p.z, wr_bind out_wr h fun y st2 h w Z2 H2 S2 m2 o2 => ?_⟩
  exact ⟨Z, C, H, Z2, st2, x, y, S1, S2, m1.seq m2, m1.keep m2 o1 (fun a h => h), o2, h⟩
/-- a chain: the middle value stays known -/
theorem s_cmp2 {o p : Co} (h : rd K call (.cmp2 o p a b c) σ H Q) : tChain (rCo K o) (rCo K p) (rd K call a) (rd K call b) (rd K call c) σ H Q := by
  obtain ⟨Z, C, ρ, st, re, er, h⟩ := h
  simp only [evalE] at h
  refine ⟨Z, C, ρ, st, re, er, wr_bind out_wr h fun x st1 h v Z1 H1 S1 m1 o1 => ?_⟩
  refine ⟨Z1, C, ρ, st1, m1.re, er.to m1.p.z, wr_bind out_wr h fun y st2 h w Z2 H2 S2 m2 o2 => ?_⟩
  have m := m1.seq m2
  have o1' := m1.keep m2 o1 (fun a h => h)
  obtain ⟨mf, ef⟩ := m.froz
  have i1 := m.frozen o1' fun a h => List.mem_append_left _ h
  have i2 := m.frozen o2 fun a h => List.mem_append_right _ h
  refine ⟨_, C, H2, _, st2, (x.1, 0), (y.1, 0), [], [], Md.refl mf.re, .fro i1, .fro i2, ?_⟩
  show Wr K (.of ((cmpD o x.1 y.1).map fun c => (.bl c, 2)) st2) _ C H2 _
  cases hc : cmpD o x.1 y.1 with
  | none => rw [hc] at h; exact h.elim
  | some k =>
    rw [hc] at h
    intro r Z3 H3 S3 m3 o3
    obtain ⟨rfl, rfl⟩ := ow_bl o3
    refine ⟨k, rfl, ?_⟩
    have m4 := mf.seq m3
    cases k with
    | false => exact h _ _ _ _ m4.drop (.of_bl false)
    | true =>
      refine ⟨Z3, C, ρ, st2, m3.re, er.to m4.p.z, wr_bind out_wr h fun z st4 h u Z4 H4 S4 m5 o5 => ?_⟩
      exact ⟨Z, C, H, Z4, st4, (y.1, 0), z, [], S4, (m4.drop.seq m5), .fro ((i2.to m3.p.z).to m5.p.z), o5, h⟩
theorem s_andV (h : rd K call (.and a b) σ H Q) : tAndV (rd K call a) (rd K call b) σ H Q := by
  obtain ⟨Z, C, ρ, st, re, er, h⟩ := h
  simp only [evalE] at h
  refine ⟨Z, C, ρ, st, re, er, wr_bind out_wr h fun x st1 h v Z1 H1 S1 m1 o1 => ?_⟩
  cases e : bool? x with
  | none => rw [e] at h; exact h.elim
  | some k =>
    rw [e] at h
    rw [bool_is e] at o1
    obtain ⟨rfl, rfl⟩ := ow_bl o1
    refine ⟨k, rfl, ?_⟩
    cases k with
    | false => exact wr_bl m1 h
    | true =>
      refine ⟨Z1, C, ρ, st1, m1.re, er.to m1.p.z, ?_⟩
      have h' : Wr K (evalE call b ρ st1) Z C H Q := h
      cases hr : evalE call b ρ st1 with
      | ok y s => rw [hr] at h'; exact fun v Z' H' S m o => h' v Z' H' S (m1.seq m) o
      | ex _ _ _ => rw [hr] at h'; exact h'
      | no => rw [hr] at h'; exact h'
theorem wr_seq {r : R DL} (m : Md K Z0 C H0 Z H st []) (h : Wr K r Z0 C H0 Q) : Wr K r Z C H Q := by
  cases r with
  | ok y s => exact fun v Z' H' S m2 o => h v Z' H' S (m.seq m2) o
  | ex _ _ _ => exact h
  | no => exact h
theorem s_orV (h : rd K call (.or a b) σ H Q) : tOrV (rd K call a) (rd K call b) σ H Q := by
  obtain ⟨Z, C, ρ, st, re, er, h⟩ := h
  simp only [evalE] at h
  refine ⟨Z, C, ρ, st, re, er, wr_bind out_wr h fun x st1 h v Z1 H1 S1 m1 o1 => ?_⟩
  cases e : bool? x with
  | none => rw [e] at h; exact h.elim
  | some k =>
    rw [e] at h
    rw [bool_is e] at o1
    obtain ⟨rfl, rfl⟩ := ow_bl o1
    refine ⟨k, rfl, ?_⟩
    cases k with
    | true => exact wr_bl m1 h
    | false => exact ⟨Z1, C, ρ, st1, m1.re, er.to m1.p.z, wr_seq m1 h⟩
theorem wrB_seq {r : R DL} {Q : Bool → Hp → Prop} (m : Md K Z0 C H0 Z H st []) (h : WrB K (r.bind fun x s => .of (bool? x) s) Z0 C H0 Q) : WrB K (r.bind fun x s => .of (bool? x) s) Z C H Q := by
  cases r with
  | ok y s =>
    cases e : bool? y with
    | none => simp only [bind_ok, e, of_none] at h; exact h.elim
    | some b =>
      simp only [bind_ok, e, of_some] at h ⊢
      exact fun Z' H' m2 => h Z' H' (m.seq m2)
  | ex _ _ _ => exact h
  | no => exact h
/-- the same as tests -/
theorem b_not {Q : Bool → Hp → Prop} (h : rdb K call (.not a) σ H Q) : tNot (rdb K call a) σ H Q := by
  obtain ⟨Z, C, ρ, st, re, er, h⟩ := h
  simp only [evalE] at h
  refine ⟨Z, C, ρ, st, re, er, ?_⟩
  cases hr : evalE call a ρ st with
  | ok y s =>
    simp only [hr, bind_ok] at h ⊢
    cases e : bool? y with
    | none => simp only [e] at h; exact h.elim
    | some b => simp only [e] at h; exact h
  | ex _ _ _ => simp only [hr, bind_ex] at h; exact h.elim
  | no => simp only [hr, bind_no] at h; exact h.elim
theorem b_and {Q : Bool → Hp → Prop} (h : rdb K call (.and a b) σ H Q) : tAnd (rdb K call a) (rdb K call b) σ H Q := by
  obtain ⟨Z, C, ρ, st, re, er, h⟩ := h
  simp only [evalE] at h
  refine ⟨Z, C, ρ, st, re, er, ?_⟩
  cases hr : evalE call a ρ st with
  | ok y s =>
    simp only [hr, bind_ok] at h ⊢
    cases e : bool? y with
    | none => simp only [e] at h; exact h.elim
    | some b =>
      simp only [e, of_some] at h ⊢
      intro Z1 H1 m1
      cases b with
      | false => exact h _ _ m1
      | true => exact ⟨Z1, C, ρ, s, m1.re, er.to m1.p.z, wrB_seq m1 h⟩
  | ex _ _ _ => simp only [hr, bind_ex] at h; exact h.elim
  | no => simp only [hr, bind_no] at h; exact h.elim
theorem b_or {Q : Bool → Hp → Prop} (h : rdb K call (.or a b) σ H Q) : tOr (rdb K call a) (rdb K call b) σ H Q := by
  obtain ⟨Z, C, ρ, st, re, er, h⟩ := h
  simp only [evalE] at h
  refine ⟨Z, C, ρ, st, re, er, ?_⟩
  cases hr : evalE call a ρ st with
  | ok y s =>
    simp only [hr, bind_ok] at h ⊢
    cases e : bool? y with
    | none => simp only [e] at h; exact h.elim
    | some b =>
      simp only [e, of_some] at h ⊢
      intro Z1 H1 m1
      cases b with
      | true => exact h _ _ m1
      | false => exact ⟨Z1, C, ρ, s, m1.re, er.to m1.p.z, wrB_seq m1 h⟩
  | ex _ _ _ => simp only [hr, bind_ex] at h; exact h.elim
  | no => simp only [hr, bind_no] at h; exact h.elim
theorem s_ife (h : rd K call (.ife c a b) σ H Q) : tIf (rdb K call c) (rd K call a) (rd K call b) σ H Q := by
  obtain ⟨Z, C, ρ, st, re, er, h⟩ := h
  simp only [evalE] at h
  refine ⟨Z, C, ρ, st, re, er, ?_⟩
  cases hr : evalE call c ρ st with
  | ok y s =>
    simp only [hr, bind_ok] at h ⊢
    cases e : bool? y with
    | none => simp only [e] at h; exact h.elim
    | some b =>
      simp only [e, of_some] at h ⊢
      intro Z1 H1 m1
      cases b with
      | true => exact ⟨Z1, C, ρ, s, m1.re, er.to m1.p.z, wr_seq m1 h⟩
      | false => exact ⟨Z1, C, ρ, s, m1.re, er.to m1.p.z, wr_seq m1 h⟩
  | ex _ _ _ => simp only [hr, bind_ex] at h; exact h.elim
  | no => simp only [hr, bind_no] at h; exact h.elim
theorem s_rev (h : rd K call (.rev a) σ H Q) : tRevL K (rd K call a) σ H Q := by
  obtain ⟨Z, C, ρ, st, re, er, h⟩ := h
  simp only [evalE] at h
  refine ⟨Z, C, ρ, st, re, er, wr_bind out_wr h fun x st1 h v Z1 H1 S1 m1 o1 => ?_⟩
  obtain ⟨d, l⟩ := x
  cases d <;> first | exact h.elim | skip
  rename_i xs
  obtain ⟨p, vs, S', rfl, hp, z, n, ov, sb⟩ := ow_lst o1 m1.re.ex
  refine ⟨p, vs, rfl, sq_of hp, fun r hr => ?_⟩
  have rv : ∀ {S : List Addr} {vs : List V} {xs : List DL}, OwV K Z1 C H1 S vs xs → ∃ S2, OwV K Z1 C H1 S2 vs.reverse xs.reverse ∧ List.Perm S2 S := by
    intro S vs xs o
    induction o with
    | nil => exact ⟨[], .nil, .refl _⟩
    | cons r t ih =>
      obtain ⟨S2, h1, h2⟩ := ih
      simp only [List.reverse_cons]
      refine ⟨_, h1.append (.cons r .nil), ?_⟩
      rw [List.append_nil]
      exact List.perm_append_comm.trans (h2.append_left _)
  obtain ⟨S2, ov2, pm⟩ := rv ov
  have m2 := m1.sub (S1 := S2) (pm.nodup_iff.mpr (m1.nd.sublist sb)) fun a h => sb.subset (pm.mem_iff.mp h)
  obtain ⟨Z', S3, m', o'⟩ := new_lst (L := lvItems l xs) m2 ov2 (List.Sublist.refl _) (by rw [List.length_reverse]; exact z) hr (lvItems_ok (fun _ => True) fun y hy => List.mem_reverse.mp hy)
  rw [List.map_reverse, itemsDL_fst] at o'
  exact h _ _ _ _ m' o'
theorem s_isi {ts : List Ty} (h : rd K call (.isi a ts) σ H Q) (hts : ts ≠ []) : rd K call a σ H fun x H1 => ∃ t b, TyX K H1 x (.type t) ∧ PySem.W.kitAny K (.type t) (ts.map fun t => .type t.n) = some b ∧ (∀ tp, H1 tp = none → Q (.bl b) (upd H1 tp (.tup (ts.map fun t => V.ty t.n)))) ∧ Q (.bl b) H1 := by
  obtain ⟨Z, C, ρ, st, re, er, h⟩ := h
  simp only [evalE] at h
  refine ⟨Z, C, ρ, st, re, er, wr_bind out_wr h fun x st1 h v Z1 H1 S1 m1 o1 => ?_⟩
  obtain ⟨b, hb, h⟩ := map_bl (o := isAnyD x.1 ts) h
  rcases isAny_kit hb with ⟨rfl, _⟩ | ⟨t, ht, hk⟩
  · exact absurd rfl hts
  · refine ⟨t, b, ow_ty m1 o1 ht, hk, fun tp hp => ?_, wr_bl m1 h⟩
    -- a tuple of types is laid beside: nothing of ours changes
    have m2 : Md K Z C H Z1 (upd H1 tp (.tup (ts.map fun t => V.ty t.n))) st1 [] := ⟨m1.r0, m1.p.put hp, List.nodup_nil, fun _ h => by simp at h, fun _ h => by simp at h⟩
    exact wr_bl m2 h
theorem s_bi {bi : Bi} (h : rd K call (.bi bi es) σ H Q) : tCB (rArg K fun st => biD st bi) (rds K call es) σ H Q := by
  obtain ⟨Z, C, ρ, st, re, er, h⟩ := h
  simp only [evalE] at h
  refine ⟨Z, C, ρ, st, re, er, wrL_bind out_wr h fun x st1 h v Z1 H1 S1 m1 o1 => ?_⟩
  exact ⟨Z, C, H, Z1, st1, x, S1, m1, o1, h⟩
/-- a def's promise by the interpreter's word -/
def spC (K : PySem.W.Frag) (call : Nat → List D → Sto → R DL) (f np : Nat) : Sp := fun vs H Q _ => vs.length = np ∧ ∃ Z C ds st, RE K Z C H st ∧ IsL K Z C vs ds ∧ Wr K (call f ds st) Z C H Q
theorem s_call {f np : Nat} (hn : es.len = np) {E : XK} (h : rd K call (.call f es) σ H Q) : tCall (spC K call f np) [] E (rds K call es) σ H Q := by
  obtain ⟨Z, C, ρ, st, re, er, h⟩ := h
  simp only [evalE] at h
  refine ⟨Z, C, ρ, st, re, er, ?_⟩
  cases hr : evalEs call es ρ st with
  | ok xs s =>
    rw [hr] at h
    intro vs Z1 H1 S1 m1 o1
    obtain ⟨m2, e2⟩ := m1.froz
    have h' : Wr K (call f (xs.map fun x => x.1) s) Z C H Q := h
    refine ⟨by rw [List.append_nil, o1.length, evalEs_len hr, hn], _, C, xs.map fun x => x.1, s, m2.re, ?_, wr_seq m2 h'⟩
    rw [List.append_nil]
    exact o1.froz e2 fun a ha => frz_in ha
  | ex _ _ _ => rw [hr] at h; exact h.elim
  | no => rw [hr] at h; exact h.elim
end
end IX
/-! IXh: targets, what a loop goes over, comprehensions. Own work. -/
namespace IX
open PySem PySem.Spec PyProof.Rows L2 Evl

theorem wipe_set {σ : L2.St} {i : Nat} {x : Option V} : ∀ vs : List Nat, L2.wipe (σ.set i x) vs = if i ∈ vs then L2.wipe σ vs else (L2.wipe σ vs).set i x
  | [] => by simp [L2.wipe]
  | v :: vs => by
    unfold L2.wipe
    rw [wipe_set vs]
    by_cases h : i ∈ vs
    · rw [if_pos h, if_pos (List.mem_cons_of_mem _ h)]
    · rw [if_neg h]
      by_cases e : i = v
      · subst e
        rw [if_pos List.mem_cons_self, List.set_set]
      · rw [if_neg (by simp [h, e]), List.set_comm _ _ e]
mutual
def gT (K : PySem.W.Frag) : Tg → TG
  | .nm i => gName i
  | .tp ts => gTup K ts.length (gTs K ts)
def gTs (K : PySem.W.Frag) : List Tg → TGs
  | [] => gNil
  | t :: ts => gCons (gT K t) (gTs K ts)
end
section
variable {K : PySem.W.Frag} {call : Nat → List D → Sto → R DL} {Z Z0 Z' Z1 Z2 H H0 H' H1 H2 : Hp} {C : List Addr} {v w : V} {d : D} {l : Nat} {S S1 S2 : List Addr} {st st1 st2 : Sto} {Q : VK} {a b c e : E} {es : Es}
theorem bindL_len : ∀ {ts : List Tg} {ds : List D} {ρ ρ' : Env}, Tg.bindL ts ds ρ = some ρ' → ts.length = ds.length
  | [], [], _, _, _ => rfl
  | t :: ts, d :: ds, ρ, ρ', h => by
    simp only [Tg.bindL] at h
    split at h
    · simp only [List.length_cons, bindL_len h]
    · cases h
  | [], _ :: _, _, _, h => by simp [Tg.bindL] at h
  | _ :: _, [], _, _, h => by simp [Tg.bindL] at h
mutual
theorem g_bind {vs : List Nat} : ∀ {t : Tg} {v : V} {d : D} {ρ ρ' : Env} {σ : L2.St} {Q : L2.St → Hp → Prop}, Is K Z C v d → t.bind d ρ = some ρ' → EnvR K Z C σ ρ → Ex Z H → (∀ i ∈ t.slots, i ∈ vs) →
    (∀ σ', EnvR K Z C σ' ρ' → L2.wipe σ' vs = L2.wipe σ vs → Q σ' H) → gT K t v σ H Q
  | .nm i, v, d, ρ, ρ', σ, Q, r, h, er, ex, hv, q => by
    simp only [Tg.bind] at h
    cases h
    exact q _ (er.set r) (by rw [wipe_set, if_pos (hv i (by simp [Tg.slots]))])
  | .tp ts, v, .tup ds, ρ, ρ', σ, Q, r, h, er, ex, hv, q => by
    simp only [Tg.bind] at h
    obtain ⟨p, ws, rfl, h1, h2, h3⟩ := is_tup r
    refine ⟨p, ws, rfl, ex_t ex h1, by rw [h3.length, bindL_len h], ?_⟩
    exact gs_bind h3 h er ex (fun i hi => hv i (by simpa [Tg.slots] using hi)) q
  | .tp _, _, .non, _, _, _, _, _, h, _, _, _, _ => by simp [Tg.bind] at h
  | .tp _, _, .bl _, _, _, _, _, _, h, _, _, _, _ => by simp [Tg.bind] at h
  | .tp _, _, .int _, _, _, _, _, _, h, _, _, _, _ => by simp [Tg.bind] at h
  | .tp _, _, .str _, _, _, _, _, _, h, _, _, _, _ => by simp [Tg.bind] at h
  | .tp _, _, .lst _, _, _, _, _, _, h, _, _, _, _ => by simp [Tg.bind] at h
  | .tp _, _, .cell _, _, _, _, _, _, h, _, _, _, _ => by simp [Tg.bind] at h
  | .tp _, _, .fn _, _, _, _, _, _, h, _, _, _, _ => by simp [Tg.bind] at h
  | .tp _, _, .clo _ _, _, _, _, _, _, h, _, _, _, _ => by simp [Tg.bind] at h
  | .tp _, _, .exc _ _, _, _, _, _, _, h, _, _, _, _ => by simp [Tg.bind] at h
  | .tp _, _, .scr _, _, _, _, _, _, h, _, _, _, _ => by simp [Tg.bind] at h
theorem gs_bind {vs : List Nat} : ∀ {ts : List Tg} {ws : List V} {ds : List D} {ρ ρ' : Env} {σ : L2.St} {Q : L2.St → Hp → Prop}, IsL K Z C ws ds → Tg.bindL ts ds ρ = some ρ' → EnvR K Z C σ ρ → Ex Z H → (∀ i ∈ Tg.slotsL ts, i ∈ vs) →
    (∀ σ', EnvR K Z C σ' ρ' → L2.wipe σ' vs = L2.wipe σ vs → Q σ' H) → gTs K ts ws σ H Q
  | [], [], [], ρ, ρ', σ, Q, _, h, er, ex, hv, q => by
    simp only [Tg.bindL] at h
    cases h
    exact ⟨rfl, q _ er rfl⟩
  | t :: ts, w :: ws, d :: ds, ρ, ρ', σ, Q, .cons r rs, h, er, ex, hv, q => by
    simp only [Tg.bindL] at h
    split at h
    · rename_i ρ1 h1
      refine ⟨w, ws, rfl, ?_⟩
      refine g_bind r h1 er ex (fun i hi => hv i (by simp [Tg.slotsL, hi])) fun σ1 er1 e1 => ?_
      exact gs_bind rs h er1 ex (fun i hi => hv i (by simp [Tg.slotsL, hi])) fun σ2 er2 e2 => q σ2 er2 (e2.trans e1)
    · cases h
  | [], [], _ :: _, _, _, _, _, h, _, _, _, _, _ => by cases h
  | [], _ :: _, [], _, _, _, _, h, _, _, _, _, _ => by cases h
  | [], _ :: _, _ :: _, _, _, _, _, _, h, _, _, _, _ => by simp [Tg.bindL] at h
  | _ :: _, [], [], _, _, _, _, _, h, _, _, _, _ => by simp [Tg.bindL] at h
  | _ :: _, [], _ :: _, _, _, _, _, h, _, _, _, _, _ => by cases h
  | _ :: _, _ :: _, [], _, _, _, _, h, _, _, _, _, _ => by cases h
end

/-! ### what a loop goes over -/
/-- J goes over ds -/
def ItOk (K : PySem.W.Frag) (Z : Hp) (C : List Addr) (J : It) (ds : List D) : Prop := ds.length ≤ sizeLine ∧ ∀ Z1 H st, Ex Z Z1 → RE K Z1 C H st →
  (∀ (i : Nat) (d : D), ds[i]? = some d → J.go i H ∧ ∀ x H', J.yld i H x H' → ∃ Z2, Post K Z1 C H Z2 H' st ∧ Is K Z2 C x d) ∧ J.stop ds.length H
def WrS (K : PySem.W.Frag) (r : R (List D)) (Z : Hp) (C : List Addr) (H : Hp) (Q : It → Hp → Prop) : Prop := match r with
  | .ok ds st' => ∀ J Z' H', Md K Z C H Z' H' st' [] → ItOk K Z' C J ds → Q J H'
  | _ => False
def rdI (K : PySem.W.Frag) (call : Nat → List D → Sto → R DL) (s : Sr) : TI := fun σ H R => ∃ Z C ρ st, RE K Z C H st ∧ EnvR K Z C σ ρ ∧ WrS K (evalSr call s ρ st) Z C H R
/-- a list or a tuple -/
def iSeq (K : PySem.W.Frag) (tl : TE) : TI := fun σ H R => tl σ H fun x H1 => ∃ a, x = .ref a ∧ (((∃ xs, SqL K H1 a xs) ∧ R (Itl K a) H1) ∨ ((∃ xs, SqT K H1 a xs) ∧ R (Itt K a) H1))
theorem pi_seq {X : Cx} {tg l : Expr} {tl : TE} (hl : PE X l tl) : PI X tg l (iSeq X.K tl) := by
  refine ⟨fun pins s σ H R I h => ?_⟩
  refine thn (hl.run pins s σ H _ I h) fun v s1 ⟨x, H1, I1, r1, q1⟩ => ?_
  obtain ⟨a, rfl, q1⟩ := q1
  cases r1
  rcases q1 with ⟨⟨xs, hq⟩, q⟩ | ⟨⟨xs, hq⟩, q⟩
  · obtain ⟨its, rv, p, hz⟩ := I1.list hq
    refine wpAny_pyIter_list p.isList ?_
    refine ⟨s1.heap.objs.size, [s1.heap.objs.size], _, _, H1, rfl, I1.kept (t' := s1.toks) fun b o e => Heap.get?_push_of_some _ e, turn_list a _, ⟨_, Heap.get?_push_size _ rfl, rfl, rfl⟩, fun b hb => ?_, q⟩
    have e : b = s1.heap.objs.size := by simpa using hb
    subst e
    exact I1.fpOk (Nat.le_refl _) (I1.hok.fresh (Nat.le_refl _))
  · obtain ⟨its, rv, p, hz⟩ := I1.tuple hq
    refine wpAny_pyIter_tuple (show s1.heap.IsTuple a its.toArray from p) ?_
    refine ⟨s1.heap.objs.size, [s1.heap.objs.size], _, _, H1, rfl, I1.kept (t' := s1.toks) fun b o e => Heap.get?_push_of_some _ e, turn_tuple a _, ⟨_, Heap.get?_push_size _ rfl, rfl, rfl⟩, fun b hb => ?_, q⟩
    have e : b = s1.heap.objs.size := by simpa using hb
    subst e
    exact I1.fpOk (Nat.le_refl _) (I1.hok.fresh (Nat.le_refl _))
theorem out_wrS {Q : It → Hp → Prop} : Out fun r => WrS K r Z C H Q := ⟨fun h => h, fun _ _ _ h => h⟩
theorem it_list {vs : List V} {ds : List D} {a : Addr} (h : Z a = some (.lst vs)) (il : IsL K Z C vs ds) (z : vs.length ≤ sizeLine) : ItOk K Z C (Itl K a) ds := by
  refine ⟨by rw [← il.length]; exact z, fun Z1 H st ez re => ?_⟩
  have hs : SqL K H a vs := sq_of (re.ex _ _ (ez _ _ h))
  refine ⟨fun i d hd => ?_, vs, hs, by rw [il.length]; exact Nat.le_refl _⟩
  obtain ⟨v, hv, iv⟩ := il.get hd
  refine ⟨⟨vs, v, hs, hv⟩, fun x H' hy => ?_⟩
  obtain ⟨rfl, hx⟩ := hy
  have e := hx vs hs
  rw [hv] at e
  cases e
  exact ⟨Z1, Post.refl re, iv.to ez⟩
theorem it_tup {vs : List V} {ds : List D} {a : Addr} (h : SqT K Z a vs) (il : IsL K Z C vs ds) (z : vs.length ≤ sizeLine) : ItOk K Z C (Itt K a) ds := by
  refine ⟨by rw [← il.length]; exact z, fun Z1 H st ez re => ?_⟩
  have hs : SqT K H a vs := ex_t re.ex (ex_t ez h)
  refine ⟨fun i d hd => ?_, vs, hs, by rw [il.length]; exact Nat.le_refl _⟩
  obtain ⟨v, hv, iv⟩ := il.get hd
  refine ⟨⟨vs, v, hs, hv⟩, fun x H' hy => ?_⟩
  obtain ⟨rfl, hx⟩ := hy
  have e := hx vs hs
  rw [hv] at e
  cases e
  exact ⟨Z1, Post.refl re, iv.to ez⟩
theorem rng_len (lo hi : Int) : (rngD lo hi).length = (hi - lo).toNat := by unfold rngD; simp
theorem rng_get {lo hi : Int} {i : Nat} (h : (rngD lo hi)[i]? = some d) : i < (hi - lo).toNat ∧ d = .int (lo + i) := by
  unfold rngD at h
  rw [List.getElem?_map] at h
  obtain ⟨j, hj, rfl⟩ := Option.map_eq_some_iff.mp h
  obtain ⟨h1, h2⟩ := List.getElem?_eq_some_iff.mp hj
  rw [List.length_range] at h1
  rw [List.getElem_range] at h2
  subst h2
  exact ⟨h1, rfl⟩
theorem it_rng {lo hi : Int} (z : (hi - lo).toNat ≤ sizeLine) : ItOk K Z C (Itr lo (hi - lo).toNat) (rngD lo hi) := by
  refine ⟨by rw [rng_len]; exact z, fun Z1 H st ez re => ⟨fun i d hd => ?_, ?_⟩⟩
  · obtain ⟨h1, rfl⟩ := rng_get hd
    refine ⟨h1, fun x H' hy => ?_⟩
    obtain ⟨rfl, rfl⟩ := hy
    exact ⟨Z1, Post.refl re, .int _⟩
  · show (hi - lo).toNat ≤ (rngD lo hi).length
    rw [rng_len]
    exact Nat.le_refl _
theorem i_seq {Q : It → Hp → Prop} {σ : L2.St} (h : rdI K call (.seq e) σ H Q) : iSeq K (rd K call e) σ H Q := by
  obtain ⟨Z, C, ρ, st, re, er, h⟩ := h
  simp only [evalSr] at h
  refine ⟨Z, C, ρ, st, re, er, wr_bind out_wrS h fun x st1 h v Z1 H1 S1 m1 o1 => ?_⟩
  obtain ⟨d, l⟩ := x
  obtain ⟨m2, _⟩ := m1.froz
  have i1 := m1.frozen o1 fun a h => h
  cases d <;> first | exact h.elim | skip
  · obtain ⟨p, ws, rfl, h1, h2, h3⟩ := is_lst i1
    exact ⟨p, rfl, .inl ⟨⟨ws, sq_of (m2.re.ex _ _ h1)⟩, h _ _ _ m2 (it_list h1 h3 h2)⟩⟩
  · obtain ⟨p, ws, rfl, h1, h2, h3⟩ := is_tup i1
    exact ⟨p, rfl, .inr ⟨⟨ws, ex_t m2.re.ex h1⟩, h _ _ _ m2 (it_tup h1 h3 h2)⟩⟩
theorem rds_one {β : Type} {W : R β → Prop} (o : Out W) {ρ : Env} {f : DL → Sto → R β} {Q : List V → Hp → Prop} (h : W ((evalE call a ρ st).bind f)) (k : ∀ x st1, W (f x st1) → ∀ v Z' H' S, Md K Z C H Z' H' st1 S → Ow K Z' C H' x.2 S v x.1 → Q [v] H') :
    WrL K (evalEs call (.cons a .nil) ρ st) Z C H Q := by
  simp only [evalEs]
  cases hr : evalE call a ρ st with
  | ok x s =>
    rw [hr] at h
    intro vs Z1 H1 S1 m1 o1
    obtain ⟨v, rfl, ow⟩ := o1.one
    exact k x s h v Z1 H1 S1 m1 ow
  | ex c x s => rw [hr] at h; exact (o.ex _ _ _ h).elim
  | no => rw [hr] at h; exact (o.no h).elim
theorem rds_two {β : Type} {W : R β → Prop} (o : Out W) {ρ : Env} {f : DL → DL → Sto → R β} {Q : List V → Hp → Prop} (h : W ((evalE call a ρ st).bind fun x st1 => (evalE call b ρ st1).bind fun y st2 => f x y st2))
    (k : ∀ x y st1, W (f x y st1) → ∀ v w Z' H' S1 S2, Md K Z C H Z' H' st1 (S1 ++ S2) → Ow K Z' C H' x.2 S1 v x.1 → Ow K Z' C H' y.2 S2 w y.1 → Q [v, w] H') :
    WrL K (evalEs call (.cons a (.cons b .nil)) ρ st) Z C H Q := by
  simp only [evalEs]
  cases hr : evalE call a ρ st with
  | ok x s =>
    rw [hr] at h
    simp only [bind_ok] at h ⊢
    cases hr2 : evalE call b ρ s with
    | ok y s2 =>
      rw [hr2] at h
      intro vs Z1 H1 S1 m1 o1
      obtain ⟨v, w, S1, S2, rfl, rfl, ow, ow2⟩ := o1.pair
      exact k x y s2 h v w Z1 H1 S1 S2 m1 ow ow2
    | ex c x s => rw [hr2] at h; exact (o.ex _ _ _ h).elim
    | no => rw [hr2] at h; exact (o.no h).elim
  | ex c x s => rw [hr] at h; exact (o.ex _ _ _ h).elim
  | no => rw [hr] at h; exact (o.no h).elim
theorem i_rng1 {Q : It → Hp → Prop} {σ : L2.St} (h : rdI K call (.rng1 a) σ H Q) : iRng1 (rds K call (.cons a .nil)) σ H Q := by
  obtain ⟨Z, C, ρ, st, re, er, h⟩ := h
  simp only [evalSr] at h
  refine ⟨Z, C, ρ, st, re, er, rds_one out_wrS h fun x st1 h v Z1 H1 S1 m1 o1 => ?_⟩
  obtain ⟨d, l⟩ := x
  cases d <;> first | exact h.elim | skip
  rename_i n
  obtain ⟨rfl, rfl⟩ := ow_int o1
  dsimp only at h
  split at h
  · rename_i hn
    have hm : (most : Int) = 100000 := rfl
    refine ⟨n, rfl, by omega, by omega, ?_⟩
    have := h (Itr 0 (n - 0).toNat) _ _ m1.drop (it_rng (le_line (by omega)))
    simpa using this
  · exact h.elim
theorem i_rng2 {Q : It → Hp → Prop} {σ : L2.St} (h : rdI K call (.rng2 a b) σ H Q) : iRng2 (rds K call (.cons a (.cons b .nil))) σ H Q := by
  obtain ⟨Z, C, ρ, st, re, er, h⟩ := h
  simp only [evalSr] at h
  refine ⟨Z, C, ρ, st, re, er, rds_two out_wrS h fun x y st1 h v w Z1 H1 S1 S2 m1 o1 o2 => ?_⟩
  obtain ⟨d, l⟩ := x
  obtain ⟨e, k⟩ := y
  dsimp only at h o1 o2
  split at h
  · rename_i m _ n _ e1 e2
    cases e1; cases e2
    obtain ⟨rfl, rfl⟩ := ow_int o1
    obtain ⟨rfl, rfl⟩ := ow_int o2
    split at h
    · rename_i hn
      have hm : (most : Int) = 100000 := rfl
      exact ⟨m, n, rfl, ⟨by omega, by omega, by omega, by omega⟩, h (Itr m (n - m).toNat) _ _ m1.drop (it_rng (by
        have : (n - m).toNat ≤ 200000 := by omega
        exact Nat.le_trans this (by decide)))⟩
    · exact h.elim
  · exact h.elim
/-- the pairs that enumerate and zip lay -/
theorem pair_laid {T : Addr} {x y : V} {d e : D} (re : RE K Z C H st) (hT : H T = none) (i1 : Is K Z C x d) (i2 : Is K Z C y e) :
    ∃ Z2, Post K Z C H Z2 (upd H T (.tup [x, y])) st ∧ Is K Z2 C (.ref T) (.tup [d, e]) := by
  obtain ⟨m, ez⟩ := (Md.refl re).tup (vs := [x, y]) hT
  exact ⟨_, m.p, .tup (st_of upd_same) (show 2 ≤ sizeLine by decide) (.cons (i1.to ez) (.cons (i2.to ez) .nil))⟩
theorem enu_len : ∀ (k : Nat) (ds : List D), (enuD k ds).length = ds.length
  | _, [] => rfl
  | k, d :: ds => by simp only [enuD, List.length_cons, enu_len (k + 1) ds]
theorem enu_get : ∀ {k : Nat} {ds : List D} {i : Nat} {d : D}, (enuD k ds)[i]? = some d → ∃ e, ds[i]? = some e ∧ d = .tup [.int ((k + i : Nat) : Int), e]
  | _, [], _, _, h => by simp [enuD] at h
  | k, e :: ds, 0, d, h => by simp only [enuD, List.getElem?_cons_zero, Option.some.injEq] at h; exact ⟨e, rfl, by rw [← h]; rfl⟩
  | k, e :: ds, i + 1, d, h => by
    simp only [enuD, List.getElem?_cons_succ] at h
    obtain ⟨e', h1, h2⟩ := enu_get (k := k + 1) h
    exact ⟨e', by simpa using h1, by rw [h2, show k + 1 + i = k + (i + 1) by omega]⟩
theorem i_enu {Q : It → Hp → Prop} {σ : L2.St} (h : rdI K call (.enu a) σ H Q) : iEnum K (rds K call (.cons a .nil)) σ H Q := by
  obtain ⟨Z, C, ρ, st, re, er, h⟩ := h
  simp only [evalSr] at h
  refine ⟨Z, C, ρ, st, re, er, rds_one out_wrS h fun x st1 h v Z1 H1 S1 m1 o1 => ?_⟩
  obtain ⟨d, l⟩ := x
  cases d <;> first | exact h.elim | skip
  obtain ⟨m2, _⟩ := m1.froz
  obtain ⟨p, ws, rfl, h1, h2, h3⟩ := is_lst (m1.frozen o1 fun a h => h)
  refine ⟨p, ws, rfl, sq_of (m2.re.ex _ _ h1), h _ _ _ m2 ⟨by rw [enu_len, ← h3.length]; exact h2, fun Z3 H3 st3 ez re3 => ?_⟩⟩
  have hs : SqL K H3 p ws := sq_of (re3.ex _ _ (ez _ _ h1))
  refine ⟨fun i d hd => ?_, ws, hs, by rw [enu_len, h3.length]; exact Nat.le_refl _⟩
  obtain ⟨e, he, rfl⟩ := enu_get hd
  obtain ⟨v, hv, iv⟩ := h3.get he
  refine ⟨⟨ws, v, hs, hv⟩, fun x H' hy => ?_⟩
  obtain ⟨T, y, rfl, hT, rfl, hx⟩ := hy
  have e2 := hx ws hs
  rw [hv] at e2
  cases e2
  rw [Nat.zero_add]
  exact pair_laid re3 hT (.int _) (iv.to ez)
theorem zip_get : ∀ {xs ys : List D} {i : Nat} {d : D}, (zipD xs ys)[i]? = some d → ∃ e f, xs[i]? = some e ∧ ys[i]? = some f ∧ d = .tup [e, f]
  | [], _, _, _, h => by simp [zipD] at h
  | _ :: _, [], _, _, h => by simp [zipD] at h
  | x :: xs, y :: ys, 0, d, h => by simp only [zipD, List.getElem?_cons_zero, Option.some.injEq] at h; exact ⟨x, y, rfl, rfl, h.symm⟩
  | x :: xs, y :: ys, i + 1, d, h => by
    simp only [zipD, List.getElem?_cons_succ] at h
    obtain ⟨e, f, h1, h2, h3⟩ := zip_get h
    exact ⟨e, f, by simpa using h1, by simpa using h2, h3⟩
theorem zip_len : ∀ xs ys : List D, (zipD xs ys).length = min xs.length ys.length
  | [], _ => by simp [zipD]
  | _ :: _, [] => by simp [zipD]
  | x :: xs, y :: ys => by simp only [zipD, List.length_cons, zip_len xs ys]; omega
theorem i_zip {Q : It → Hp → Prop} {σ : L2.St} (h : rdI K call (.zip a b) σ H Q) : iZip K (rds K call (.cons a (.cons b .nil))) σ H Q := by
  obtain ⟨Z, C, ρ, st, re, er, h⟩ := h
  simp only [evalSr] at h
  refine ⟨Z, C, ρ, st, re, er, rds_two out_wrS h fun x y st1 h v w Z1 H1 S1 S2 m1 o1 o2 => ?_⟩
  obtain ⟨d, l⟩ := x
  obtain ⟨e, k⟩ := y
  dsimp only at h o1 o2
  split at h
  · rename_i xs _ ys _ e1 e2
    cases e1; cases e2
    obtain ⟨m2, _⟩ := m1.froz
    obtain ⟨p, ws, rfl, h1, h2, h3⟩ := is_lst (m1.frozen o1 fun a h => List.mem_append_left _ h)
    obtain ⟨q, us, rfl, k1, k2, k3⟩ := is_lst (m1.frozen o2 fun a h => List.mem_append_right _ h)
    refine ⟨p, q, ws, us, rfl, sq_of (m2.re.ex _ _ h1), sq_of (m2.re.ex _ _ k1), h _ _ _ m2 ⟨by rw [zip_len, ← h3.length]; exact Nat.le_trans (Nat.min_le_left _ _) h2, fun Z3 H3 st3 ez re3 => ?_⟩⟩
    have hs : SqL K H3 p ws := sq_of (re3.ex _ _ (ez _ _ h1))
    have ks : SqL K H3 q us := sq_of (re3.ex _ _ (ez _ _ k1))
    refine ⟨fun i d hd => ?_, ws, us, hs, ks, by rw [zip_len, h3.length, k3.length]; omega⟩
    obtain ⟨e, f, he, hf, rfl⟩ := zip_get hd
    obtain ⟨v, hv, iv⟩ := h3.get he
    obtain ⟨u, hu, iu⟩ := k3.get hf
    refine ⟨⟨ws, us, v, u, hs, ks, hv, hu⟩, fun x H' hy => ?_⟩
    obtain ⟨T, y1, y2, rfl, hT, rfl, hx1, hx2⟩ := hy
    have e1 := hx1 ws hs
    rw [hv] at e1
    cases e1
    have e2 := hx2 us ks
    rw [hu] at e2
    cases e2
    exact pair_laid re3 hT (iv.to ez) (iu.to ez)
  · exact h.elim
/-- list(range(..)) -/
theorem rgV_is : ∀ {lo hi : Int}, IsL K Z C (rgV lo hi) (rngD lo hi) := by
  intro lo hi
  unfold rgV rngD
  generalize (List.range (hi - lo).toNat) = l
  induction l with
  | nil => exact .nil
  | cons i r ih => exact .cons (.int _) ih

/-! ### comprehensions -/
theorem Md.set {vs ws : List V} {D0 : Addr} (m : Md K Z0 C H0 Z H st (D0 :: S)) : Md K Z0 C H0 Z (upd H D0 (.lst ws)) st (D0 :: S) := by
  have hD := m.fr D0 (by simp)
  have nC := m.not D0 (by simp)
  have zD := (m.my D0 (by simp)).1
  refine ⟨m.r0, ⟨m.p.z, ⟨m.re.ex.mut zD, m.re.len, fun k ds h => ?_, m.re.cz, m.re.nd⟩, fun a o h hc => ?_, m.p.nw⟩, m.nd, m.fr, fun a h => ?_⟩
  · obtain ⟨a, us, h1, h2, h3⟩ := m.re.cel k ds h
    exact ⟨a, us, h1, by rw [upd_ne (show a ≠ D0 from fun e => nC (by rw [← e]; exact List.mem_of_getElem? h1))]; exact h2, h3⟩
  · rw [upd_ne (fun e => by rw [e, hD] at h; cases h)]
    exact m.p.fr a o h hc
  · obtain ⟨z, us, e⟩ := m.my a h
    by_cases q : a = D0
    · exact ⟨z, ws, by rw [q]; exact upd_same⟩
    · exact ⟨z, us, by rw [upd_ne q]; exact e⟩
theorem Ow.upd {D0 : Addr} {u : HO} (o : Ow K Z C H l S v d) (h : D0 ∉ S) : Ow K Z C (L2.upd H D0 u) l S v d := o.mono (fun _ _ h => h) (Pre.refl C) fun a ha => ⟨(o.node a ha).1, upd_ne fun e => h (e ▸ ha)⟩
theorem OwV.upd {D0 : Addr} {u : HO} : ∀ {S : List Addr} {vs : List V} {xs : List DL}, OwV K Z C H S vs xs → D0 ∉ S → OwV K Z C (L2.upd H D0 u) S vs xs
  | _, _, _, .nil, _ => .nil
  | _, _, _, .cons r t, h => .cons (r.upd fun z => h (List.mem_append_left _ z)) (OwV.upd t fun z => h (List.mem_append_right _ z))
theorem OwV.nodes : ∀ {S : List Addr} {vs : List V} {xs : List DL}, OwV K Z C H S vs xs → ∀ a ∈ S, Z a = none ∧ ∃ vs, H a = some (.lst vs)
  | _, _, _, .nil, _, h => by simp at h
  | _, _, _, .cons r t, a, h => by
    rcases List.mem_append.mp h with h | h
    · exact r.node a h
    · exact t.nodes a h
/-- a list that stands, of known items -/
theorem lst_end {vs : List V} {xs : List DL} {L : Nat} {D0 : Addr} (m : Md K Z0 C H0 Z H st (D0 :: S)) (hD : H D0 = some (.lst vs)) (o : OwV K Z C H S vs xs) (hl : vs.length ≤ sizeLine) (hL : L = 1 ∨ (L = 2 ∧ ∀ x ∈ xs, lvOk x)) :
    ∃ Z' S', Md K Z0 C H0 Z' H st S' ∧ Ow K Z' C H L S' (.ref D0) (.lst (xs.map (·.1))) := by
  have nd := List.nodup_cons.mp m.nd
  rcases hL with rfl | ⟨rfl, h⟩
  · have m1 := m.sub nd.2 fun a h => List.mem_cons_of_mem _ h
    obtain ⟨m2, e2⟩ := m1.froz
    have zD : frz Z H S D0 = none := by unfold frz; rw [if_neg nd.1]; exact (m.my D0 (by simp)).1
    refine ⟨_, [D0], ⟨m2.r0, m2.p, by simp, fun a h => ?_, fun a h => ?_⟩, .one hD zD hl (o.froz e2 fun a ha => frz_in ha)⟩
    · rw [List.mem_singleton.mp h]; exact m.fr D0 (by simp)
    · rw [List.mem_singleton.mp h]; exact ⟨zD, vs, hD⟩
  · exact ⟨Z, D0 :: S, m, .lst hD (m.my D0 (by simp)).1 hl (o.two h)⟩
def rdT (K : PySem.W.Frag) (call : Nat → List D → Sto → R DL) : Es → TT
  | .nil => tYes
  | .cons e .nil => rdb K call e
  | .cons _ (.cons _ _) => fun _ _ _ => False
theorem rdT_of {Q : Bool → Hp → Prop} {σ : L2.St} {ρ : Env} {cs : Es} {β : Type} {W : R β → Prop} (o : Out W) {f : Bool → Sto → R β} (re : RE K Z C H st) (er : EnvR K Z C σ ρ) (h : W ((noEx (evalTs call cs ρ st)).bind f))
    (k : ∀ b st1, W (f b st1) → ∀ Z' H', Md K Z C H Z' H' st1 [] → Q b H') : rdT K call cs σ H Q := by
  cases cs with
  | nil =>
    simp only [evalTs, noEx, bind_ok] at h
    exact k true st h Z H (Md.refl re)
  | cons e es =>
    cases es with
    | nil =>
      simp only [evalTs] at h
      refine ⟨Z, C, ρ, st, re, er, ?_⟩
      cases hr : (evalE call e ρ st).bind fun x st1 => .of (bool? x) st1 with
      | ok b s => rw [hr] at h; exact fun Z' H' m => k b s h Z' H' m
      | ex _ _ _ => rw [hr] at h; exact (o.no h).elim
      | no => rw [hr] at h; exact (o.no h).elim
    | cons _ _ => simp only [evalTs, noEx, bind_no] at h; exact (o.no h).elim
theorem s_lc {v : E} {t : Tg} {s : Sr} {cs : Es} {σ : L2.St} (h : rd K call (.lc v t s cs) σ H Q) : tLc (rdI K call s) (gT K t) (rdT K call cs) (rd K call v) t.slots σ H Q := by
  obtain ⟨Z, C, ρ, st, re, er, h⟩ := h
  simp only [evalE] at h
  refine ⟨Z, C, ρ, st, re, er, ?_⟩
  cases hs : evalSr call s ρ st with
  | ex _ _ _ => rw [hs] at h; exact h.elim
  | no => rw [hs] at h; exact h.elim
  | ok ds st1 =>
    rw [hs] at h
    simp only [bind_ok] at h
    intro J Z1 H1 m1 hJ D0 hD
    obtain ⟨hz, hJ⟩ := hJ
    refine ⟨fun i m Hc => m + i = ds.length ∧ ∃ Zi sti S ys acc, Md K Z C H Zi Hc sti (D0 :: S) ∧ Ex Z1 Zi ∧ Hc D0 = some (.lst acc) ∧ OwV K Zi C Hc S acc ys ∧ acc.length ≤ i ∧
      Wr K ((lcGo (fun ρ st => noEx (evalTs call cs ρ st)) (fun ρ st => noEx (evalE call v ρ st)) t (wipeE ρ t.slots) (ds.drop i) sti).bind fun zs st2 => .ok (.lst ((ys ++ zs).map (·.1)), if (ys ++ zs).all (·.2 == 2) then 2 else 1) st2) Z C H Q,
      ⟨ds.length, by omega, Z1, st1, [], [], [], m1.put hD, fun _ _ h => h, upd_same, .nil, by simp, by simpa using h⟩, ?_⟩
    rintro i m Hc ⟨hm, Zi, sti, S, ys, acc, md, ez, hacc, ov, hlen, hw⟩
    obtain ⟨hgo, hstop⟩ := hJ Zi Hc sti ez md.re
    by_cases hi : i < ds.length
    · have hd : ds[i]? = some ds[i] := List.getElem?_eq_getElem hi
      obtain ⟨g1, g2⟩ := hgo i _ hd
      refine .inr ⟨g1, fun H' => ∃ Zi sti S ys acc, Md K Z C H Zi H' sti (D0 :: S) ∧ Ex Z1 Zi ∧ H' D0 = some (.lst acc) ∧ OwV K Zi C H' S acc ys ∧ acc.length ≤ i + 1 ∧
        Wr K ((lcGo (fun ρ st => noEx (evalTs call cs ρ st)) (fun ρ st => noEx (evalE call v ρ st)) t (wipeE ρ t.slots) (ds.drop (i + 1)) sti).bind fun zs st2 => .ok (.lst ((ys ++ zs).map (·.1)), if (ys ++ zs).all (·.2 == 2) then 2 else 1) st2) Z C H Q,
        fun H' hH => ⟨m - 1, by omega, by omega, hH⟩, fun x H' hy => ?_⟩
      obtain ⟨Z2, P2, i2⟩ := g2 x H' hy
      have n2 : Md K Zi C Hc Z2 H' sti [] := ⟨⟨sti, md.re⟩, P2, List.nodup_nil, fun _ h => by simp at h, fun _ h => by simp at h⟩
      have md2 := md.seq n2
      rw [List.append_nil] at md2
      rw [List.drop_eq_getElem_cons hi] at hw
      simp only [lcGo] at hw
      cases hb : t.bind ds[i] (wipeE ρ t.slots) with
      | none => rw [hb] at hw; exact hw.elim
      | some ρ' =>
        rw [hb] at hw
        dsimp only at hw
        have er2 : EnvR K Z2 C (L2.wipe σ t.slots) (wipeE ρ t.slots) := (er.wipe t.slots).to ((m1.p.z.trans ez).trans P2.z)
        refine g_bind i2 hb er2 P2.re.ex (fun j hj => hj) fun σ2 er3 ew => ?_
        refine ⟨by rw [ew]; clear hb hw er2 er3 ew; exact (by
          have : ∀ (vs us : List Nat), (∀ a ∈ vs, a ∈ us) → L2.wipe (L2.wipe σ us) vs = L2.wipe σ us := by
            intro vs us
            induction vs with
            | nil => intro _; rfl
            | cons a vs ih =>
              intro hv
              show (L2.wipe (L2.wipe σ us) vs).set a none = _
              rw [ih fun b hb => hv b (List.mem_cons_of_mem _ hb)]
              have key : ∀ us : List Nat, a ∈ us → (L2.wipe σ us).set a none = L2.wipe σ us := by
                intro us
                induction us with
                | nil => intro h; simp at h
                | cons u us ih2 =>
                  intro h
                  show ((L2.wipe σ us).set u none).set a none = (L2.wipe σ us).set u none
                  by_cases q : u = a
                  · rw [q, List.set_set]
                  · rw [List.set_comm _ _ q, ih2 (by rcases List.mem_cons.mp h with h | h; exact absurd h.symm q; exact h)]
              exact key us (hv a List.mem_cons_self)
          exact this _ _ fun _ h => h), ?_⟩
        have hw' : Wr K ((noEx (evalTs call cs ρ' sti)).bind fun b st1 => ((if b = true then (noEx (evalE call v ρ' st1)).bind fun y st2 => (lcGo (fun ρ st => noEx (evalTs call cs ρ st)) (fun ρ st => noEx (evalE call v ρ st)) t (wipeE ρ t.slots) (ds.drop (i + 1)) st2).bind fun ys st3 => .ok (y :: ys) st3
            else lcGo (fun ρ st => noEx (evalTs call cs ρ st)) (fun ρ st => noEx (evalE call v ρ st)) t (wipeE ρ t.slots) (ds.drop (i + 1)) st1).bind fun zs st2 => .ok (.lst ((ys ++ zs).map (·.1)), if (ys ++ zs).all (·.2 == 2) then 2 else 1) st2)) Z C H Q := by
          cases hn : noEx (evalTs call cs ρ' sti) with
          | ok b s => rw [hn] at hw; exact hw
          | ex _ _ _ => rw [hn] at hw; exact hw.elim
          | no => rw [hn] at hw; exact hw.elim
        refine rdT_of out_wr P2.re er3 hw' fun b st3 hw3 Z3 H3 m3 => ?_
        have md3 := md2.seq m3
        rw [List.append_nil] at md3
        have D3 : H3 D0 = some (.lst acc) := m3.p.fr _ _ (P2.fr _ _ hacc (md.not D0 (by simp))) (md.not D0 (by simp))
        have nS : ∀ a ∈ S, a ∉ C := fun a ha => md.not a (List.mem_cons_of_mem _ ha)
        have ov3 : OwV K Z3 C H3 S acc ys := OwV.step (xs := ys) m3.p (OwV.step (xs := ys) P2 ov nS) nS
        cases b with
        | false =>
          show ∃ Zi sti S ys acc, _
          simp only [Bool.false_eq_true, if_false] at hw3
          exact ⟨Z3, st3, S, ys, acc, md3, (ez.trans P2.z).trans m3.p.z, D3, ov3, by omega, hw3⟩
        | true =>
          simp only [if_true] at hw3 ⊢
          refine ⟨Z3, C, ρ', st3, m3.re, er3.to m3.p.z, ?_⟩
          cases hv : evalE call v ρ' st3 with
          | ex _ _ _ => rw [hv] at hw3; exact hw3.elim
          | no => rw [hv] at hw3; exact hw3.elim
          | ok y st4 =>
            rw [hv] at hw3
            intro u Z4 H4 S4 m4 o4
            have md4 := md3.seq m4
            have D4 : H4 D0 = some (.lst acc) := m4.p.fr _ _ D3 (md.not D0 (by simp))
            have ov4 : OwV K Z4 C H4 (S ++ S4) (acc ++ [u]) (ys ++ [y]) := by
              have := (OwV.step (xs := ys) m4.p ov3 nS).append (.cons o4 .nil)
              rw [List.append_nil] at this
              exact this
            have nd := List.nodup_cons.mp md4.nd
            refine ⟨acc, D4, by omega, Z4, st4, S ++ S4, ys ++ [y], acc ++ [u], md4.set (vs := acc), ((ez.trans P2.z).trans m3.p.z).trans m4.p.z, upd_same, ov4.upd nd.1, by simp; omega, ?_⟩
            simp only [noEx, bind_ok] at hw3
            have key : ∀ r : R (List DL), Wr K ((r.bind fun ys st3 => .ok (y :: ys) st3).bind fun zs st2 => .ok (.lst ((ys ++ zs).map (·.1)), if (ys ++ zs).all (·.2 == 2) then 2 else 1) st2) Z C H Q →
                Wr K (r.bind fun zs st2 => .ok (.lst (((ys ++ [y]) ++ zs).map (·.1)), if ((ys ++ [y]) ++ zs).all (·.2 == 2) then 2 else 1) st2) Z C H Q := by
              intro r hr
              cases r with
              | ok zs s => simp only [bind_ok] at hr ⊢; rw [List.append_assoc]; exact hr
              | ex _ _ _ => exact hr
              | no => exact hr
            exact key _ hw3
    · have e : i = ds.length := by omega
      subst e
      refine .inl ⟨hstop, ?_⟩
      rw [List.drop_length] at hw
      simp only [lcGo, bind_ok, List.append_nil] at hw
      obtain ⟨Z', S', m', o'⟩ := lst_end (L := if ys.all (·.2 == 2) = true then 2 else 1) md hacc ov (Nat.le_trans hlen hz) (by
        split
        · rename_i hx
          exact .inr ⟨rfl, all_two hx⟩
        · exact .inl rfl)
      exact hw _ _ _ _ m' o'
end
end IX
/-! IXi: from the text's expressions to the small language; the text keeps the interpreter's word. Own work. -/
namespace IX
open PySem PySem.Spec PyProof.Rows L2 Evl

/-! ### compiling -/
structure CI where
  fs : List (Str × List Str)
  gl : List (Str × D)
  kw : List (Nat × Nat × List Str)
  cells : List Nat
  rl : List Nat
  pl : List (Nat × Nat)
def ixOf : List Str → Str → Option Nat
  | [], _ => none
  | y :: r, x => if y = x then some 0 else (ixOf r x).map (· + 1)
theorem ixOf_get : ∀ {N : List Str} {x : Str} {i : Nat}, ixOf N x = some i → N[i]? = some x
  | y :: r, x, i, h => by
    unfold ixOf at h
    split at h
    · rename_i e; cases h; rw [e]; rfl
    · obtain ⟨j, hj, rfl⟩ := Option.map_eq_some_iff.mp h
      simpa using ixOf_get hj
def fnIx : List (Str × List Str) → Str → Option (Nat × List Str)
  | [], _ => none
  | (y, ps) :: r, x => if y = x then some (0, ps) else (fnIx r x).map fun p => (p.1 + 1, p.2)
theorem fnIx_get : ∀ {fs : List (Str × List Str)} {x : Str} {i : Nat} {ps : List Str}, fnIx fs x = some (i, ps) → fs[i]? = some (x, ps)
  | (y, qs) :: r, x, i, ps, h => by
    unfold fnIx at h
    split at h
    · rename_i e; cases h; rw [e]; rfl
    · obtain ⟨⟨j, rs⟩, hj, e⟩ := Option.map_eq_some_iff.mp h
      cases e
      simpa using fnIx_get hj
def cConst : Const → Option D
  | .none => some .non
  | .bool b => some (.bl b)
  | .int i => some (.int i)
  | .str s => some (.str s)
  | _ => none
def nameOk (x : Str) : Bool := (x == ("__debug__" : Str)) == false && (x == ("__classdict__" : Str)) == false
def cName (ci : CI) (N : List Str) (sc : Scope) (x : Str) : Option E :=
  if nameOk x then match sc.names.lookup x with
    | some .local => (ixOf N x).map .var
    | some .cell => (ixOf N x).map .var
    | some .free => (ixOf N x).map .var
    | some .globalImplicit => (ci.gl.lookup x).map (.glo x)
    | _ => none
  else none
def bOp : Operator → Option Bo
  | .Add => some .add | .Sub => some .sub | .Mult => some .mul | .FloorDiv => some .fdiv | .Mod => some .mod | .Pow => some .pow
  | _ => none
def cOp : CmpOp → Co
  | .Eq => .eq | .NotEq => .ne | .Lt => .lt | .LtE => .le | .Gt => .gt | .GtE => .ge | .Is => .is_ | .IsNot => .isn | .In => .in_ | .NotIn => .nin
def isGl (sc : Scope) (x : Str) : Bool := sc.names.lookup x == some .globalImplicit
def tyOf1 (sc : Scope) : Expr → Option Ty
  | .Name x _ => if isGl sc x then (if x = "int" then some .int else if x = "bool" then some .bool else if x = "list" then some .list else if x = "tuple" then some .tuple else if x = "str" then some .str else if x = "dict" then some .dict else none) else none
  | _ => none
def tysOf (sc : Scope) : List Expr → Option (List Ty)
  | [] => some []
  | e :: es => match tyOf1 sc e, tysOf sc es with
    | some t, some ts => some (t :: ts)
    | _, _ => none
/-- built-ins of one place by the same call rule -/
def bltTab : List (Str × Nat × Bi) := [("len", 1, .len), ("sum", 1, .sum), ("max", 1, .max), ("min", 1, .min), ("max", 2, .max2), ("min", 2, .min2), ("abs", 1, .abs), ("int", 1, .int), ("list", 1, .list), ("tuple", 1, .tuple), ("sorted", 1, .sorted), ("repr", 1, .repr), ("sum", 2, .sumf)]
def bltGo : List (Str × Nat × Bi) → Str → Nat → Option Bi
  | [], _, _ => none
  | (y, m, b) :: r, x, n => if y = x ∧ m = n then some b else bltGo r x n
def bltOf (x : Str) (n : Nat) : Option Bi := bltGo bltTab x n
theorem bltGo_mem : ∀ {l : List (Str × Nat × Bi)} {x : Str} {n : Nat} {b : Bi}, bltGo l x n = some b → (x, n, b) ∈ l
  | (y, m, c) :: r, x, n, b, h => by
    unfold bltGo at h
    split at h
    · rename_i e; cases h; rw [e.1, e.2]; exact List.mem_cons_self
    · exact List.mem_cons_of_mem _ (bltGo_mem h)
mutual
def cTg (N : List Str) (ok : Str → Bool) : Nat → Expr → Option Tg
  | 0, _ => none
  | _ + 1, .Name x _ => if ok x then (ixOf N x).map .nm else none
  | n + 1, .Tuple es _ _ => (cTgs N ok n es).map .tp
  | _ + 1, _ => none
def cTgs (N : List Str) (ok : Str → Bool) : Nat → List Expr → Option (List Tg)
  | 0, _ => none
  | _ + 1, [] => some []
  | n + 1, e :: es => match cTg N ok n e, cTgs N ok n es with
    | some t, some ts => some (t :: ts)
    | _, _ => none
end
/-- a block's own names with their places -/
def ownOf (N : List Str) (vs : List Nat) : List (Str × Nat) := vs.filterMap fun i => (N[i]?).map fun x => (x, i)
def stB (scope : Scope) (x : Str) : Bool := scope.names.lookup x == some .local || scope.names.lookup x == some .cell
def kwPm (ps ks : List Str) (n : Nat) : Option (List Nat) := (List.range ps.length).foldr (fun j r => match r with
  | none => none
  | some l => if j < n then some (j :: l) else match ps[j]? with
    | none => none
    | some x => (ixOf ks x).map fun i => (n + i) :: l) (some [])
def kwNames : List Keyword → Option (List Str)
  | [] => some []
  | ⟨some x, _, _⟩ :: r => (kwNames r).map (x :: ·)
  | _ => none
mutual
def cE (ci : CI) (N : List Str) : Nat → Scope → Expr → Option E
  | 0, _, _ => none
  | n + 1, sc, e => match e with
    | .Name x _ => cName ci N sc x
    | .Constant c _ _ => (cConst c).map .con
    | .List es _ => (cEs ci N n sc es).bind fun r => if r.len ≤ 1000 then some (.lst r) else none
    | .Tuple es _ _ => (cEs ci N n sc es).bind fun r => if r.len ≤ 1000 then some (.tup r) else none
    | .Dict [] [] _ => some .emp
    | .UnaryOp .USub a _ => (cE ci N n sc a).map .neg
    | .UnaryOp .Not a _ => (cE ci N n sc a).map .not
    | .BinOp a op b _ => match bOp op, cE ci N n sc a, cE ci N n sc b with
      | some o, some a, some b => some (.bin o a b)
      | _, _, _ => none
    | .Compare a [op] [b] _ => if behindInMarks op b then none else match cE ci N n sc a, cE ci N n sc b with
      | some a, some b => some (.cmp (cOp op) a b)
      | _, _ => none
    | .Compare a [op, op'] [b, c] _ => if lastMarks [op, op'] [b, c] then none else match cE ci N n sc a, cE ci N n sc b, cE ci N n sc c with
      | some a, some b, some c => some (.cmp2 (cOp op) (cOp op') a b c)
      | _, _, _ => none
    | .BoolOp op vs _ => cBo ci N n sc op vs
    | .IfExp c a b _ => match cE ci N n sc c, cE ci N n sc a, cE ci N n sc b with
      | some c, some a, some b => some (.ife c a b)
      | _, _, _ => none
    | .Subscript a (.Slice none none (some (.UnaryOp .USub (.Constant (.int 1) _ _) _)) _) _ => (cE ci N n sc a).map .rev
    | .Subscript a (.Slice lo hi none _) _ => match cE ci N n sc a, cO ci N n sc lo, cO ci N n sc hi with
      | some a, some l, some h => some (.sl a l h)
      | _, _, _ => none
    | .Subscript a b _ => match cE ci N n sc a, cE ci N n sc b with
      | some a, some b => some (.ix a b)
      | _, _ => none
    | .ListComp elt [⟨tg, iter, ifs, as⟩] scope _ => if as = 0 then match cTg N (stB scope) n tg, cSr ci N n sc tg iter with
        | some t, some s => if blkC N sc scope (ownOf N t.slots) && (ownOf N t.slots).map (·.2) == t.slots then
            match cEs ci N n (relS scope sc) ifs, cE ci N n (relS scope sc) elt with
            | some cs, some v => some (.lc v t s cs)
            | _, _ => none
          else none
        | _, _ => none
      else none
    | .Call (.Name f _) args kws _ => if isGl sc f && nameOk f then cCall ci N n sc f args kws else none
    | .Call (.Attribute o m ap) args [] p => (match cE ci N n sc o with
      | some o' => (match o with
        | .Name _ _ => if m = "bit_length" ∧ args.length = 0 ∧ (ap.endLine == p.line) = true then some (.bi .bits (.cons o' .nil)) else none
        | _ => none)
      | none => none)
    | _ => none
def cEs (ci : CI) (N : List Str) : Nat → Scope → List Expr → Option Es
  | 0, _, _ => none
  | _ + 1, _, [] => some .nil
  | n + 1, sc, e :: es => match cE ci N n sc e, cEs ci N n sc es with
    | some a, some b => some (.cons a b)
    | _, _ => none
def cO (ci : CI) (N : List Str) : Nat → Scope → Option Expr → Option Es
  | 0, _, _ => none
  | _ + 1, _, none => some .nil
  | n + 1, sc, some e => (cE ci N n sc e).map fun a => .cons a .nil
def cBo (ci : CI) (N : List Str) : Nat → Scope → BoolOp → List Expr → Option E
  | 0, _, _, _ => none
  | _ + 1, _, _, [] => none
  | n + 1, sc, _, [a] => cE ci N n sc a
  | n + 1, sc, .And, a :: b :: r => match cE ci N n sc a, cBo ci N n sc .And (b :: r) with
    | some x, some y => some (.and x y)
    | _, _ => none
  | n + 1, sc, .Or, a :: b :: r => match cE ci N n sc a, cBo ci N n sc .Or (b :: r) with
    | some x, some y => some (.or x y)
    | _, _ => none
def cSr (ci : CI) (N : List Str) : Nat → Scope → Expr → Expr → Option Sr
  | 0, _, _, _ => none
  | n + 1, sc, tg, e => match e with
    | .Call (.Name f _) [a] [] _ => if f = "range" then (if isGl sc f then (cE ci N n sc a).map .rng1 else none)
        else if f = "enumerate" then (if isGl sc f then (match tg with
          | .Tuple _ _ _ => (cE ci N n sc a).map .enu
          | _ => none) else none)
        else (cE ci N n sc e).map .seq
    | .Call (.Name f _) [a, b] [] _ => if f = "range" then (if isGl sc f then (match cE ci N n sc a, cE ci N n sc b with
          | some a, some b => some (.rng2 a b)
          | _, _ => none) else none)
        else if f = "zip" then (if isGl sc f then (match tg, cE ci N n sc a, cE ci N n sc b with
          | .Tuple _ _ _, some a, some b => some (.zip a b)
          | _, _, _ => none) else none)
        else (cE ci N n sc e).map .seq
    | .Set _ _ _ => none
    | _ => (cE ci N n sc e).map .seq
def cCall (ci : CI) (N : List Str) : Nat → Scope → Str → List Expr → List Keyword → Option E
  | 0, _, _, _, _ => none
  | n + 1, sc, f, args, kws => match fnIx ci.fs f with
    | some (i, ps) => (match kws with
      | [] => (cEs ci N n sc args).bind fun as => if as.len = ps.length then some (.call i as) else none
      | k :: ks => (match kwNames (k :: ks), cEs ci N n sc args, cEs ci N n sc ((k :: ks).map (·.value)) with
        | some xs, some as, some bs => (kwPm ps xs args.length).bind fun pm => if (i, args.length, xs) ∈ ci.kw ∧ pm.length = ps.length ∧ as.len + bs.len = ps.length ∧ as.len = args.length then some (.callk i pm as bs) else none
        | _, _, _ => none))
    | none => (match kws with
      | [] => if f = "isinstance" then (match args with
          | [a, .Tuple ts _ _] => (match cE ci N n sc a, tysOf sc ts with
            | some a, some ts => if ts = [] ∨ 1000 < ts.length then none else some (.isi a ts)
            | _, _ => none)
          | [a, t] => (match cE ci N n sc a, tyOf1 sc t with
            | some a, some t => some (.isi a [t])
            | _, _ => none)
          | _ => none)
        else (match f == ("list" : Str), args with
          | true, [.Call (.Name g _) [a] [] _] => if g = "range" ∧ isGl sc g then (cE ci N n sc a).map fun a => .lsr (.rng1 a) else (cEs ci N n sc args).map (.bi .list)
          | _, _ => (match bltOf f args.length with
            | some b => (cEs ci N n sc args).map (.bi b)
            | none => none))
      | _ => none)
end
end IX
/-! IXj: the text's expressions keep the interpreter's word. Own work. -/
namespace IX
open PySem PySem.Spec PyProof.Rows L2 Evl

theorem _root_.L2.PE.weak {X : Cx} {e : Expr} {t t' : TE} (h : PE X e t) (w : ∀ σ H Q, t' σ H Q → t σ H Q) : PE X e t' := ⟨fun pins s σ H Q I q => h.run pins s σ H Q I (w σ H Q q)⟩
theorem _root_.L2.PT.weak {X : Cx} {e : Expr} {t t' : TT} (h : PT X e t) (w : ∀ σ H Q, t' σ H Q → t σ H Q) : PT X e t' := ⟨fun pins s σ H Q I q => h.run pins s σ H Q I (w σ H Q q)⟩
theorem _root_.L2.PW.weak {X : Cx} {e : Expr} {t t' : TT} (h : PW X e t) (w : ∀ σ H Q, t' σ H Q → t σ H Q) : PW X e t' := ⟨fun wh pins s σ H Q I q => h.run wh pins s σ H Q I (w σ H Q q)⟩
theorem _root_.L2.PA.weak {X : Cx} {e : List Expr} {t t' : TA} (h : PA X e t) (w : ∀ σ H Q, t' σ H Q → t σ H Q) : PA X e t' := ⟨fun pos pins s σ H Q I q => h.run pos pins s σ H Q I (w σ H Q q)⟩
theorem _root_.L2.PI.weak {X : Cx} {tg e : Expr} {t t' : TI} (h : PI X tg e t) (w : ∀ σ H R, t' σ H R → t σ H R) : PI X tg e t' := ⟨fun pins s σ H R I q => h.run pins s σ H R I (w σ H R q)⟩
theorem _root_.L2.PG.weak {X : Cx} {e : Expr} {t t' : TG} (h : PG X e t) (w : ∀ v σ H Q, t' v σ H Q → t v σ H Q) : PG X e t' := ⟨fun pins s σ H v u Q I r q => h.run pins s σ H v u Q I r (w v σ H Q q)⟩

def bltNames : List Str := ["len", "sum", "max", "min", "abs", "int", "list", "tuple", "sorted", "repr", "isinstance", "range", "enumerate", "zip", "bool", "str", "dict"]
/-- keyword calls: n positional values, then those of the names ks, laid by pm -/
def KB (K : PySem.W.Frag) (fd : FuncData) (ps : List Str) (n : Nat) (ks : List Str) (pm : List Nat) : Prop := ∀ (s : Shared) (us ws ys : List Value), K.In s.heap → us.length = n → ws.length = ks.length →
  permV pm (us ++ ws) = some ys → BindsTo s fd ⟨us, ks.zip ws⟩ (ps.zip ys)
/-- a def's promise where nothing guards the stack -/
structure FnG (P : Program) (w : World) (K : PySem.W.Frag) (mg : Str → Option Value) (base : Heap) (k : Nat) (f : Addr) (fd : FuncData) (ps : List Str) (sp : Sp) : Prop where
  go : ∀ (A : Around) (outer : List PySem.Env) (s : Shared) (H : Hp) (ar : Args) (us : List Value) (vs : List V) (Q : VK), A.guards = some [] → Room k A → Env0 P w K mg base A outer s H → BindsTo s fd ar (ps.zip us) → Vals vs us → vs.length = ps.length → sp vs H Q L2.E0 →
    codeAny (model P w) A (.call (.ref f) ar) (CR L2.CX0 outer P w H s Q L2.E0) s
/-- what the context gives -/
structure Gd (ci : CI) (k : Nat) (call : Nat → List D → Sto → R DL) (X : Cx) : Prop where
  nd : X.N.Nodup
  calm : X.calm = true
  room : Room k X.A
  gd : X.A.guards = some []
  un : X.A.units + 100 < cLine
  blt : ∀ x ∈ bltNames, X.mg x = none
  gl : ∀ x d, ci.gl.lookup x = some d → d.scal = true ∧ ∃ u, X.mg x = some u ∧ RelV (vOf d) u
  fn : ∀ i x ps, ci.fs[i]? = some (x, ps) → (x == ("__debug__" : Str)) = false ∧ ∃ f fd, X.mg x = some (.ref f) ∧ PySem.W.keepIn X.K (.ref f) = true ∧ Binds X.K fd ps [] ∧
    FnG X.prog X.w X.K X.mg X.base k f fd ps (spC X.K call i ps.length) ∧ ∀ n ks pm, (i, n, ks) ∈ ci.kw → kwPm ps ks n = some pm → KB X.K fd ps n ks pm

section
variable {X : Cx} {ci : CI} {k : Nat} {call : Nat → List D → Sto → R DL}
theorem no_star {N : List Str} {n : Nat} {sc : Scope} {e : Expr} {e' : E} (h : cE ci N n sc e = some e') (es : List Expr) (env : PySem.Env) : starEach (e :: es) env = (false, eval e env) :: starEach es env := by
  cases e <;> first | rfl | (cases n <;> simp [cE] at h)
theorem no_star2 {N : List Str} {n : Nat} {sc : Scope} {es : List Expr} {es' : Es} (h : cEs ci N n sc es = some es') (env : PySem.Env) (pos : Pos) : (backTo pos (starEach es env)).any (·.1) = false := by
  induction es generalizing n es' with
  | nil => rfl
  | cons e es ih =>
    cases n with
    | zero => simp [cEs] at h
    | succ n =>
      simp only [cEs] at h
      split at h
      · rename_i a b h1 h2
        rw [no_star h1]
        have := ih h2
        simpa [backTo] using this
      · cases h
theorem cEs_len {N : List Str} {n : Nat} {sc : Scope} {es : List Expr} {es' : Es} (h : cEs ci N n sc es = some es') : es'.len = es.length := by
  induction es generalizing n es' with
  | nil => cases n <;> simp [cEs] at h; rw [← h]; rfl
  | cons e es ih =>
    cases n with
    | zero => simp [cEs] at h
    | succ n =>
      simp only [cEs] at h
      split at h
      · rename_i a b h1 h2
        cases h
        simp only [Es.len, List.length_cons, ih h2]
      · cases h
theorem rd_mono {K : PySem.W.Frag} {e : E} {σ : L2.St} {H : Hp} {Q Q' : VK} (w : ∀ x H1, Q x H1 → Q' x H1) (h : rd K call e σ H Q) : rd K call e σ H Q' := by
  obtain ⟨Z, C, ρ, st, re, er, h⟩ := h
  refine ⟨Z, C, ρ, st, re, er, ?_⟩
  cases hr : evalE call e ρ st with
  | ok x s => rw [hr] at h; exact fun v Z' H' S m o => w _ _ (h v Z' H' S m o)
  | ex _ _ _ => rw [hr] at h; exact h
  | no => rw [hr] at h; exact h
/-- a test whose value is a bool -/
theorem pt_plain {e : Expr} {e' : E} (h : PE X e (rd X.K call e')) (he : ∀ whole, isTrue e X.env whole = (do let v ← whole; standAt e.pos; holding [v] (truthy v))) : PT X e (rdb X.K call e') := (pt_val h he).weak fun _ _ _ q => rdb_rd q
theorem pt_ife {c a b : Expr} {tc ta tb : TT} {pos : Pos} (hc : PT X c tc) (ha : PT X a ta) (hb : PT X b tb) : PT X (.IfExp c a b pos) (fun σ H Q => tc σ H fun k H1 => if k = true then ta σ H1 Q else tb σ H1 Q) := by
  refine ⟨fun pins s σ H Q I h => ?_⟩
  show wpAny _ X.A (do if ← isTrue c X.env (eval c X.env) then isTrue a X.env (eval a X.env) else isTrue b X.env (eval b X.env)) _ _ s
  refine wpAny_bind (thn (hc.run pins s σ H _ I h) fun k s1 ⟨H1, I1, q⟩ => ?_)
  cases k with
  | true => simp only [if_true] at q ⊢; exact ha.run pins s1 σ H1 Q I1 q
  | false => simp only [Bool.false_eq_true, if_false] at q ⊢; exact hb.run pins s1 σ H1 Q I1 q
theorem b_ife {K : PySem.W.Frag} {c a b : E} {σ : L2.St} {H : Hp} {Q : Bool → Hp → Prop} (h : rdb K call (.ife c a b) σ H Q) : rdb K call c σ H fun k H1 => if k = true then rdb K call a σ H1 Q else rdb K call b σ H1 Q := by
  obtain ⟨Z, C, ρ, st, re, er, h⟩ := h
  simp only [evalE] at h
  refine ⟨Z, C, ρ, st, re, er, ?_⟩
  cases hr : evalE call c ρ st with
  | ok y s =>
    simp only [hr, bind_ok] at h ⊢
    cases e : bool? y with
    | none => simp only [e] at h; exact h.elim
    | some b =>
      simp only [e, of_some] at h ⊢
      intro Z1 H1 m1
      cases b with
      | true => simp only [if_true]; exact ⟨Z1, C, ρ, s, m1.re, er.to m1.p.z, wrB_seq m1 h⟩
      | false => simp only [Bool.false_eq_true, if_false]; exact ⟨Z1, C, ρ, s, m1.re, er.to m1.p.z, wrB_seq m1 h⟩
  | ex _ _ _ => simp only [hr, bind_ex] at h; exact h.elim
  | no => simp only [hr, bind_no] at h; exact h.elim

/-! ### names, constants -/
theorem pe_name {N : List Str} {sc : Scope} {x : Str} {e' : E} {pos : Pos} (g : Gd ci k call X) (hN : X.N = N) (hs : X.env.scope = sc) (h : cName ci N sc x = some e') : PE X (.Name x pos) (rd X.K call e') := by
  unfold cName at h
  split at h
  · rename_i hx
    unfold nameOk at hx
    simp only [Bool.and_eq_true, beq_iff_eq] at hx
    have lv : ∀ i : Nat, ixOf N x = some i → Vis X.env.scope x → PE X (.Name x pos) (rd X.K call (.var i)) := fun i hi hv =>
      (pe_var (by rw [hN]; exact ixOf_get hi) hv hx.1 hx.2).weak fun _ _ _ q => s_var q
    split at h
    · rename_i hl
      obtain ⟨i, hi, rfl⟩ := Option.map_eq_some_iff.mp h
      exact lv i hi (.inl (by rw [hs]; exact hl))
    · rename_i hl
      obtain ⟨i, hi, rfl⟩ := Option.map_eq_some_iff.mp h
      exact lv i hi (.inr (.inl (by rw [hs]; exact hl)))
    · rename_i hl
      obtain ⟨i, hi, rfl⟩ := Option.map_eq_some_iff.mp h
      exact lv i hi (.inr (.inr (by rw [hs]; exact hl)))
    · rename_i hl
      obtain ⟨d, hd, rfl⟩ := Option.map_eq_some_iff.mp h
      obtain ⟨sc1, u, hu, ru⟩ := g.gl x d hd
      refine (pe_glob (show X.env.kindOf x = some .globalImplicit by show X.env.scope.names.lookup x = _; rw [hs]; exact hl) hu ru hx.1).weak fun σ H Q q => s_glo (fun Z C => ?_) q
      cases d <;> first | exact .non | exact .bl _ | exact .int _ | exact .str _ | cases sc1
    · cases h
  · cases h
theorem pe_const {c : Const} {d : D} {j : Nat} {pos : Pos} (h : cConst c = some d) : PE X (.Constant c j pos) (rd X.K call (.con d)) := by
  cases c <;> first | cases h | skip
  · exact pe_non.weak fun _ _ _ q => s_con rfl q
  · exact pe_bl.weak fun _ _ _ q => s_con rfl q
  · exact pe_int.weak fun _ _ _ q => s_con rfl q
  · exact pe_str.weak fun _ _ _ q => s_con rfl q
theorem gl_of {sc : Scope} {x : Str} (hs : X.env.scope = sc) (h : isGl sc x = true) : Gl X x := by
  show X.env.scope.names.lookup x = _
  rw [hs]
  exact beq_iff_eq.mp h
theorem or_op {op : Operator} {o : Bo} (h : bOp op = some o) : OpR X (binaryOp op) (rBo X.K o) := by
  cases op <;> first | cases h | skip
  · exact op_addI
  · exact op_subI
  · exact op_mulI
  · exact op_modI
  · exact op_powI
  · exact op_fdivI
theorem or_cmp (hu : X.A.units + 100 < cLine) (op : CmpOp) : OpR X (compareOp op) (rCo X.K (cOp op)) := by
  cases op
  · exact op_eqI (by omega)
  · exact op_neI (by omega)
  · exact op_ltI
  · exact op_leI
  · exact op_gtI
  · exact op_geI
  · exact op_isI
  · exact op_isnI
  · exact op_inI (by omega)
  · exact op_ninI (by omega)
theorem plainIx {N : List Str} {n : Nat} {sc : Scope} {b : Expr} {b' : E} (h : cE ci N n sc b = some b') : PlainIx b := by
  cases b <;> first | exact fun _ _ => rfl | (cases n <;> simp [cE] at h)

/-! ### types -/
theorem pe_ty {sc : Scope} {e : Expr} {t : Ty} (g : Gd ci k call X) (hs : X.env.scope = sc) (h : tyOf1 sc e = some t) : PE X e (tC (.ty t.n)) := by
  cases e <;> first | cases h | skip
  rename_i x pos
  simp only [tyOf1] at h
  split at h
  · rename_i hg
    have b := gl_of hs hg
    split at h
    · rename_i e; cases h; subst e; exact pe_bltn (u := .type "int") b (g.blt _ (by decide)) (by decide +kernel) rfl
    · split at h
      · rename_i e; cases h; subst e; exact pe_bltn (u := .type "bool") b (g.blt _ (by decide)) (by decide +kernel) rfl
      · split at h
        · rename_i e; cases h; subst e; exact pe_bltn (u := .type "list") b (g.blt _ (by decide)) (by decide +kernel) rfl
        · split at h
          · rename_i e; cases h; subst e; exact pe_bltn (u := .type "tuple") b (g.blt _ (by decide)) (by decide +kernel) rfl
          · split at h
            · rename_i e; cases h; subst e; exact pe_bltn (u := .type "str") b (g.blt _ (by decide)) (by decide +kernel) rfl
            · split at h
              · rename_i e; cases h; subst e; exact pe_bltn (u := .type "dict") b (g.blt _ (by decide)) (by decide +kernel) rfl
              · cases h
  · cases h
theorem star_ty {sc : Scope} {e : Expr} {t : Ty} (h : tyOf1 sc e = some t) (es : List Expr) (env : PySem.Env) : starEach (e :: es) env = (false, eval e env) :: starEach es env := by
  cases e <;> first | rfl | cases h
theorem pa_tys {sc : Scope} (g : Gd ci k call X) (hs : X.env.scope = sc) : ∀ {es : List Expr} {ts : List Ty}, tysOf sc es = some ts → PA X es (fun _ H Q => Q (ts.map fun t => V.ty t.n) H)
  | [], ts, h => by cases h; exact pa_nil
  | e :: es, ts, h => by
    simp only [tysOf] at h
    split at h
    · rename_i t ts' h1 h2
      cases h
      exact (pa_cons (pe_ty g hs h1) (pa_tys g hs h2) (star_ty h1 es X.env)).weak fun _ _ _ q => q
    · cases h
theorem tys_len : ∀ {sc : Scope} {es : List Expr} {ts : List Ty}, tysOf sc es = some ts → ts.length = es.length
  | _, [], ts, h => by cases h; rfl
  | sc, e :: es, ts, h => by
    simp only [tysOf] at h
    split at h
    · rename_i t ts' h1 h2
      cases h
      simp only [List.length_cons, tys_len h2]
    · cases h
theorem kit_one {K : PySem.W.Frag} {t c : Value} {b : Bool} (h : PySem.W.kitAny K t [c] = some b) : PySem.W.kitOne K t c = some b := by
  unfold PySem.W.kitAny at h
  cases e : PySem.W.kitOne K t c with
  | none => rw [e] at h; cases h
  | some v =>
    rw [e] at h
    cases v with
    | true => exact h
    | false => exact h
theorem pe_isi1 {sc : Scope} {a t : Expr} {a' : E} {ty : Ty} {p pos : Pos} (g : Gd ci k call X) (hs : X.env.scope = sc) (hg : Gl X "isinstance") (ha : PE X a (rd X.K call a')) (ht : tyOf1 sc t = some ty)
    (na : ∀ es, starEach (a :: es) X.env = (false, eval a X.env) :: starEach es X.env) : PE X (.Call (.Name "isinstance" p) [a, t] [] pos) (rd X.K call (.isi a' [ty])) := by
  refine (pe_callB call_isi hg (g.blt _ (by decide)) (by decide +kernel) (pa_cons ha (pa_cons (pe_ty g hs ht) pa_nil (star_ty ht _ _)) (na _)) (by decide) (by decide) (na _) (by rw [star_ty ht]; rfl)).weak fun σ H Q q => ?_
  have := s_isi q (by simp)
  refine rd_mono ?_ this
  rintro x H1 ⟨t, b, h1, h2, _, h4⟩
  exact ⟨x, .ty ty.n, .type t, .type ty.n, b, rfl, .ty _, h1, kit_one h2, h4⟩
theorem pe_isiN {sc : Scope} {a : Expr} {ts : List Expr} {a' : E} {tys : List Ty} {p pos tp : Pos} {kk : Nat} (g : Gd ci k call X) (hs : X.env.scope = sc) (hg : Gl X "isinstance") (ha : PE X a (rd X.K call a')) (ht : tysOf sc ts = some tys) (h0 : tys ≠ [])
    (hl : tys.length ≤ 1000) (na : ∀ es, starEach (a :: es) X.env = (false, eval a X.env) :: starEach es X.env) : PE X (.Call (.Name "isinstance" p) [a, .Tuple ts kk tp] [] pos) (rd X.K call (.isi a' tys)) := by
  refine (pe_callB call_isiT hg (g.blt _ (by decide)) (by decide +kernel) (pa_cons ha (pa_cons (pe_tup (pa_tys g hs ht)) pa_nil) (na _)) (by decide) (by decide) (na _) (by rfl)).weak fun σ H Q q => ?_
  have := s_isi q h0
  refine rd_mono ?_ this
  rintro x H1 ⟨t, b, h1, h2, h3, h4⟩
  refine ⟨by rw [List.length_map]; exact Nat.le_trans hl (by decide), fun tp hp => ?_⟩
  have cl : ∀ ts : List Ty, Paired ClsV (ts.map fun t => V.ty t.n) (ts.map fun t => Value.type t.n) := by
    intro ts
    induction ts with
    | nil => exact .nil
    | cons t r ih => exact .cons (.ty _) ih
  refine ⟨x, tp, tys.map fun t => V.ty t.n, .type t, tys.map fun t => .type t.n, b, rfl, upd_same, cl tys, ?_, h2, h3 tp hp⟩
  -- the type of x, in the heap with the tuple laid
  cases h1 with
  | base hb =>
    refine .base ?_
    cases hb with
    | non => exact .non
    | bl x => exact .bl x
    | int x => exact .int x
    | str x => exact .str x
    | flt x => exact .flt x
    | lst e => exact .lst (by rw [upd_ne (ne_of_none e hp)]; exact e)
    | frz e => exact .frz (by rw [upd_ne (ne_of_none e hp)]; exact e)
    | tup e => exact .tup (by rw [upd_ne (ne_of_none e hp)]; exact e)
    | dK e => exact .dK (by rw [upd_ne (ne_of_none e hp)]; exact e)
    | dT e => exact .dT (by rw [upd_ne (ne_of_none e hp)]; exact e)
  | byt b => exact .byt b
  | set e => exact .set (by rw [upd_ne (ne_of_none e hp)]; exact e)
  | kList e c => exact .kList e c
  | kTuple e c => exact .kTuple e c
  | kDict e c => exact .kDict e c
  | fTuple e => exact .fTuple (by rw [upd_ne (ne_of_none e hp)]; exact e)
  | fDict e => exact .fDict (by rw [upd_ne (ne_of_none e hp)]; exact e)

/-! ### built-ins -/
theorem bi_repr (hg : X.A.guards = some []) (hu : X.A.units + 100 < cLine) : CallR X (.builtin "repr") (rArg X.K fun _ => reprD) := by
  intro pins s σ H xs us Q I r ⟨Z0, C, H0, Z, st, as, S, m, o, h⟩
  dsimp only at h
  unfold reprD at h
  split at h
  · rename_i d l
    cases hp : d.py with
    | none => rw [hp] at h; exact h.elim
    | some p =>
      rw [hp] at h
      simp only [Option.bind_some] at h
      split at h
      · rename_i hk
        unfold reprOk at hk
        simp only [Bool.and_eq_true, Bool.not_eq_true', decide_eq_true_eq] at hk
        obtain ⟨⟨⟨⟨h1, h2⟩, h3⟩, h4⟩, h5⟩ := hk
        obtain ⟨v, rfl, ow⟩ := o.one
        have i := m.frozen ow fun a ha => ha
        have dp := dp_mono m.froz.1.re.ex (i.dp hp)
        obtain ⟨u, rfl, ru⟩ := vals1 r
        obtain ⟨ad, rd⟩ := Dp.reads I p v u dp ru
        obtain ⟨a, rfl⟩ := isRef_of_reads rd h5
        exact repr_of_reads' rd h1 (PyData.noDict_hsm h2) hg (by omega) (fun _ _ e => e) (fun h' u tk hk => ⟨.str p.shown, H, I.kept hk, ⟨_, rfl⟩, wr_str m h⟩) h3
      · exact h.elim
  · exact h.elim
theorem bltOf_is {f : Str} {n : Nat} {b : Bi} (h : bltOf f n = some b) : (b = .len ∧ f = "len") ∨ (b = .sum ∧ f = "sum") ∨ (b = .max ∧ f = "max") ∨ (b = .min ∧ f = "min") ∨ (b = .max2 ∧ f = "max") ∨ (b = .min2 ∧ f = "min") ∨ (b = .abs ∧ f = "abs") ∨
    (b = .int ∧ f = "int") ∨ (b = .list ∧ f = "list") ∨ (b = .tuple ∧ f = "tuple") ∨ (b = .sorted ∧ f = "sorted") ∨ (b = .repr ∧ f = "repr") ∨ (b = .sumf ∧ f = "sum") := by
  have m := bltGo_mem h
  unfold bltTab at m
  rcases List.mem_cons.mp m with e | m
  · cases e; exact .inl ⟨rfl, rfl⟩
  rcases List.mem_cons.mp m with e | m
  · cases e; exact .inr (.inl ⟨rfl, rfl⟩)
  rcases List.mem_cons.mp m with e | m
  · cases e; exact .inr (.inr (.inl ⟨rfl, rfl⟩))
  rcases List.mem_cons.mp m with e | m
  · cases e; exact .inr (.inr (.inr (.inl ⟨rfl, rfl⟩)))
  rcases List.mem_cons.mp m with e | m
  · cases e; exact .inr (.inr (.inr (.inr (.inl ⟨rfl, rfl⟩))))
  rcases List.mem_cons.mp m with e | m
  · cases e; exact .inr (.inr (.inr (.inr (.inr (.inl ⟨rfl, rfl⟩)))))
  rcases List.mem_cons.mp m with e | m
  · cases e; exact .inr (.inr (.inr (.inr (.inr (.inr (.inl ⟨rfl, rfl⟩))))))
  rcases List.mem_cons.mp m with e | m
  · cases e; exact .inr (.inr (.inr (.inr (.inr (.inr (.inr (.inl ⟨rfl, rfl⟩)))))))
  rcases List.mem_cons.mp m with e | m
  · cases e; exact .inr (.inr (.inr (.inr (.inr (.inr (.inr (.inr (.inl ⟨rfl, rfl⟩))))))))
  rcases List.mem_cons.mp m with e | m
  · cases e; exact .inr (.inr (.inr (.inr (.inr (.inr (.inr (.inr (.inr (.inl ⟨rfl, rfl⟩)))))))))
  rcases List.mem_cons.mp m with e | m
  · cases e; exact .inr (.inr (.inr (.inr (.inr (.inr (.inr (.inr (.inr (.inr (.inl ⟨rfl, rfl⟩))))))))))
  rcases List.mem_cons.mp m with e | m
  · cases e; exact .inr (.inr (.inr (.inr (.inr (.inr (.inr (.inr (.inr (.inr (.inr (.inl ⟨rfl, rfl⟩)))))))))))
  rcases List.mem_cons.mp m with e | m
  · cases e; exact .inr (.inr (.inr (.inr (.inr (.inr (.inr (.inr (.inr (.inr (.inr (.inr ⟨rfl, rfl⟩)))))))))))
  cases m
theorem pe_blt {f : Str} {args : List Expr} {as : Es} {b : Bi} {p pos : Pos} (g : Gd ci k call X) (hg : Gl X f) (hb : bltOf f args.length = some b) (ha : PA X args (rds X.K call as)) (hne : args ≠ []) (na : ∀ e es, args = e :: es → starEach (e :: es) X.env = (false, eval e X.env) :: starEach es X.env)
    (np : ∀ e es, args = e :: es → (backTo pos (starEach es X.env)).any (·.1) = false) : PE X (.Call (.Name f p) args [] pos) (rd X.K call (.bi b as)) := by
  obtain ⟨e, es, rfl⟩ : ∃ e es, args = e :: es := by
    cases args with
    | nil => exact absurd rfl hne
    | cons e es => exact ⟨e, es, rfl⟩
  have na' := na e es rfl
  have np' := np e es rfl
  have B : ∀ {id : String} {f' : Str} {Bx : Bi}, CallR X (.builtin id) (rArg X.K fun st => biD st Bx) → f = f' → bootBuiltins f' = some (.builtin id) → f' ∈ bltNames → f' ≠ "__name__" → (f' == ("__debug__" : Str)) = false →
      PE X (.Call (.Name f p) (e :: es) [] pos) (rd X.K call (.bi Bx as)) := by
    intro id f' Bx hc hf hv hm hn hd
    subst hf
    exact (pe_callB hc hg (g.blt _ hm) hv ha hn hd na' np').weak fun σ H Q q => s_bi q
  have T : ∀ {id : String} {f' : Str} {Bx : Bi}, CallR X (.type id) (rArg X.K fun st => biD st Bx) → f = f' → bootBuiltins f' = some (.type id) → f' ∈ bltNames → f' ≠ "__name__" → (f' == ("__debug__" : Str)) = false →
      PE X (.Call (.Name f p) (e :: es) [] pos) (rd X.K call (.bi Bx as)) := by
    intro id f' Bx hc hf hv hm hn hd
    subst hf
    exact (pe_callTy hc hg (g.blt _ hm) hv ha hn hd na' np').weak fun σ H Q q => s_bi q
  rcases bltOf_is hb with ⟨rfl, h⟩ | ⟨rfl, h⟩ | ⟨rfl, h⟩ | ⟨rfl, h⟩ | ⟨rfl, h⟩ | ⟨rfl, h⟩ | ⟨rfl, h⟩ | ⟨rfl, h⟩ | ⟨rfl, h⟩ | ⟨rfl, h⟩ | ⟨rfl, h⟩ | ⟨rfl, h⟩ | ⟨rfl, h⟩
  · exact B (Bx := .len) bi_len h (by decide +kernel) (by decide) (by decide) (by decide)
  · exact B (Bx := .sum) (bi_sum g.calm) h (by decide +kernel) (by decide) (by decide) (by decide)
  · exact B (Bx := .max) (bi_max g.calm) h (by decide +kernel) (by decide) (by decide) (by decide)
  · exact B (Bx := .min) (bi_min g.calm) h (by decide +kernel) (by decide) (by decide) (by decide)
  · exact B (Bx := .max2) (bi_max2 g.calm) h (by decide +kernel) (by decide) (by decide) (by decide)
  · exact B (Bx := .min2) (bi_min2 g.calm) h (by decide +kernel) (by decide) (by decide) (by decide)
  · exact B (Bx := .abs) bi_abs h (by decide +kernel) (by decide) (by decide) (by decide)
  · exact T (Bx := .int) bi_int h (by decide +kernel) (by decide) (by decide) (by decide)
  · exact T (Bx := .list) bi_list h (by decide +kernel) (by decide) (by decide) (by decide)
  · exact T (Bx := .tuple) bi_tuple h (by decide +kernel) (by decide) (by decide) (by decide)
  · exact B (Bx := .sorted) bi_sorted h (by decide +kernel) (by decide) (by decide) (by decide)
  · exact B (Bx := .repr) (bi_repr g.gd g.un) h (by decide +kernel) (by decide) (by decide) (by decide)
  · exact B (Bx := .sumf) (bi_sumf g.calm) h (by decide +kernel) (by decide) (by decide) (by decide)
theorem pe_lrg {a : Expr} {a' : E} {p p2 pos pos2 : Pos} (g : Gd ci k call X) (hl : Gl X "list") (hr : Gl X "range") (ha : PE X a (rd X.K call a')) (na : starEach [a] X.env = (false, eval a X.env) :: starEach [] X.env) :
    PE X (.Call (.Name "list" p) [.Call (.Name "range" p2) [a] [] pos2] [] pos) (rd X.K call (.lsr (.rng1 a'))) := by
  refine (pe_listRg g.calm hl (g.blt _ (by decide)) (prg_1 hr (g.blt _ (by decide)) ha na)).weak fun σ H Q q => ?_
  obtain ⟨Z, C, ρ, st, re, er, h⟩ := q
  simp only [evalE, evalSr] at h
  refine ⟨Z, C, ρ, st, re, er, ?_⟩
  cases hr : evalE call a' ρ st with
  | ex _ _ _ => rw [hr] at h; exact h.elim
  | no => rw [hr] at h; exact h.elim
  | ok x s =>
    rw [hr] at h
    obtain ⟨d, l⟩ := x
    intro v Z1 H1 S1 m1 o1
    cases d <;> first | exact h.elim | skip
    rename_i n
    obtain ⟨rfl, rfl⟩ := ow_int o1
    simp only [bind_ok] at h
    split at h
    · rename_i hn
      have hm : (most : Int) = 100000 := rfl
      simp only [bind_ok] at h
      have hf : D.flatL (rngD 0 n) = true := by
        unfold rngD
        generalize List.range (n - 0).toNat = r
        induction r with
        | nil => rfl
        | cons i r ih => simp only [List.map_cons, D.flatL, D.flat, Bool.true_and]; exact ih
      rw [if_pos hf] at h
      refine ⟨n, rfl, ⟨by omega, by omega, by omega, by omega, by omega⟩, fun q hq => ?_⟩
      have il : OwL X.K Z1 C H1 [] (rgV 0 n) (rngD 0 n) := isl_flat rgV_is hf
      obtain ⟨Z', S', m', o'⟩ := new_lst (L := 2) m1 il.toV (List.Sublist.refl _) (by rw [rgV_length]; exact Nat.le_trans (show (n - 0).toNat ≤ 200000 by omega) (by decide)) hq (.inr ⟨rfl, fun x hx => by
        obtain ⟨d, _, rfl⟩ := List.mem_map.mp hx
        exact .inl rfl⟩)
      rw [List.map_map] at o'
      have e : ((fun x : DL => x.1) ∘ fun d : D => (d, 2)) = id := rfl
      rw [e, List.map_id] at o'
      exact h _ _ _ _ m' o'
    · exact h.elim

/-! ### calls -/
theorem permD_map : ∀ (pm : List Nat) (xs : List DL), (permD pm xs).map (fun ys => ys.map (·.1)) = permV pm (xs.map (·.1))
  | [], _ => rfl
  | i :: r, xs => by
    have ih := permD_map r xs
    unfold permD at ih ⊢
    simp only [permV, List.getElem?_map]
    rw [← ih]
    cases xs[i]? with
    | none => rfl
    | some x => cases permV r xs <;> rfl
theorem permV_is {K : PySem.W.Frag} {Z : Hp} {C : List Addr} {vs : List V} {ds : List D} (il : IsL K Z C vs ds) : ∀ {pm : List Nat} {es : List D}, permV pm ds = some es → ∃ ws, permV pm vs = some ws ∧ IsL K Z C ws es
  | [], es, h => by cases h; exact ⟨[], rfl, .nil⟩
  | i :: r, es, h => by
    simp only [permV] at h
    split at h
    · cases h
    · rename_i x h1
      obtain ⟨ys, h2, rfl⟩ := Option.map_eq_some_iff.mp h
      obtain ⟨ws, e1, e2⟩ := permV_is il h2
      obtain ⟨v, e3, e4⟩ := il.get h1
      exact ⟨v :: ws, by simp only [permV, e3, e1]; rfl, .cons e4 e2⟩
theorem permV_vals {vs : List V} {us : List Value} (r : Vals vs us) : ∀ {pm : List Nat} {ws : List V}, permV pm vs = some ws → ∃ xs, permV pm us = some xs ∧ Vals ws xs
  | [], ws, h => by cases h; exact ⟨[], rfl, .nil⟩
  | i :: q, ws, h => by
    simp only [permV] at h
    split at h
    · cases h
    · rename_i x h1
      obtain ⟨ys, h2, rfl⟩ := Option.map_eq_some_iff.mp h
      obtain ⟨xs, e1, e2⟩ := permV_vals r h2
      obtain ⟨u, e3, e4⟩ := r.get h1
      exact ⟨u :: xs, by simp only [permV, e3, e1]; rfl, .cons e4 e2⟩
theorem permV_len {α : Type} {xs : List α} : ∀ {pm : List Nat} {ys : List α}, permV pm xs = some ys → ys.length = pm.length
  | [], ys, h => by cases h; rfl
  | i :: q, ws, h => by
    simp only [permV] at h
    split at h
    · cases h
    · obtain ⟨ys, h2, rfl⟩ := Option.map_eq_some_iff.mp h
      simp only [List.length_cons, permV_len h2]
/-- what a keyword call asks: the promise at the values laid by pm -/
def tCallP (sp : Sp) (pm : List Nat) (t tk : TA) : TE := fun σ H Q => t σ H fun vs H1 => tk σ H1 fun zs H2 => ∃ ys, permV pm (vs ++ zs) = some ys ∧ sp ys H2 Q L2.E0
theorem run_kb {f : Addr} {fd : FuncData} {ps ks : List Str} {n : Nat} {pm : List Nat} {sp : Sp} {pins : List (Addr × Obj)} {σ : L2.St} {H : Hp} {s : Shared} {Q : VK} {us ws : List Value} {vs zs ys : List V}
    (F : FnG X.prog X.w X.K X.mg X.base k f fd ps sp) (hg : X.A.guards = some []) (hr : Room k X.A) (hl : ys.length = ps.length) (hb : KB X.K fd ps n ks pm) (I : Inv X pins σ H s) (r : Vals vs us) (rz : Vals zs ws) (h1 : vs.length = n) (h2 : zs.length = ks.length) (hp : permV pm (vs ++ zs) = some ys) (h : sp ys H Q L2.E0) :
    wpAny (model X.prog X.w) X.A (PySem.call (.ref f) us (ks.zip ws)) (EP X pins σ Q) X.xe s := by
  obtain ⟨xs, e1, e2⟩ := permV_vals (r.append rz) hp
  refine wpAny_call (codeAny_mono (F.go X.A X.stack s H ⟨us, ks.zip ws⟩ xs ys Q hg hr I.env0 (hb s us ws xs I.kIn (by rw [← r.length]; exact h1) (by rw [← rz.length]; exact h2) e1) e2 hl h) fun rr s' hq => ?_)
  cases rr with
  | error e => exact False.elim hq
  | ok fl =>
    cases fl with
    | ret u => exact I.after hq
    | next => exact False.elim hq
    | brk => exact False.elim hq
    | cont => exact False.elim hq
theorem run_pl {f : Addr} {fd : FuncData} {ps : List Str} {sp : Sp} {pins : List (Addr × Obj)} {σ : L2.St} {H : Hp} {s : Shared} {Q : VK} {us : List Value} {vs : List V}
    (F : FnG X.prog X.w X.K X.mg X.base k f fd ps sp) (hg : X.A.guards = some []) (hr : Room k X.A) (hb : Binds X.K fd ps []) (I : Inv X pins σ H s) (r : Vals vs us) (hl : vs.length = ps.length) (h : sp vs H Q L2.E0) :
    wpAny (model X.prog X.w) X.A (PySem.call (.ref f) us) (EP X pins σ Q) X.xe s := by
  have b := hb s us I.kIn (by rw [List.append_nil, ← r.length]; exact hl)
  rw [List.append_nil] at b
  refine wpAny_call (codeAny_mono (F.go X.A X.stack s H ⟨us, []⟩ us vs Q hg hr I.env0 b r hl h) fun rr s' hq => ?_)
  match rr, hq with
  | .error e, hq => exact False.elim hq
  | .ok (.ret u), hq => exact I.after hq
  | .ok .next, hq => exact False.elim hq
  | .ok .brk, hq => exact False.elim hq
  | .ok .cont, hq => exact False.elim hq
theorem s_callk {K : PySem.W.Frag} {f np : Nat} {pm : List Nat} {as bs : Es} {σ : L2.St} {H : Hp} {Q : VK} (hn : pm.length = np) (h : rd K call (.callk f pm as bs) σ H Q) : tCallP (spC K call f np) pm (rds K call as) (rds K call bs) σ H Q := by
  obtain ⟨Z, C, ρ, st, re, er, h⟩ := h
  simp only [evalE] at h
  refine ⟨Z, C, ρ, st, re, er, wrL_bind out_wr h fun xs st1 h vs Z1 H1 S1 m1 o1 => ?_⟩
  obtain ⟨mf, ef⟩ := m1.froz
  have i1 := o1.froz ef fun a ha => frz_in ha
  refine ⟨_, C, ρ, st1, mf.re, (er.to m1.p.z).to ef, wrL_bind out_wr h fun ys st2 h ws Z2 H2 S2 m2 o2 => ?_⟩
  obtain ⟨mg, eg⟩ := m2.froz
  have i2 := o2.froz eg fun a ha => frz_in ha
  have i := (i1.to (m2.p.z.trans eg)).append i2
  rw [← List.map_append] at i
  cases hp : permD pm (xs ++ ys) with
  | none => rw [hp] at h; exact h.elim
  | some zs =>
    rw [hp] at h
    have e1 := permD_map pm (xs ++ ys)
    rw [hp] at e1
    obtain ⟨us, e2, e3⟩ := permV_is i e1.symm
    refine ⟨us, e2, by rw [permV_len e2, hn], _, C, zs.map (fun x => x.1), st2, mg.re, e3, ?_⟩
    have h' : Wr K (call f (zs.map fun x => x.1) st2) Z C H Q := h
    have m3 := mf.seq mg
    exact wr_seq m3 h'
end
end IX
/-! IXk: every compiled expression keeps the interpreter's word. Own work. -/
namespace IX
open PySem PySem.Spec PyProof.Rows L2 Evl

section
variable {X : Cx} {ci : CI} {k : Nat} {call : Nat → List D → Sto → R DL} {N : List Str}
structure CtX (ci : CI) (k : Nat) (call : Nat → List D → Sto → R DL) (N : List Str) (sc : Scope) (X : Cx) : Prop where
  hN : X.N = N
  hs : X.env.scope = sc
  g : Gd ci k call X
/-! ### targets -/
theorem tg_star {ok : Str → Bool} {n : Nat} {e : Expr} {t : Tg} (h : cTg N ok n e = some t) (es : List Expr) (env : PySem.Env) : assignEach (e :: es) env = (false, assign e env) :: assignEach es env := by
  cases e <;> first | rfl | (cases n <;> simp [cTg] at h)
theorem tgs_len {ok : Str → Bool} : ∀ {n : Nat} {es : List Expr} {ts : List Tg}, cTgs N ok n es = some ts → ts.length = es.length
  | 0, _, _, h => by simp [cTgs] at h
  | n + 1, [], ts, h => by simp only [cTgs] at h; cases h; rfl
  | n + 1, e :: es, ts, h => by
    simp only [cTgs] at h
    split at h
    · rename_i t ts' h1 h2
      cases h
      simp only [List.length_cons, tgs_len h2]
    · cases h
mutual
theorem pg_tg {ok : Str → Bool} (hN : X.N = N) (nd : X.N.Nodup) (hc : X.calm = true) (hok : ∀ x, ok x = true → Loc X.env.scope x ∧ (X.fn x = true ∨ X.env.scope.names.lookup x = some .local)) :
    ∀ {n : Nat} {e : Expr} {t : Tg}, cTg N ok n e = some t → PG X e (gT X.K t)
  | 0, _, _, h => by simp [cTg] at h
  | n + 1, .Name x pos, t, h => by
    simp only [cTg] at h
    split at h
    · rename_i hx
      obtain ⟨i, hi, rfl⟩ := Option.map_eq_some_iff.mp h
      exact pg_name nd (by rw [hN]; exact ixOf_get hi) (hok x hx).1 (hok x hx).2
    · cases h
  | n + 1, .Tuple es kk pos, t, h => by
    simp only [cTg] at h
    obtain ⟨ts, hts, rfl⟩ := Option.map_eq_some_iff.mp h
    obtain ⟨p, q, r⟩ := pgs_tg hN nd hc hok hts
    exact pg_tup hc p (by rw [q, tgs_len hts]) r
  | n + 1, .BoolOp _ _ _, t, h => by simp [cTg] at h
  | n + 1, .NamedExpr _ _ _, t, h => by simp [cTg] at h
  | n + 1, .BinOp _ _ _ _, t, h => by simp [cTg] at h
  | n + 1, .UnaryOp _ _ _, t, h => by simp [cTg] at h
  | n + 1, .Lambda _ _ _ _, t, h => by simp [cTg] at h
  | n + 1, .IfExp _ _ _ _, t, h => by simp [cTg] at h
  | n + 1, .Dict _ _ _, t, h => by simp [cTg] at h
  | n + 1, .Set _ _ _, t, h => by simp [cTg] at h
  | n + 1, .ListComp _ _ _ _, t, h => by simp [cTg] at h
  | n + 1, .SetComp _ _ _ _, t, h => by simp [cTg] at h
  | n + 1, .DictComp _ _ _ _ _, t, h => by simp [cTg] at h
  | n + 1, .GeneratorExp _ _ _ _, t, h => by simp [cTg] at h
  | n + 1, .Await _ _, t, h => by simp [cTg] at h
  | n + 1, .Yield _ _, t, h => by simp [cTg] at h
  | n + 1, .YieldFrom _ _, t, h => by simp [cTg] at h
  | n + 1, .Compare _ _ _ _, t, h => by simp [cTg] at h
  | n + 1, .Call _ _ _ _, t, h => by simp [cTg] at h
  | n + 1, .FormattedValue _ _ _ _, t, h => by simp [cTg] at h
  | n + 1, .JoinedStr _ _, t, h => by simp [cTg] at h
  | n + 1, .Constant _ _ _, t, h => by simp [cTg] at h
  | n + 1, .Attribute _ _ _, t, h => by simp [cTg] at h
  | n + 1, .Subscript _ _ _, t, h => by simp [cTg] at h
  | n + 1, .Starred _ _, t, h => by simp [cTg] at h
  | n + 1, .List _ _, t, h => by simp [cTg] at h
  | n + 1, .Slice _ _ _ _, t, h => by simp [cTg] at h
theorem pgs_tg {ok : Str → Bool} (hN : X.N = N) (nd : X.N.Nodup) (hc : X.calm = true) (hok : ∀ x, ok x = true → Loc X.env.scope x ∧ (X.fn x = true ∨ X.env.scope.names.lookup x = some .local)) :
    ∀ {n : Nat} {es : List Expr} {ts : List Tg}, cTgs N ok n es = some ts → PGs X es (gTs X.K ts) ∧ (assignEach es X.env).length = es.length ∧ (assignEach es X.env).findIdx? (·.1) = none
  | 0, _, _, h => by simp [cTgs] at h
  | n + 1, [], ts, h => by
    simp only [cTgs] at h
    cases h
    exact ⟨pgs_nil, rfl, rfl⟩
  | n + 1, e :: es, ts, h => by
    simp only [cTgs] at h
    split at h
    · rename_i t ts' h1 h2
      cases h
      obtain ⟨p, q, r⟩ := pgs_tg hN nd hc hok h2
      have st := tg_star h1 es X.env
      refine ⟨pgs_cons (pg_tg hN nd hc hok h1) p (by rw [st]; rfl), by rw [st]; simp [q], ?_⟩
      rw [st, List.findIdx?_cons]
      simp [r]
    · cases h
end

/-! ### slices -/
def rdo (K : PySem.W.Frag) (call : Nat → List D → Sto → R DL) : Es → TO
  | .nil => tNoPart
  | .cons e .nil => tPart (rd K call e)
  | .cons _ (.cons _ _) => fun _ _ _ => False
def Es.one : Es → Prop
  | .cons _ (.cons _ _) => False
  | _ => True
theorem rdo_of {K : PySem.W.Frag} {Z H : Hp} {C : List Addr} {st : Sto} {σ : L2.St} {ρ : Env} {lo : Es} {β : Type} {W : R β → Prop} (o : Out W) {f : List DL → Sto → R β} {Q : Option Int → Hp → Prop} (h1 : lo.one) (re : RE K Z C H st) (er : EnvR K Z C σ ρ)
    (h : W ((evalEs call lo ρ st).bind f)) (hi : ∀ y s, W (f y s) → ∃ i, oneI y = some i) (q : ∀ y s i, W (f y s) → oneI y = some i → ∀ Z' H' S, Md K Z C H Z' H' s S → Q i H') : rdo K call lo σ H Q := by
  cases lo with
  | nil =>
    simp only [evalEs, bind_ok] at h
    exact q [] st none h rfl Z H [] (Md.refl re)
  | cons e es =>
    cases es with
    | cons _ _ => exact h1.elim
    | nil =>
      simp only [evalEs] at h
      refine ⟨Z, C, ρ, st, re, er, ?_⟩
      cases hr : evalE call e ρ st with
      | ex _ _ _ => rw [hr] at h; exact (o.ex _ _ _ h).elim
      | no => rw [hr] at h; exact (o.no h).elim
      | ok x s =>
        rw [hr] at h
        simp only [bind_ok] at h
        intro v Z1 H1 S1 m1 o1
        obtain ⟨i, hi⟩ := hi _ _ h
        obtain ⟨d, l⟩ := x
        cases d <;> first | (simp [oneI] at hi) | skip
        rename_i j
        obtain ⟨rfl, rfl⟩ := ow_int o1
        exact ⟨j, rfl, q _ _ _ h rfl _ _ _ m1⟩
theorem s_sl {K : PySem.W.Frag} {a : E} {lo hi : Es} {σ : L2.St} {H : Hp} {Q : VK} (hl : lo.one) (hh : hi.one) (h : rd K call (.sl a lo hi) σ H Q) : tSl (rSlI K) (rd K call a) (rdo K call lo) (rdo K call hi) σ H Q := by
  obtain ⟨Z, C, ρ, st, re, er, h⟩ := h
  simp only [evalE] at h
  refine ⟨Z, C, ρ, st, re, er, wr_bind out_wr h fun x st1 h v Z1 H1 S1 m1 o1 => ?_⟩
  have nobind : ∀ {γ : Type} (r : R γ), ¬ Wr K (r.bind fun _ _ => R.no) Z C H Q := by
    intro γ r hr
    cases r <;> exact hr.elim
  refine rdo_of out_wr hl m1.re (er.to m1.p.z) h (fun y s hw => ?_) fun y s i hw hi' Z2 H2 S2 m2 => ?_
  · cases e : oneI y with
    | none => simp only [e] at hw; exact (nobind _ hw).elim
    | some i => exact ⟨i, rfl⟩
  · simp only [hi'] at hw
    refine rdo_of out_wr hh m2.re ((er.to m1.p.z).to m2.p.z) hw (fun z s3 hw3 => ?_) fun z s3 j hw3 hj Z3 H3 S3 m3 => ?_
    · cases e : oneI z with
      | none => simp only [e] at hw3; exact hw3.elim
      | some i => exact ⟨i, rfl⟩
    · simp only [hj] at hw3
      have m := (m1.seq m2.drop).seq m3.drop
      rw [List.append_nil, List.append_nil] at m
      exact ⟨Z, C, H, Z3, s3, x, S1, m, (o1.step m2.p m1.not).step m3.p m1.not, hw3⟩
theorem cO_one {n : Nat} {sc : Scope} {o : Option Expr} {es : Es} (h : cO ci N n sc o = some es) : es.one := by
  cases n with
  | zero => simp [cO] at h
  | succ n =>
    cases o with
    | none => simp only [cO] at h; cases h; exact True.intro
    | some e =>
      simp only [cO] at h
      obtain ⟨a, _, rfl⟩ := Option.map_eq_some_iff.mp h
      exact True.intro
theorem s_bits {K : PySem.W.Frag} {a : E} {σ : L2.St} {H : Hp} {Q : VK} (h : rd K call (.bi .bits (.cons a .nil)) σ H Q) : tBits (rd K call a) σ H Q := by
  obtain ⟨Z, C, ρ, st, re, er, h⟩ := h
  simp only [evalE, evalEs] at h
  refine ⟨Z, C, ρ, st, re, er, ?_⟩
  cases hr : evalE call a ρ st with
  | ex _ _ _ => rw [hr] at h; exact h.elim
  | no => rw [hr] at h; exact h.elim
  | ok x s =>
    rw [hr] at h
    obtain ⟨d, l⟩ := x
    intro v Z1 H1 S1 m1 o1
    simp only [bind_ok, biD, bitsD] at h
    cases d <;> first | exact h.elim | skip
    obtain ⟨rfl, rfl⟩ := ow_int o1
    exact ⟨_, rfl, wr_int m1 h⟩
theorem folded {n : Nat} {sc : Scope} {tg e : Expr} {s : Sr} (h : cSr ci N n sc tg e = some s) (env : PySem.Env) : ∀ x, foldedSetIterable e env x = pure x := by
  cases e <;> first | exact fun _ => rfl | (cases n <;> simp [cSr] at h)

/-! ### the theorem -/
structure Snd (ci : CI) (k : Nat) (call : Nat → List D → Sto → R DL) (N : List Str) (n : Nat) : Prop where
  pe : ∀ {sc : Scope} {e : Expr} {e' : E}, cE ci N n sc e = some e' → ∀ X, CtX ci k call N sc X → PE X e (rd X.K call e')
  pt : ∀ {sc : Scope} {e : Expr} {e' : E}, cE ci N n sc e = some e' → ∀ X, CtX ci k call N sc X → PT X e (rdb X.K call e')
  pa : ∀ {sc : Scope} {es : List Expr} {es' : Es}, cEs ci N n sc es = some es' → ∀ X, CtX ci k call N sc X → PA X es (rds X.K call es')
  pk : ∀ {sc : Scope} {ks : List Keyword} {es' : Es}, cEs ci N n sc (ks.map (·.value)) = some es' → ∀ X, CtX ci k call N sc X → PK X ks (rds X.K call es')
  ts : ∀ {sc : Scope} {es : List Expr} {es' : Es}, cEs ci N n sc es = some es' → ∀ X, CtX ci k call N sc X → PTs X es (rdT X.K call es')
  po : ∀ {sc : Scope} {o : Option Expr} {es' : Es}, cO ci N n sc o = some es' → ∀ X, CtX ci k call N sc X → PO X o (rdo X.K call es')
  bo : ∀ {sc : Scope} {op : BoolOp} {vs : List Expr} {e' : E} {pos : Pos}, cBo ci N n sc op vs = some e' → ∀ X, CtX ci k call N sc X → PE X (.BoolOp op vs pos) (rd X.K call e') ∧ PW X (.BoolOp op vs pos) (rdb X.K call e')
  sr : ∀ {sc : Scope} {tg e : Expr} {s : Sr}, cSr ci N n sc tg e = some s → ∀ X, CtX ci k call N sc X → PI X tg e (rdI X.K call s)
  ca : ∀ {sc : Scope} {f : Str} {args : List Expr} {ks : List Keyword} {e' : E} {p pos : Pos}, cCall ci N n sc f args ks = some e' → isGl sc f = true → nameOk f = true → ∀ X, CtX ci k call N sc X → PE X (.Call (.Name f p) args ks pos) (rd X.K call e')
end
end IX
/-! IXl: the induction over the compile of expressions. Own work. -/
namespace IX
open PySem PySem.Spec PyProof.Rows L2 Evl

section
variable {X : Cx} {ci : CI} {k : Nat} {call : Nat → List D → Sto → R DL} {N : List Str}
theorem CtX.blk {sc scope : Scope} (cx : CtX ci k call N sc X) (s : Shared) (H : Hp) (C : Addr) (cl : List (Str × Addr)) (fp : List Addr) :
    CtX ci k call N (relS scope sc) (X.blk s H scope (compEnvC scope cl C X.env) fp) := by
  obtain ⟨h1, h2, h3⟩ := cx
  refine ⟨h1, by rw [← h2]; rfl, h3.nd, h3.calm, h3.room, h3.gd, h3.un, h3.blt, h3.gl, h3.fn⟩
theorem stB_ok {scope : Scope} {s : Shared} {H : Hp} {C : Addr} {cl : List (Str × Addr)} {fp : List Addr} (x : Str) (h : stB scope x = true) :
    Loc (X.blk s H scope (compEnvC scope cl C X.env) fp).env.scope x ∧ ((X.blk s H scope (compEnvC scope cl C X.env) fp).fn x = true ∨ (X.blk s H scope (compEnvC scope cl C X.env) fp).env.scope.names.lookup x = some .local) := by
  unfold stB at h
  simp only [Bool.or_eq_true, beq_iff_eq] at h
  rcases h with h | h
  · have := lookup_relS_keep (sc := X.env.scope) (k := .local) (by decide) h
    exact ⟨.inl this, .inr this⟩
  · have := lookup_relS_keep (sc := X.env.scope) (k := .cell) (by decide) h
    exact ⟨.inr this, .inl (by show (scope.names.lookup x == some .cell) = true; rw [h]; rfl)⟩
theorem pt_go {sc : Scope} {n : Nat} {e : Expr} {e' : E} (h : cE ci N n sc e = some e') (p : PE X e (rd X.K call e')) (hb : ∀ op vs pos, e ≠ .BoolOp op vs pos) (hn : ∀ a pos, e ≠ .UnaryOp .Not a pos)
    (hi : ∀ c a b pos, e ≠ .IfExp c a b pos) (hc : ∀ a o b pos, e ≠ .Compare a o b pos) : PT X e (rdb X.K call e') := by
  refine pt_plain p fun whole => ?_
  cases e with
  | BoolOp op vs pos => exact absurd rfl (hb _ _ _)
  | UnaryOp op a pos =>
    cases op with
    | Not => exact absurd rfl (hn _ _)
    | _ => rfl
  | IfExp c a b pos => exact absurd rfl (hi _ _ _ _)
  | Compare a o b pos => exact absurd rfl (hc _ _ _ _)
  | _ => first | rfl | (cases n <;> simp [cE] at h)
/-- readings of the lists tell their lengths -/
theorem rds_len {K : PySem.W.Frag} {es : Es} {σ : L2.St} {H : Hp} {Q : List V → Hp → Prop} (h : rds K call es σ H Q) : rds K call es σ H fun vs H1 => Q vs H1 ∧ vs.length = es.len := by
  obtain ⟨Z, C, ρ, st, re, er, h⟩ := h
  refine ⟨Z, C, ρ, st, re, er, ?_⟩
  cases hr : evalEs call es ρ st with
  | ok xs s =>
    rw [hr] at h
    intro vs Z1 H1 S1 m1 o1
    exact ⟨h vs Z1 H1 S1 m1 o1, by rw [o1.length, evalEs_len hr]⟩
  | ex _ _ _ => rw [hr] at h; exact h.elim
  | no => rw [hr] at h; exact h.elim
theorem kw_facts : ∀ {ks : List Keyword} {xs : List Str}, kwNames ks = some xs → ∀ (pos : Pos) (env : PySem.Env),
    (backToKw pos (keywordEach ks env)).all (·.1.isSome) = true ∧ (backToKw pos (keywordEach ks env)).filterMap (·.1) = xs ∧ (backToKw pos (keywordEach ks env)).any (·.1.isNone) = false ∧ xs.length = ks.length
  | [], xs, h, pos, env => by cases h; exact ⟨rfl, rfl, rfl, rfl⟩
  | ⟨some x, v, p⟩ :: r, xs, h, pos, env => by
    simp only [kwNames] at h
    obtain ⟨ys, hy, rfl⟩ := Option.map_eq_some_iff.mp h
    obtain ⟨h1, h2, h3, h4⟩ := kw_facts hy pos env
    refine ⟨?_, ?_, ?_, by simp [h4]⟩
    · show (true && (backToKw pos (keywordEach r env)).all (·.1.isSome)) = true
      rw [h1]; rfl
    · show x :: (backToKw pos (keywordEach r env)).filterMap (·.1) = x :: ys
      rw [h2]
    · show (false || (backToKw pos (keywordEach r env)).any (·.1.isNone)) = false
      rw [h3]; rfl
  | ⟨none, v, p⟩ :: r, xs, h, _, _ => by simp [kwNames] at h
theorem nb_ok {f : Str} (h : nameOk f = true) : (f == ("__debug__" : Str)) = false := by
  unfold nameOk at h
  simp only [Bool.and_eq_true, beq_iff_eq] at h
  exact h.1
section
variable {n : Nat} {sc : Scope}
theorem head_of {e : Expr} {es : List Expr} {as : Es} (ha : cEs ci N n sc (e :: es) = some as) : ∃ a, cE ci N (n - 1) sc e = some a := by
  cases n with
  | zero => simp [cEs] at ha
  | succ n =>
    simp only [cEs] at ha
    split at ha
    · rename_i a b h1 h2
      exact ⟨a, h1⟩
    · cases ha
theorem go_blt {f : Str} {args : List Expr} {as : Es} {b : Bi} {p pos : Pos} (g : Gd ci k call X) (hg : Gl X f) (hb : bltOf f args.length = some b) (ha : cEs ci N n sc args = some as) (pa : PA X args (rds X.K call as)) : PE X (.Call (.Name f p) args [] pos) (rd X.K call (.bi b as)) := by
  refine pe_blt g hg hb pa (fun z => ?_) (fun e es z => ?_) (fun e es z => ?_)
  · subst z
    have := bltGo_mem hb
    simp [bltTab] at this
  · subst z
    obtain ⟨a, h⟩ := head_of ha
    exact no_star h es X.env
  · subst z
    obtain ⟨a, h⟩ := head_of ha
    have := no_star2 ha X.env pos
    rw [no_star h es X.env] at this
    exact this
theorem ca_step (ih : Snd ci k call N n) {f : Str} {args : List Expr} {ks : List Keyword} {e' : E} {p pos : Pos} (h : cCall ci N (n + 1) sc f args ks = some e') (hg : isGl sc f = true) (hn : nameOk f = true) (X : Cx) (cx : CtX ci k call N sc X) :
    PE X (.Call (.Name f p) args ks pos) (rd X.K call e') := by
  have G := gl_of cx.hs hg
  simp only [cCall] at h
  split at h
  · rename_i i ps hf
    obtain ⟨hd, fa, fd, hm, hk, hb, F, KW⟩ := cx.g.fn i f ps (fnIx_get hf)
    split at h
    · obtain ⟨as, ha, h⟩ := Option.bind_eq_some_iff.mp h
      split at h
      · rename_i hl
        cases h
        refine ⟨fun pins s σ H Q I q => ?_⟩
        have q' := s_call (E := L2.E0) hl q
        refine wpAny_Call_Name_kw (ld_glob I G hm ?_ hd)
        have fin : ∀ {us : List Value} {vs : List V} {H1 : Hp} {s1 : Shared}, Inv X pins σ H1 s1 → Vals vs us → spC X.K call i ps.length (vs ++ []) H1 Q L2.E0 → wpAny (model X.prog X.w) X.A (PySem.call (.ref fa) us) (EP X pins σ Q) X.xe s1 := by
          intro us vs H1 s1 I1 r q1
          rw [List.append_nil] at q1
          exact run_pl F cx.g.gd cx.g.room hb I1 r q1.1 q1
        cases args with
        | nil =>
          have pa := ih.pa ha X cx
          refine PySem.W.callWith_K0 I.kIn hk ?_
          cases as with
          | cons _ _ => have := cEs_len ha; cases this
          | nil => exact fin (us := []) (vs := []) I .nil (s_nil (K := X.K) (call := call) (Q := fun vs H1 => spC X.K call i ps.length (vs ++ []) H1 Q L2.E0) q')
        | cons e es =>
          have hs := head_of ha
          obtain ⟨a, hs⟩ := hs
          have hp : (backTo pos (starEach es X.env)).any (·.1) = false := by
            have := no_star2 ha X.env pos
            rw [no_star hs es X.env] at this
            exact this
          exact PySem.W.callWith_K (h₀ := X.base) I.ok.mod.kin hk (thn ((ih.pa ha X cx).run pos pins s σ H _ I q') fun us s1 ⟨vs, H1, I1, r, q1⟩ => ⟨I1.kIn, fin I1 r q1⟩) (no_star hs es X.env) hp
      · cases h
    · rename_i kw kws
      split at h
      · rename_i xs as bs hx ha hb2
        obtain ⟨pm, hpm, h⟩ := Option.bind_eq_some_iff.mp h
        split at h
        · rename_i hc
          cases h
          obtain ⟨c1, c2, c3, c4⟩ := hc
          obtain ⟨w1, w2, w3, w4⟩ := kw_facts hx pos X.env
          have lb : bs.len = (kw :: kws).length := by rw [cEs_len hb2, List.length_map]
          have la := cEs_len ha
          refine ⟨fun pins s σ H Q I q => ?_⟩
          have q' := s_callk c2 q
          refine wpAny_Call_Name_kw (ld_glob I G hm ?_ hd)
          have fin : ∀ {us ws : List Value} {vs zs : List V} {H1 : Hp} {s1 : Shared}, Inv X pins σ H1 s1 → Vals vs us → Vals zs ws → (∃ ys, permV pm (vs ++ zs) = some ys ∧ spC X.K call i ps.length ys H1 Q L2.E0 ∧ vs.length = args.length ∧ zs.length = xs.length) → wpAny (model X.prog X.w) X.A (PySem.call (.ref fa) us (xs.zip ws)) (EP X pins σ Q) X.xe s1 := by
            intro us ws vs zs H1 s1 I1 r rz ⟨ys, p1, p2, p3, p4⟩
            exact run_kb F cx.g.gd cx.g.room p2.1 (KW args.length xs pm c1 hpm) I1 r rz p3 p4 p1 p2
          have aft : ∀ {us : List Value} {vs : List V} {H1 : Hp} {s1 : Shared}, Inv X pins σ H1 s1 → Vals vs us → vs.length = args.length → rds X.K call bs σ H1 (fun zs H2 => ∃ ys, permV pm (vs ++ zs) = some ys ∧ spC X.K call i ps.length ys H2 Q L2.E0) →
              wpAny (model X.prog X.w) X.A (evalAll ((backToKw pos (keywordEach (kw :: kws) X.env)).map (·.2))) (fun ws s2 => X.K.In s2.heap ∧ wpAny (model X.prog X.w) X.A (PySem.call (.ref fa) us (((backToKw pos (keywordEach (kw :: kws) X.env)).filterMap (·.1)).zip ws)) (EP X pins σ Q) X.xe s2) X.xe s1 := by
            intro us vs H1 s1 I1 r hv q1
            refine thn ((ih.pk hb2 X cx).run pos pins s1 σ H1 _ I1 (rds_len q1)) fun ws s2 ⟨zs, H2, I2, rz, ⟨ys, q2, q3⟩, q4⟩ => ⟨I2.kIn, ?_⟩
            rw [w2]
            exact fin I2 r rz ⟨ys, q2, q3, hv, by rw [q4, lb, w4]⟩
          cases args with
          | nil =>
            cases as with
            | cons _ _ => cases la
            | nil =>
              refine PySem.W.callWith_KW0 (h₀ := X.base) I.ok.mod.kin hk w1 (aft (us := []) (vs := []) I .nil rfl ?_) ?_
              · exact s_nil (K := X.K) (call := call) (Q := fun vs H1 => rds X.K call bs σ H1 fun zs H2 => ∃ ys, permV pm (vs ++ zs) = some ys ∧ spC X.K call i ps.length ys H2 Q L2.E0) q'
              · show (false || _) = false
                rw [w3]; rfl
          | cons e es =>
            have hs := head_of ha
            obtain ⟨a, hs⟩ := hs
            refine PySem.W.callWith_KW (h₀ := X.base) I.ok.mod.kin hk w1 (thn ((ih.pa ha X cx).run pos pins s σ H _ I (rds_len q')) fun us s1 ⟨vs, H1, I1, r, q1, q2⟩ => ?_) ?_ (no_star hs es X.env)
            · exact aft I1 r (by rw [q2, c4]) q1
            · rw [w3, no_star2 ha X.env pos]; rfl
        · cases h
      · cases h
  · split at h
    · split at h
      · rename_i hf
        subst hf
        split at h
        · split at h
          · rename_i a ts kk tp a' tys h1 h2
            split at h
            · cases h
            · rename_i h0
              cases h
              exact pe_isiN cx.g cx.hs G (ih.pe h1 X cx) h2 (not_or.mp h0).1 (by have := (not_or.mp h0).2; omega) fun es => no_star h1 es X.env
          · cases h
        · split at h
          · rename_i a t a' ty h1 h2
            cases h
            exact pe_isi1 cx.g cx.hs G (ih.pe h1 X cx) h2 fun es => no_star h1 es X.env
          · cases h
        · cases h
      · split at h
        · rename_i x1 x2 g p2 a pos2 hl
          have hl : f = "list" := by simpa using hl
          subst hl
          split at h
          · rename_i hgr
            obtain ⟨rfl, hgr⟩ := hgr
            obtain ⟨a', h1, rfl⟩ := Option.map_eq_some_iff.mp h
            exact pe_lrg cx.g G (gl_of cx.hs hgr) (ih.pe h1 X cx) (no_star h1 [] X.env)
          · obtain ⟨as, ha, rfl⟩ := Option.map_eq_some_iff.mp h
            exact go_blt cx.g G (show bltOf "list" 1 = some .list by decide) ha (ih.pa ha X cx)
        · split at h
          · rename_i b hb
            obtain ⟨as, ha, rfl⟩ := Option.map_eq_some_iff.mp h
            exact go_blt cx.g G hb ha (ih.pa ha X cx)
          · cases h
    · cases h
end
end
end IX
/-! IXm: the induction over the compile of expressions, its end. Own work. -/
namespace IX
open PySem PySem.Spec PyProof.Rows L2 Evl

section
variable {ci : CI} {k : Nat} {call : Nat → List D → Sto → R DL} {N : List Str} {n : Nat} {sc : Scope}
theorem pe_step (ih : Snd ci k call N n) {e : Expr} {e' : E} (h : cE ci N (n + 1) sc e = some e') (X : Cx) (cx : CtX ci k call N sc X) : PE X e (rd X.K call e') := by
  simp only [cE] at h
  split at h
  · exact pe_name cx.g cx.hN cx.hs h
  · obtain ⟨d, hd, rfl⟩ := Option.map_eq_some_iff.mp h
    exact pe_const hd
  · obtain ⟨es, he, h⟩ := Option.bind_eq_some_iff.mp h
    split at h
    · rename_i hl
      cases h
      exact (pe_lst (ih.pa he X cx)).weak fun _ _ _ q => s_lst (Nat.le_trans hl (by decide)) q
    · cases h
  · obtain ⟨es, he, h⟩ := Option.bind_eq_some_iff.mp h
    split at h
    · rename_i hl
      cases h
      exact (pe_tup (ih.pa he X cx)).weak fun _ _ _ q => s_tup (Nat.le_trans hl (by decide)) q
    · cases h
  · cases h
    exact pe_dnewK.weak fun _ _ _ q => s_emp q
  · obtain ⟨a, ha, rfl⟩ := Option.map_eq_some_iff.mp h
    exact (pe_un un_neg (ih.pe ha X cx)).weak fun _ _ _ q => s_neg q
  · obtain ⟨a, ha, rfl⟩ := Option.map_eq_some_iff.mp h
    exact (pe_not (ih.pe ha X cx)).weak fun _ _ _ q => s_notV q
  · split at h
    · rename_i o a b h1 h2 h3
      cases h
      exact (pe_op (or_op h1) (ih.pe h2 X cx) (ih.pe h3 X cx)).weak fun _ _ _ q => s_bin q
    · cases h
  · split at h
    · cases h
    · rename_i hm
      split at h
      · rename_i a b h2 h3
        cases h
        exact (pe_cmpR (or_cmp cx.g.un _) (ih.pe h2 X cx) (ih.pe h3 X cx) (Bool.eq_false_iff.mpr hm)).weak fun _ _ _ q => s_cmp q
      · cases h
  · split at h
    · cases h
    · rename_i hm
      split at h
      · rename_i a b c h2 h3 h4
        cases h
        exact (pe_chain (or_cmp cx.g.un _) (or_cmp cx.g.un _) (ih.pe h2 X cx) (ih.pe h3 X cx) (ih.pe h4 X cx) (Bool.eq_false_iff.mpr hm)).weak fun _ _ _ q => s_cmp2 q
      · cases h
  · exact (ih.bo h X cx).1
  · split at h
    · rename_i c a b h1 h2 h3
      cases h
      exact (pe_ifExp (ih.pt h1 X cx) (ih.pe h2 X cx) (ih.pe h3 X cx)).weak fun _ _ _ q => s_ife q
    · cases h
  · obtain ⟨a, ha, rfl⟩ := Option.map_eq_some_iff.mp h
    exact (pe_revL (ih.pe ha X cx)).weak fun _ _ _ q => s_rev q
  · split at h
    · rename_i a l hh h1 h2 h3
      cases h
      exact (pe_slice sl_I (ih.pe h1 X cx) (ih.po h2 X cx) (ih.po h3 X cx)).weak fun _ _ _ q => s_sl (cO_one h2) (cO_one h3) q
    · cases h
  · split at h
    · rename_i a b h1 h2
      cases h
      exact (pe_ix ix_I (ih.pe h1 X cx) (ih.pe h2 X cx) (plainIx h2)).weak fun _ _ _ q => s_ix q
    · cases h
  · split at h
    · rename_i hz
      subst hz
      split at h
      · rename_i t s h1 h2
        split at h
        · rename_i hb
          simp only [Bool.and_eq_true, beq_iff_eq] at hb
          split at h
          · rename_i cs v h3 h4
            cases h
            refine (pe_lc (own := ownOf N t.slots) (tt := rdT X.K call cs) (g := gT X.K t) (te := rd X.K call v) cx.g.calm cx.g.nd (ih.sr h2 X cx) (by rw [cx.hN, cx.hs]; exact blkOk_by hb.1) (fun s H C cl fp => ?_) (fun s H C cl fp => ?_) (fun s H C cl fp => ?_) (folded h2 X.env)).weak fun _ _ _ q => ?_
            · exact pg_tg (cx.blk s H C cl fp).hN (cx.blk s H C cl fp).g.nd (cx.blk s H C cl fp).g.calm (fun x hx => stB_ok x hx) h1
            · exact ih.ts h3 _ (cx.blk s H C cl fp)
            · exact ih.pe h4 _ (cx.blk s H C cl fp)
            · have := s_lc q
              rw [← hb.2] at this
              exact this
          · cases h
        · cases h
      · cases h
    · cases h
  · split at h
    · rename_i hg
      simp only [Bool.and_eq_true] at hg
      exact ih.ca h hg.1 hg.2 X cx
    · cases h
  · split at h
    · rename_i o' h1
      split at h
      · split at h
        · rename_i hm
          obtain ⟨rfl, ha, hl⟩ := hm
          cases h
          obtain rfl := List.length_eq_zero_iff.mp ha
          exact (pe_bits (ih.pe h1 X cx) (by rfl) hl).weak fun _ _ _ q => s_bits q
        · cases h
      · cases h
    · cases h
  · cases h
theorem pt_step (ih : Snd ci k call N n) {e : Expr} {e' : E} (h : cE ci N (n + 1) sc e = some e') (X : Cx) (cx : CtX ci k call N sc X) : PT X e (rdb X.K call e') := by
  have p := pe_step ih h X cx
  cases e with
  | BoolOp op vs pos =>
    simp only [cE] at h
    exact (ih.bo h X cx).2.pt
  | IfExp c a b pos =>
    simp only [cE] at h
    split at h
    · rename_i c a b h1 h2 h3
      cases h
      exact (pt_ife (ih.pt h1 X cx) (ih.pt h2 X cx) (ih.pt h3 X cx)).weak fun _ _ _ q => b_ife q
    · cases h
  | UnaryOp op a pos =>
    cases op with
    | Not =>
      simp only [cE] at h
      obtain ⟨a, ha, rfl⟩ := Option.map_eq_some_iff.mp h
      exact (pt_not (ih.pt ha X cx)).weak fun _ _ _ q => b_not q
    | _ => exact pt_go h p (by intro _ _ _ z; cases z) (by intro _ _ z; cases z) (by intro _ _ _ _ z; cases z) (by intro _ _ _ _ z; cases z)
  | Compare a ops bs pos =>
    simp only [cE] at h
    split at h
    all_goals first | (rename_i z; cases z; done) | skip
    · rename_i z
      cases z
      split at h
      · cases h
      · rename_i hm
        split at h
        · rename_i a b h2 h3
          cases h
          exact (pt_cmpR (or_cmp cx.g.un _) (ih.pe h2 X cx) (ih.pe h3 X cx) (Bool.eq_false_iff.mpr hm)).weak fun _ _ _ q => s_cmp (rdb_rd q)
        · cases h
    · rename_i z
      cases z
      split at h
      · cases h
      · rename_i hm
        split at h
        · rename_i a b c h2 h3 h4
          cases h
          exact (pt_chain (or_cmp cx.g.un _) (or_cmp cx.g.un _) (ih.pe h2 X cx) (ih.pe h3 X cx) (ih.pe h4 X cx) (Bool.eq_false_iff.mpr hm)).weak fun _ _ _ q => s_cmp2 (rdb_rd q)
        · cases h
    · cases h
  | _ => exact pt_go h p (by intro _ _ _ z; cases z) (by intro _ _ z; cases z) (by intro _ _ _ _ z; cases z) (by intro _ _ _ _ z; cases z)
theorem pa_step (ih : Snd ci k call N n) {es : List Expr} {es' : Es} (h : cEs ci N (n + 1) sc es = some es') (X : Cx) (cx : CtX ci k call N sc X) : PA X es (rds X.K call es') := by
  cases es with
  | nil =>
    simp only [cEs] at h
    cases h
    exact pa_nil.weak fun _ _ _ q => s_nil q
  | cons e es =>
    simp only [cEs] at h
    split at h
    · rename_i a b h1 h2
      cases h
      exact (pa_cons (ih.pe h1 X cx) (ih.pa h2 X cx) (no_star h1 es X.env)).weak fun _ _ _ q => s_cons q
    · cases h
theorem pk_step (ih : Snd ci k call N n) {ks : List Keyword} {es' : Es} (h : cEs ci N (n + 1) sc (ks.map (·.value)) = some es') (X : Cx) (cx : CtX ci k call N sc X) : PK X ks (rds X.K call es') := by
  cases ks with
  | nil =>
    simp only [List.map_nil, cEs] at h
    cases h
    exact ⟨fun pos pins s σ H Q I q => pk_nil.run pos pins s σ H Q I (s_nil q)⟩
  | cons e es =>
    simp only [List.map_cons, cEs] at h
    split at h
    · rename_i a b h1 h2
      cases h
      obtain ⟨nm, v, kp⟩ := e
      exact ⟨fun pos pins s σ H Q I q => (pk_cons (ih.pe h1 X cx) (ih.pk h2 X cx)).run pos pins s σ H Q I (s_cons q)⟩
    · cases h
theorem ts_step (ih : Snd ci k call N n) {es : List Expr} {es' : Es} (h : cEs ci N (n + 1) sc es = some es') (X : Cx) (cx : CtX ci k call N sc X) : PTs X es (rdT X.K call es') := by
  cases es with
  | nil =>
    simp only [cEs] at h
    cases h
    exact pts_nil
  | cons e es =>
    simp only [cEs] at h
    split at h
    · rename_i a b h1 h2
      cases h
      have hl := cEs_len h2
      cases b with
      | nil =>
        cases es with
        | nil => exact pts_one (ih.pt h1 X cx)
        | cons _ _ => cases hl
      | cons _ _ => exact ⟨fun _ _ _ _ _ _ q => q.elim⟩
    · cases h
theorem po_step (ih : Snd ci k call N n) {o : Option Expr} {es' : Es} (h : cO ci N (n + 1) sc o = some es') (X : Cx) (cx : CtX ci k call N sc X) : PO X o (rdo X.K call es') := by
  cases o with
  | none =>
    simp only [cO] at h
    cases h
    exact po_none
  | some e =>
    simp only [cO] at h
    obtain ⟨a, ha, rfl⟩ := Option.map_eq_some_iff.mp h
    exact po_some (ih.pe ha X cx)
theorem bo_step (ih : Snd ci k call N n) {op : BoolOp} {vs : List Expr} {e' : E} {pos : Pos} (h : cBo ci N (n + 1) sc op vs = some e') (X : Cx) (cx : CtX ci k call N sc X) :
    PE X (.BoolOp op vs pos) (rd X.K call e') ∧ PW X (.BoolOp op vs pos) (rdb X.K call e') := by
  match vs, op with
  | [], _ => simp [cBo] at h
  | [a], .And =>
    simp only [cBo] at h
    exact ⟨pe_one (ih.pe h X cx), pw_and1 (ih.pt h X cx)⟩
  | [a], .Or =>
    simp only [cBo] at h
    exact ⟨pe_one (ih.pe h X cx), pw_or1 (ih.pt h X cx)⟩
  | a :: b :: r, .And =>
    simp only [cBo] at h
    split at h
    · rename_i x y h1 h2
      cases h
      exact ⟨(pe_and (ih.pe h1 X cx) (ih.bo h2 X cx).1).weak fun _ _ _ q => s_andV q, (pw_and (ih.pt h1 X cx) (ih.bo h2 X cx).2).weak fun _ _ _ q => b_and q⟩
    · cases h
  | a :: b :: r, .Or =>
    simp only [cBo] at h
    split at h
    · rename_i x y h1 h2
      cases h
      exact ⟨(pe_or (ih.pe h1 X cx) (ih.bo h2 X cx).1).weak fun _ _ _ q => s_orV q, (pw_or (ih.pt h1 X cx) (ih.bo h2 X cx).2).weak fun _ _ _ q => b_or q⟩
    · cases h
theorem sr_step (ih : Snd ci k call N n) {tg e : Expr} {s : Sr} (h : cSr ci N (n + 1) sc tg e = some s) (X : Cx) (cx : CtX ci k call N sc X) : PI X tg e (rdI X.K call s) := by
  have one : ∀ {a : Expr} {a' : E}, cE ci N n sc a = some a' → PA X [a] (rds X.K call (.cons a' .nil)) := fun h1 => (pa_cons (ih.pe h1 X cx) pa_nil (no_star h1 [] X.env)).weak fun σ H Q q => by
    have := s_cons q
    obtain ⟨Z, C, ρ, st, re, er, w⟩ := this
    refine ⟨Z, C, ρ, st, re, er, ?_⟩
    cases hr : evalE call _ ρ st with
    | ok x s1 => rw [hr] at w; exact fun v Z' H' S m o => s_nil (w v Z' H' S m o)
    | ex _ _ _ => rw [hr] at w; exact w
    | no => rw [hr] at w; exact w
  have seq : ∀ {a : Expr} {a' : E}, cE ci N n sc a = some a' → PI X tg a (rdI X.K call (.seq a')) := fun h1 => (pi_seq (ih.pe h1 X cx)).weak fun _ _ _ q => i_seq q
  have two : ∀ {a b : Expr} {a' b' : E}, cE ci N n sc a = some a' → cE ci N n sc b = some b' → PA X [a, b] (rds X.K call (.cons a' (.cons b' .nil))) := fun h1 h2 => (pa_cons (ih.pe h1 X cx) (one h2) (no_star h1 _ X.env)).weak fun _ _ _ q => s_cons q
  simp only [cSr] at h
  split at h
  · split at h
    · rename_i hf
      subst hf
      split at h
      · rename_i hg
        obtain ⟨a, ha, rfl⟩ := Option.map_eq_some_iff.mp h
        exact (pi_range1 (gl_of cx.hs hg) (cx.g.blt _ (by decide)) (one ha) (no_star ha [] X.env)).weak fun _ _ _ q => i_rng1 q
      · cases h
    · split at h
      · rename_i hf
        subst hf
        split at h
        · rename_i hg
          split at h
          · obtain ⟨a, ha, rfl⟩ := Option.map_eq_some_iff.mp h
            exact (pi_enum (gl_of cx.hs hg) (cx.g.blt _ (by decide)) (one ha) (no_star ha [] X.env)).weak fun _ _ _ q => i_enu q
          · cases h
        · cases h
      · obtain ⟨a, ha, rfl⟩ := Option.map_eq_some_iff.mp h
        exact seq ha
  · split at h
    · rename_i hf
      subst hf
      split at h
      · rename_i hg
        split at h
        · rename_i a b h1 h2
          cases h
          exact (pi_range2 (gl_of cx.hs hg) (cx.g.blt _ (by decide)) (two h1 h2) (by rw [no_star h1]; rw [no_star h2]; rfl) (by rw [no_star h2]; rfl)).weak fun _ _ _ q => i_rng2 q
        · cases h
      · cases h
    · split at h
      · rename_i hf
        subst hf
        split at h
        · rename_i hg
          split at h
          · rename_i a b h1 h2
            cases h
            exact (pi_zip (gl_of cx.hs hg) (cx.g.blt _ (by decide)) (two h1 h2) (no_star h1 _ X.env) (by rw [no_star h2]; rfl)).weak fun _ _ _ q => i_zip q
          · cases h
        · cases h
      · obtain ⟨a, ha, rfl⟩ := Option.map_eq_some_iff.mp h
        exact seq ha
  · cases h
  · obtain ⟨a, ha, rfl⟩ := Option.map_eq_some_iff.mp h
    exact seq ha
/-- every compiled expression keeps the interpreter's word -/
theorem snd (ci : CI) (k : Nat) (call : Nat → List D → Sto → R DL) (N : List Str) : ∀ n, Snd ci k call N n
  | 0 => ⟨fun h => by simp [cE] at h, fun h => by simp [cE] at h, fun h => by simp [cEs] at h, fun h => by simp [cEs] at h, fun h => by simp [cEs] at h, fun h => by simp [cO] at h, fun h => by simp [cBo] at h, fun h => by simp [cSr] at h, fun h => by simp [cCall] at h⟩
  | n + 1 => by
    have ih := snd ci k call N n
    exact ⟨fun h => pe_step ih h, fun h => pt_step ih h, fun h => pa_step ih h, fun h => pk_step ih h, fun h => ts_step ih h, fun h => po_step ih h, fun h => bo_step ih h, fun h => sr_step ih h, fun h g m => ca_step ih h g m⟩
end
end IX
/-! IXn: the state between a def's statements. Own work. -/
namespace IX
open PySem PySem.Spec PyProof.Rows L2 Evl

/-! ### views -/
theorem viewGo_get (vs : List Nat) : ∀ (ρ : SEnv) (k i : Nat), (viewGo vs k ρ)[i]? = (ρ[i]?).map fun o => o.bind fun x => if visible vs (k + i) x then some x.1 else none
  | [], k, i => by simp [viewGo]
  | none :: r, k, 0 => by simp [viewGo]
  | some x :: r, k, 0 => by simp [viewGo]
  | none :: r, k, i + 1 => by
    simp only [viewGo, List.getElem?_cons_succ, viewGo_get vs r (k + 1) i]
    rw [show k + 1 + i = k + (i + 1) by omega]
  | some x :: r, k, i + 1 => by
    simp only [viewGo, List.getElem?_cons_succ, viewGo_get vs r (k + 1) i]
    rw [show k + 1 + i = k + (i + 1) by omega]
theorem view_get (vs : List Nat) (ρ : SEnv) (i : Nat) : (view vs ρ)[i]? = (ρ[i]?).map fun o => o.bind fun x => if visible vs i x then some x.1 else none := by
  unfold view
  rw [viewGo_get, Nat.zero_add]
theorem viewGo_len (vs : List Nat) : ∀ (ρ : SEnv) (k : Nat), (viewGo vs k ρ).length = ρ.length
  | [], k => rfl
  | none :: r, k => by simp [viewGo, viewGo_len vs r]
  | some x :: r, k => by simp [viewGo, viewGo_len vs r]
theorem fzGo_get (vs : List Nat) : ∀ (ρ : SEnv) (k i : Nat), (fzGo vs k ρ)[i]? = (ρ[i]?).map fun o => o.map (fz1 vs (k + i))
  | [], k, i => by simp [fzGo]
  | o :: r, k, 0 => by simp [fzGo]
  | o :: r, k, i + 1 => by
    simp only [fzGo, List.getElem?_cons_succ, fzGo_get vs r (k + 1) i]
    rw [show k + 1 + i = k + (i + 1) by omega]
theorem fz_get (vs : List Nat) (ρ : SEnv) (i : Nat) : (fz vs ρ)[i]? = (ρ[i]?).map fun o => o.map (fz1 vs i) := by
  unfold fz
  rw [fzGo_get, Nat.zero_add]
theorem fzGo_len (vs : List Nat) : ∀ (ρ : SEnv) (k : Nat), (fzGo vs k ρ).length = ρ.length
  | [], k => rfl
  | o :: r, k => by simp [fzGo, fzGo_len vs r]

/-! ### the state -/
def l0 (l : Nat) : Nat := if l = 3 then 0 else l
/-- the base: at the def's entry; a floor; a picture of what may not change -/
structure Ba where
  Z0 : Hp
  C0 : List Addr
  H0 : Hp
  Zf : Hp
  Cf : List Addr
  σp : L2.St
  ρp : SEnv
structure SR (K : PySem.W.Frag) (B : Ba) (Z : Hp) (C : List Addr) (H : Hp) (st : Sto) (σ : L2.St) (ρ : SEnv) (T : Nat → List Addr) (P : List Addr) (ws : List V) (ys : List DL) : Prop where
  e0 : ∃ st0, RE K B.Z0 B.C0 B.H0 st0
  ef : Ex B.Zf Z
  ex : Ex B.Z0 Z
  re : RE K Z C H st
  pf : Pre B.Cf C
  pre : ∃ C1, C = B.C0 ++ C1 ∧ ∀ a ∈ C1, B.H0 a = none
  fr : ∀ a o, B.H0 a = some o → a ∉ B.C0 → H a = some o
  nw : ∀ a, B.Z0 a = none → Z a ≠ none → B.H0 a = none
  len : ρ.length ≤ σ.length
  ow : ∀ (i : Nat) (x : DL), ρ[i]? = some (some x) → ∃ v, σ[i]? = some (some v) ∧ Ow K Z C H (l0 x.2) (T i) v x.1
  dj : ∀ i j a, a ∈ T i → a ∈ T j → i = j
  nd : ∀ i, (T i).Nodup
  pv : OwV K Z C H P ws ys
  pn : P.Nodup
  pt : ∀ i a, a ∈ T i → a ∉ P
  my : ∀ a, ((∃ i, a ∈ T i) ∨ a ∈ P) → B.H0 a = none ∧ Z a = none ∧ (∃ vs, H a = some (.lst vs)) ∧ a ∉ C
  pic : ∀ (i : Nat) (d : D), B.ρp[i]? = some (some (d, 3)) → ρ[i]? = some (some (d, 3)) ∧ σ[i]? = B.σp[i]?

section
variable {K : PySem.W.Frag} {call : Nat → List D → Sto → R DL} {B : Ba} {Z Z0 Z' Z1 Z2 H H0 H' H1 H2 : Hp} {C C2 : List Addr} {v w : V} {d : D} {x : DL} {l : Nat} {S S1 S2 : List Addr} {st st1 st2 : Sto} {σ : L2.St} {ρ : SEnv} {T : Nat → List Addr} {P P2 : List Addr} {ws : List V} {ys : List DL} {vs : List Nat}
theorem OwV.mono {xs : List DL} (e : Ex Z Z') (c : Pre C C2) : ∀ {S : List Addr} {vs : List V} {xs : List DL}, OwV K Z C H S vs xs → (∀ a ∈ S, Z' a = none ∧ H' a = H a) → OwV K Z' C2 H' S vs xs
  | _, _, _, .nil, _ => .nil
  | _, _, _, .cons r t, h => .cons (r.mono e c fun a ha => h a (List.mem_append_left _ ha)) (OwV.mono (xs := xs) e c t fun a ha => h a (List.mem_append_right _ ha))
theorem Pre.trans {C C1 C2 : List Addr} (h : Pre C C1) (g : Pre C1 C2) : Pre C C2 := fun k a e => g k a (h k a e)
/-- a step of the heaps that leaves what is ours -/
theorem SR.step (sr : SR K B Z C H st σ ρ T P ws ys) (e : Ex Z Z2) (re : RE K Z2 C H2 st2) (hn : ∀ a, ((∃ i, a ∈ T i) ∨ a ∈ P) → Z2 a = none ∧ H2 a = H a) (fr : ∀ a o, B.H0 a = some o → a ∉ B.C0 → H2 a = some o)
    (nw : ∀ a, Z a = none → Z2 a ≠ none → B.H0 a = none) : SR K B Z2 C H2 st2 σ ρ T P ws ys where
  e0 := sr.e0
  ef := sr.ef.trans e
  ex := sr.ex.trans e
  re := re
  pf := sr.pf
  pre := sr.pre
  fr := fr
  nw a h1 h2 := by
    cases q : Z a with
    | none => exact nw a q h2
    | some o => exact sr.nw a h1 (by rw [q]; simp)
  len := sr.len
  ow i x h := by
    obtain ⟨v, h1, h2⟩ := sr.ow i x h
    exact ⟨v, h1, h2.mono e (Pre.refl C) fun a ha => hn a (.inl ⟨i, ha⟩)⟩
  dj := sr.dj
  nd := sr.nd
  pv := sr.pv.mono (xs := ys) e (Pre.refl C) fun a ha => hn a (.inr ha)
  pn := sr.pn
  pt := sr.pt
  my a h := by
    obtain ⟨h1, h2, ⟨us, h3⟩, h4⟩ := sr.my a h
    obtain ⟨g1, g2⟩ := hn a h
    exact ⟨h1, g1, ⟨us, by rw [g2]; exact h3⟩, h4⟩
  pic := sr.pic
/-- what the base held is not among the cells of ours -/
theorem SR.cN (sr : SR K B Z C H st σ ρ T P ws ys) {a : Addr} {o : HO} (h : B.H0 a = some o) (hc : a ∉ B.C0) : a ∉ C := by
  obtain ⟨C1, rfl, h1⟩ := sr.pre
  intro hm
  rcases List.mem_append.mp hm with hm | hm
  · exact hc hm
  · rw [h1 a hm] at h; cases h
/-- an evaluation from here, its value pending -/
theorem SR.md (sr : SR K B Z C H st σ ρ T P ws ys) (m : Md K Z C H Z1 H1 st1 S1) (o : Ow K Z1 C H1 x.2 S1 v x.1) : SR K B Z1 C H1 st1 σ ρ T (S1 ++ P) (v :: ws) (x :: ys) := by
  have hn : ∀ a, ((∃ i, a ∈ T i) ∨ a ∈ P) → Z1 a = none ∧ H1 a = H a := fun a ha => by
    obtain ⟨h1, h2, ⟨us, h3⟩, h4⟩ := sr.my a ha
    refine ⟨?_, by rw [h3]; exact m.p.fr a _ h3 h4⟩
    cases e : Z1 a with
    | none => rfl
    | some u =>
      have := m.p.nw a h2 (by rw [e]; simp)
      rw [h3] at this; cases this
  have hb : ∀ a, H a = none → B.H0 a = none := fun a h => by
    cases e : B.H0 a with
    | none => rfl
    | some o =>
      by_cases hc : a ∈ B.C0
      · obtain ⟨C1, rfl, _⟩ := sr.pre
        obtain ⟨us, e2⟩ := sr.re.some (List.mem_append_left _ hc)
        rw [h] at e2; cases e2
      · have := sr.fr a o e hc
        rw [h] at this; cases this
  have s2 := sr.step (H2 := H1) (st2 := st1) m.p.z m.re hn (fun a o h hc => m.p.fr a o (sr.fr a o h hc) (sr.cN h hc)) fun a h1 h2 => hb a (m.p.nw a h1 h2)
  have nT : ∀ a, ((∃ i, a ∈ T i) ∨ a ∈ P) → a ∉ S1 := fun a ha hs => by
    obtain ⟨_, _, ⟨us, h3⟩, _⟩ := sr.my a ha
    have := m.fr a hs
    rw [h3] at this; cases this
  refine ⟨s2.e0, s2.ef, s2.ex, s2.re, s2.pf, s2.pre, s2.fr, s2.nw, s2.len, s2.ow, s2.dj, s2.nd, .cons o s2.pv, ?_, fun i a h1 h2 => ?_, fun a h => ?_, s2.pic⟩
  · exact List.nodup_append.mpr ⟨m.nd, sr.pn, fun a h1 b h2 e => nT b (.inr h2) (e ▸ h1)⟩
  · rcases List.mem_append.mp h2 with h2 | h2
    · exact nT a (.inl ⟨i, h1⟩) h2
    · exact sr.pt i a h1 h2
  · by_cases hs : a ∈ S1
    · exact ⟨hb a (m.fr a hs), (m.my a hs).1, (m.my a hs).2, m.not a hs⟩
    · refine s2.my a (h.imp id fun h => ?_)
      rcases List.mem_append.mp h with h | h
      · exact absurd h hs
      · exact h
def nodes (T : Nat → List Addr) (vs : List Nat) : List Addr := vs.flatMap T
theorem mem_nodes {a : Addr} : a ∈ nodes T vs ↔ ∃ i ∈ vs, a ∈ T i := List.mem_flatMap
/-- slots let others know -/
theorem SR.fz (sr : SR K B Z C H st σ ρ T P ws ys) (vs : List Nat) : SR K B (frz Z H (nodes T vs)) C H st σ (fz vs ρ) (fun i => if i ∈ vs then [] else T i) P ws ys := by
  have hz : ∀ a ∈ nodes T vs, Z a = none := fun a h => by
    obtain ⟨i, _, h⟩ := mem_nodes.mp h
    exact (sr.my a (.inl ⟨i, h⟩)).2.1
  have ez : Ex Z (frz Z H (nodes T vs)) := frz_ex hz
  refine ⟨sr.e0, sr.ef.trans ez, sr.ex.trans ez, ⟨fun a o h => ?_, sr.re.len, sr.re.cel, fun a ha => ?_, sr.re.nd⟩, sr.pf, sr.pre, sr.fr, fun a h1 h2 => ?_, ?_, fun i x h => ?_, fun i j a h1 h2 => ?_, fun i => ?_, ?_, sr.pn, fun i a h => ?_, fun a h => ?_, fun i d h => ?_⟩
  · unfold frz at h
    split at h
    · exact h
    · exact sr.re.ex a o h
  · unfold frz
    rw [if_neg fun hs => ?_]
    · exact sr.re.cz a ha
    · obtain ⟨i, _, h⟩ := mem_nodes.mp hs
      exact (sr.my a (.inl ⟨i, h⟩)).2.2.2 ha
  · unfold frz at h2
    split at h2
    · rename_i hs
      obtain ⟨i, _, h⟩ := mem_nodes.mp hs
      exact (sr.my a (.inl ⟨i, h⟩)).1
    · exact sr.nw a h1 h2
  · unfold IX.fz
    rw [fzGo_len]; exact sr.len
  · rw [fz_get] at h
    cases e : ρ[i]? with
    | none => rw [e] at h; cases h
    | some o =>
      rw [e] at h
      simp only [Option.map_some, Option.some.injEq, Option.map_eq_some_iff] at h
      obtain ⟨y, rfl, rfl⟩ := h
      obtain ⟨v, h1, h2⟩ := sr.ow i y e
      refine ⟨v, h1, ?_⟩
      by_cases hi : i ∈ vs
      · rw [if_pos hi]
        have is : Is K (frz Z H (nodes T vs)) C v y.1 := h2.froz ez fun a ha => frz_in (mem_nodes.mpr ⟨i, hi, ha⟩)
        unfold fz1
        split
        · exact .fro is
        · rename_i hc
          simp only [List.contains_iff_mem, Bool.and_eq_true, Bool.not_eq_true', bne_iff_ne, ne_eq, not_and, Decidable.not_not] at hc
          by_cases f : y.1.flat = true
          · exact .flt is f
          · have := hc ⟨hi, by simpa using f⟩
            rw [this]
            exact .fro is
      · rw [if_neg hi]
        have e2 : fz1 vs i y = y := by
          unfold fz1
          rw [if_neg]
          simp [hi]
        rw [e2]
        refine h2.mono ez (Pre.refl C) fun a ha => ⟨?_, rfl⟩
        unfold frz
        rw [if_neg fun hs => ?_]
        · exact (sr.my a (.inl ⟨i, ha⟩)).2.1
        · obtain ⟨j, hj, h⟩ := mem_nodes.mp hs
          have := sr.dj i j a ha h
          subst this
          exact hi hj
  · split at h1
    · cases h1
    · split at h2
      · cases h2
      · exact sr.dj i j a h1 h2
  · split
    · exact List.nodup_nil
    · exact sr.nd i
  · refine sr.pv.mono (xs := ys) ez (Pre.refl C) fun a ha => ⟨?_, rfl⟩
    unfold frz
    rw [if_neg fun hs => ?_]
    · exact (sr.my a (.inr ha)).2.1
    · obtain ⟨j, hj, h⟩ := mem_nodes.mp hs
      exact sr.pt j a h ha
  · split at h
    · cases h
    · exact sr.pt i a h
  · have h' : (∃ i, i ∉ vs ∧ a ∈ T i) ∨ a ∈ P := by
      rcases h with ⟨i, h⟩ | h
      · split at h
        · cases h
        · exact .inl ⟨i, ‹_›, h⟩
      · exact .inr h
    have h2 : (∃ i, a ∈ T i) ∨ a ∈ P := h'.imp (fun ⟨i, _, h⟩ => ⟨i, h⟩) id
    obtain ⟨g1, g2, g3, g4⟩ := sr.my a h2
    refine ⟨g1, ?_, g3, g4⟩
    unfold frz
    rw [if_neg fun hs => ?_]
    · exact g2
    · obtain ⟨j, hj, q⟩ := mem_nodes.mp hs
      rcases h' with ⟨i, hi, h⟩ | h
      · have := sr.dj i j a h q
        subst this
        exact hi hj
      · exact sr.pt j a q h
  · obtain ⟨h1, h2⟩ := sr.pic i d h
    refine ⟨?_, h2⟩
    rw [fz_get, h1]
    simp [fz1]
/-- what an expression reads -/
theorem SR.env (sr : SR K B Z C H st σ ρ T P ws ys) (vs : List Nat) : EnvR K (frz Z H (nodes T vs)) C σ (view vs ρ) := by
  have hz : ∀ a ∈ nodes T vs, Z a = none := fun a h => by
    obtain ⟨i, _, h⟩ := mem_nodes.mp h
    exact (sr.my a (.inl ⟨i, h⟩)).2.1
  have ez : Ex Z (frz Z H (nodes T vs)) := frz_ex hz
  refine ⟨fun i d h => ?_, by unfold view; rw [viewGo_len]; exact sr.len⟩
  rw [view_get] at h
  cases e : ρ[i]? with
  | none => rw [e] at h; cases h
  | some o =>
    rw [e] at h
    simp only [Option.map_some, Option.some.injEq, Option.bind_eq_some_iff] at h
    obtain ⟨y, rfl, h⟩ := h
    split at h
    · rename_i hv
      cases h
      obtain ⟨v, h1, h2⟩ := sr.ow i y e
      refine ⟨v, h1, ?_⟩
      unfold visible at hv
      simp only [Bool.or_eq_true, beq_iff_eq, List.contains_iff_mem] at hv
      rcases hv with ((hv | hv) | hv) | hv
      · exact h2.froz ez fun a ha => frz_in (mem_nodes.mpr ⟨i, hv, ha⟩)
      · rw [hv] at h2
        exact (h2.zero).2.to ez
      · rw [hv] at h2
        exact (h2.zero).2.to ez
      · exact (h2.flat0 hv).2.to ez
    · cases h
/-- what was shown for a while is ours again -/
def unf (Z : Hp) (F : List Addr) : Hp := fun a => if a ∈ F then none else Z a
theorem SR.back (sr : SR K B Z C H st σ ρ T P ws ys) (vs : List Nat) (m : Md K (frz Z H (nodes T vs)) C H Z1 H1 st1 S1) :
    SR K B (unf Z1 (nodes T vs)) C H1 st1 σ ρ T P ws ys ∧ NoL Z1 (unf Z1 (nodes T vs)) ∧ (∀ a ∈ S1, unf Z1 (nodes T vs) a = none) ∧ (∀ a, Z1 a = none → unf Z1 (nodes T vs) a = none) := by
  have hz : ∀ a ∈ nodes T vs, Z a = none := fun a h => by
    obtain ⟨i, _, h⟩ := mem_nodes.mp h
    exact (sr.my a (.inl ⟨i, h⟩)).2.1
  have ez : Ex Z (frz Z H (nodes T vs)) := frz_ex hz
  have e1 : Ex Z (unf Z1 (nodes T vs)) := fun a o h => by
    unfold unf
    rw [if_neg fun hs => by rw [hz a hs] at h; cases h]
    exact m.p.z _ _ (ez _ _ h)
  have un : ∀ a, Z1 a = none → unf Z1 (nodes T vs) a = none := fun a h => by
    unfold unf
    split
    · rfl
    · exact h
  have hn : ∀ a, ((∃ i, a ∈ T i) ∨ a ∈ P) → unf Z1 (nodes T vs) a = none ∧ H1 a = H a := fun a ha => by
    obtain ⟨h1, h2, ⟨us, h3⟩, h4⟩ := sr.my a ha
    refine ⟨?_, by rw [h3]; exact m.p.fr a _ h3 h4⟩
    unfold unf
    split
    · rfl
    · rename_i hs
      cases e : Z1 a with
      | none => rfl
      | some u =>
        have := m.p.nw a (by unfold frz; rw [if_neg hs]; exact h2) (by rw [e]; simp)
        rw [h3] at this; cases this
  have hb : ∀ a, H a = none → B.H0 a = none := fun a h => by
    cases e : B.H0 a with
    | none => rfl
    | some o =>
      by_cases hc : a ∈ B.C0
      · obtain ⟨C1, rfl, _⟩ := sr.pre
        obtain ⟨us, e2⟩ := sr.re.some (List.mem_append_left _ hc)
        rw [h] at e2; cases e2
      · have := sr.fr a o e hc
        rw [h] at this; cases this
  refine ⟨sr.step e1 ⟨fun a o h => ?_, m.re.len, m.re.cel, fun a ha => un a (m.re.cz a ha), m.re.nd⟩ hn (fun a o h hc => m.p.fr a o (sr.fr a o h hc) (sr.cN h hc)) (fun a h1 h2 => ?_), fun a o h => ?_, fun a ha => un a (m.my a ha).1, un⟩
  · unfold unf at h
    split at h
    · cases h
    · exact m.re.ex a o h
  · unfold unf at h2
    split at h2
    · exact absurd rfl h2
    · rename_i hs
      exact hb a (m.p.nw a (by unfold frz; rw [if_neg hs]; exact h1) h2)
  · unfold unf
    split
    · rename_i hs
      right
      have h2 := m.p.z a (H a |>.getD (.lst []))
      obtain ⟨i, _, q⟩ := mem_nodes.mp hs
      obtain ⟨_, _, ⟨us, h3⟩, _⟩ := sr.my a (.inl ⟨i, q⟩)
      have h4 : frz Z H (nodes T vs) a = some (.lst us) := by unfold frz; rw [if_pos hs]; exact h3
      have h5 := m.p.z _ _ h4
      rw [h] at h5
      cases h5
      exact ⟨us, rfl⟩
    · exact .inl h
end
end IX
/-! IXo: steps of the state between a def's statements. Own work. -/
namespace IX
open PySem PySem.Spec PyProof.Rows L2 Evl

section
variable {K : PySem.W.Frag} {call : Nat → List D → Sto → R DL} {B : Ba} {Z Z0 Z' Z1 Z2 H H0 H' H1 H2 : Hp} {C C2 : List Addr} {v w : V} {d : D} {x y : DL} {l : Nat} {S S1 S2 : List Addr} {st st1 st2 : Sto} {σ : L2.St} {ρ ρ' : SEnv} {T : Nat → List Addr} {P P2 : List Addr} {ws : List V} {ys : List DL} {vs : List Nat} {β : Type} {W : R β → Prop}
theorem Ow.l0 (o : Ow K Z C H l S v d) : Ow K Z C H (l0 l) S v d := by
  unfold IX.l0
  split
  · rename_i e
    subst e
    cases o with
    | flt i f => exact .flt i f
  · exact o
theorem SR.drop (sr : SR K B Z C H st σ ρ T P (v :: ws) (x :: ys)) : ∃ P2, SR K B Z C H st σ ρ T P2 ws ys := by
  obtain ⟨e0, ef, ex, re, pf, pre, fr, nw, len, ow, dj, nd, pv, pn, pt, my, pic⟩ := sr
  cases pv with
  | cons o t => exact ⟨_, ⟨e0, ef, ex, re, pf, pre, fr, nw, len, ow, dj, nd, t, (List.nodup_append.mp pn).2.1, fun i a h g => pt i a h (List.mem_append_right _ g), fun a h => my a (h.imp id fun h => List.mem_append_right _ h), pic⟩⟩
theorem setS_some {i : Nat} (h : setS ρ i x = some ρ') : i < ρ.length ∧ ρ' = ρ.set i (some x) ∧ ∀ d, ρ[i]? ≠ some (some (d, 3)) := by
  unfold setS at h
  split at h
  · cases h
  · rename_i o h1 h2
    cases h
    refine ⟨?_, rfl, fun d e => h1 d (by rw [h2] at e; exact Option.some.inj e)⟩
    cases Nat.lt_or_ge i ρ.length with
    | inl h => exact h
    | inr h => rw [List.getElem?_eq_none h] at h2; cases h2
  · cases h
theorem SR.put {i : Nat} (sr : SR K B Z C H st σ ρ T P (v :: ws) (x :: ys)) (h : setS ρ i x = some ρ') : ∃ T2 P2, SR K B Z C H st (σ.set i (some v)) ρ' T2 P2 ws ys := by
  obtain ⟨h1, rfl, h3⟩ := setS_some h
  obtain ⟨e0, ef, ex, re, pf, pre, fr, nw, len, ow, dj, nd, pv, pn, pt, my, pic⟩ := sr
  have hs : i < σ.length := Nat.lt_of_lt_of_le h1 len
  cases pv with
  | cons o t =>
    rename_i S Q
    obtain ⟨n1, n2, n3⟩ := List.nodup_append.mp pn
    refine ⟨fun j => if j = i then S else T j, Q, ⟨e0, ef, ex, re, pf, pre, fr, nw, by simpa using len, fun j z hz => ?_, fun j k a ha hb => ?_, fun j => ?_, t, n2, fun j a ha hq => ?_, fun a ha => ?_, fun j d hd => ?_⟩⟩
    · by_cases q : j = i
      · subst q
        rw [List.getElem?_set_self h1] at hz
        cases hz
        exact ⟨v, List.getElem?_set_self hs, by rw [if_pos rfl]; exact o.l0⟩
      · rw [List.getElem?_set_ne (Ne.symm q)] at hz ⊢
        rw [if_neg q]
        exact ow j z hz
    · by_cases q : j = i
      · by_cases q2 : k = i
        · rw [q, q2]
        · rw [if_pos q] at ha
          rw [if_neg q2] at hb
          exact absurd (List.mem_append_left _ ha) (pt k a hb)
      · rw [if_neg q] at ha
        by_cases q2 : k = i
        · rw [if_pos q2] at hb
          exact absurd (List.mem_append_left _ hb) (pt j a ha)
        · rw [if_neg q2] at hb
          exact dj j k a ha hb
    · split
      · exact n1
      · exact nd j
    · split at ha
      · exact n3 a ha a hq rfl
      · exact pt j a ha (List.mem_append_right _ hq)
    · refine my a ?_
      rcases ha with ⟨j, ha⟩ | ha
      · split at ha
        · exact .inr (List.mem_append_left _ ha)
        · exact .inl ⟨j, ha⟩
      · exact .inr (List.mem_append_right _ ha)
    · obtain ⟨g1, g2⟩ := pic j d hd
      have q : i ≠ j := fun e => h3 d (e ▸ g1)
      rw [List.getElem?_set_ne q, List.getElem?_set_ne q]
      exact ⟨g1, g2⟩
theorem SR.push (sr : SR K B Z C H st σ ρ T P ws ys) (o : Ow K Z C H x.2 S v x.1) (n : S.Nodup) (h : ∀ a ∈ S, B.H0 a = none ∧ a ∉ C ∧ (∀ i, a ∉ T i) ∧ a ∉ P) : SR K B Z C H st σ ρ T (S ++ P) (v :: ws) (x :: ys) := by
  obtain ⟨e0, ef, ex, re, pf, pre, fr, nw, len, ow, dj, nd, pv, pn, pt, my, pic⟩ := sr
  refine ⟨e0, ef, ex, re, pf, pre, fr, nw, len, ow, dj, nd, .cons o pv, ?_, fun i a h1 h2 => ?_, fun a h1 => ?_, pic⟩
  · exact List.nodup_append.mpr ⟨n, pn, fun a h1 b h2 e => (h a h1).2.2.2 (e ▸ h2)⟩
  · rcases List.mem_append.mp h2 with h2 | h2
    · exact (h a h2).2.2.1 i h1
    · exact pt i a h1 h2
  · by_cases hs : a ∈ S
    · obtain ⟨z, us, g⟩ := o.node a hs
      exact ⟨(h a hs).1, z, ⟨us, g⟩, (h a hs).2.1⟩
    · refine my a (h1.imp id fun h1 => ?_)
      rcases List.mem_append.mp h1 with h1 | h1
      · exact absurd h1 hs
      · exact h1
theorem SR.h0 (sr : SR K B Z C H st σ ρ T P ws ys) {a : Addr} (h : H a = none) : B.H0 a = none := by
  cases e : B.H0 a with
  | none => rfl
  | some o =>
    by_cases hc : a ∈ B.C0
    · obtain ⟨C1, rfl, _⟩ := sr.pre
      obtain ⟨us, e2⟩ := sr.re.some (List.mem_append_left _ hc)
      rw [h] at e2; cases e2
    · have := sr.fr a o e hc
      rw [h] at this; cases this
/-- an evaluation in a statement; its value is pending -/
theorem SR.evE (o : Out W) (sr : SR K B Z C H st σ ρ T P ws ys) {e : E} {f : DL → Sto → R β} (h : W ((evalE call e (view vs ρ) st).bind f)) {Q : VK}
    (k : ∀ x st1, W (f x st1) → ∀ v Z1 H1 T1 P1, SR K B Z1 C H1 st1 σ (if x.2 = 2 then ρ else IX.fz vs ρ) T1 P1 (v :: ws) (x :: ys) → Q v H1) : rd K call e σ H Q := by
  refine ⟨frz Z H (nodes T vs), C, view vs ρ, st, (sr.fz vs).re, sr.env vs, ?_⟩
  cases hr : evalE call e (view vs ρ) st with
  | ex _ _ _ => rw [hr] at h; exact (o.ex _ _ _ h).elim
  | no => rw [hr] at h; exact (o.no h).elim
  | ok x s1 =>
    rw [hr] at h
    intro v Z1 H1 S1 m1 o1
    by_cases q : x.2 = 2
    · obtain ⟨b1, b2, b3, b4⟩ := sr.back vs m1
      refine k x s1 h v (unf Z1 (nodes T vs)) H1 T (S1 ++ P) ?_
      rw [if_pos q]
      rw [q] at o1
      refine b1.push (by rw [q]; exact o1.noL b2 b4) m1.nd fun a ha => ?_
      have hf := m1.fr a ha
      refine ⟨sr.h0 hf, m1.not a ha, fun i hi => ?_, fun hp => ?_⟩
      · obtain ⟨_, _, ⟨us, e⟩, _⟩ := sr.my a (.inl ⟨i, hi⟩)
        rw [hf] at e; cases e
      · obtain ⟨_, _, ⟨us, e⟩, _⟩ := sr.my a (.inr hp)
        rw [hf] at e; cases e
    · refine k x s1 h v Z1 H1 (fun i => if i ∈ vs then [] else T i) (S1 ++ P) ?_
      rw [if_neg q]
      exact (sr.fz vs).md m1 o1
/-- .. its value dropped -/
theorem SR.evK (o : Out W) (sr : SR K B Z C H st σ ρ T P ws ys) {e : E} {f : DL → Sto → R β} (h : W ((evalE call e (view vs ρ) st).bind f)) {Q : VK}
    (k : ∀ x st1, W (f x st1) → ∀ v Z1 H1, (∀ u, x.1 = .int u → v = .int u) → (∀ u, x.1 = .bl u → v = .bl u) → SR K B Z1 C H1 st1 σ ρ T P ws ys → Q v H1) : rd K call e σ H Q := by
  refine ⟨frz Z H (nodes T vs), C, view vs ρ, st, (sr.fz vs).re, sr.env vs, ?_⟩
  cases hr : evalE call e (view vs ρ) st with
  | ex _ _ _ => rw [hr] at h; exact (o.ex _ _ _ h).elim
  | no => rw [hr] at h; exact (o.no h).elim
  | ok x s1 =>
    rw [hr] at h
    intro v Z1 H1 S1 m1 o1
    refine k x s1 h v (unf Z1 (nodes T vs)) H1 (fun u e => ?_) (fun u e => ?_) (sr.back vs m1).1
    · rw [e] at o1; exact (ow_int o1).1
    · rw [e] at o1; exact (ow_bl o1).1
theorem SR.evC (o : Out W) (sr : SR K B Z C H st σ ρ T P ws ys) {e : E} {f : Bool → Sto → R β} (h : W ((evalC call e vs ρ st).bind f)) {Q : Bool → Hp → Prop}
    (k : ∀ x st1, W (f x st1) → ∀ Z1 H1, SR K B Z1 C H1 st1 σ ρ T P ws ys → Q x H1) : rdb K call e σ H Q := by
  refine ⟨frz Z H (nodes T vs), C, view vs ρ, st, (sr.fz vs).re, sr.env vs, ?_⟩
  unfold evalC at h
  exact wrB_bind o h fun x s1 h Z1 H1 m1 => k x s1 h (unf Z1 (nodes T vs)) H1 (sr.back vs m1).1
theorem SR.envS (sr : SR K B Z C H st σ ρ T P ws ys) {vs vs2 : List Nat} (hv : ∀ i ∈ vs, i ∈ vs2) : EnvR K (frz Z H (nodes T vs2)) C σ (view vs ρ) := by
  have e := sr.env vs2
  refine ⟨fun i d h => e.get i d ?_, by have := e.len; unfold view at this ⊢; rw [viewGo_len] at this ⊢; exact this⟩
  rw [view_get] at h ⊢
  cases q : ρ[i]? with
  | none => rw [q] at h; cases h
  | some oo =>
    rw [q] at h
    simp only [Option.map_some, Option.some.injEq] at h ⊢
    cases oo with
    | none => cases h
    | some z =>
      simp only [Option.bind_some] at h ⊢
      split at h
      · rename_i g
        rw [if_pos]
        · exact h
        · unfold visible at g ⊢
          simp only [Bool.or_eq_true, List.contains_iff_mem] at g ⊢
          exact g.imp (fun g => g.imp (fun g => g.imp (fun g => hv i g) id) id) id
      · cases h
theorem SR.evS {Q : It → Hp → Prop} (o : Out W) (sr : SR K B Z C H st σ ρ T P ws ys) {s : Sr} {vs2 : List Nat} (hv : ∀ i ∈ vs, i ∈ vs2) {f : List D → Sto → R β} (h : W ((evalSr call s (view vs ρ) st).bind f))
    (k : ∀ ds st1, W (f ds st1) → ∀ J Z1 H1, Ex (frz Z H (nodes T vs2)) Z1 → Post K (frz Z H (nodes T vs2)) C H Z1 H1 st1 → SR K B Z1 C H1 st1 σ (IX.fz vs2 ρ) (fun i => if i ∈ vs2 then [] else T i) P ws ys → ItOk K Z1 C J ds → Q J H1) : rdI K call s σ H Q := by
  refine ⟨frz Z H (nodes T vs2), C, view vs ρ, st, (sr.fz vs2).re, sr.envS hv, ?_⟩
  cases hr : evalSr call s (view vs ρ) st with
  | ex _ _ _ => rw [hr] at h; exact (o.ex _ _ _ h).elim
  | no => rw [hr] at h; exact (o.no h).elim
  | ok ds s1 =>
    rw [hr] at h
    intro J Z1 H1 m1 it
    obtain ⟨P3, r⟩ := ((sr.fz vs2).md m1 (x := (.non, 2)) (v := .non) Ow.of_non).drop
    have s3 := (sr.fz vs2).md m1 (x := (.non, 2)) (v := .non) Ow.of_non
    refine k ds s1 h J Z1 H1 m1.p.z m1.p ?_ it
    obtain ⟨e0, ef, ex, re, pf, pre, fr, nw, len, ow, dj, nd, pv, pn, pt, my, pic⟩ := s3
    cases pv with
    | cons o1 t =>
      obtain ⟨_, rfl⟩ := ow_non o1
      exact ⟨e0, ef, ex, re, pf, pre, fr, nw, len, ow, dj, nd, t, (List.nodup_append.mp pn).2.1, fun i a h g => pt i a h (List.mem_append_right _ g), fun a h => my a (h.imp id fun h => List.mem_append_right _ h), pic⟩
/-- a slot's own list -/
theorem SR.own {i : Nat} {xs : List D} (sr : SR K B Z C H st σ ρ T P ws ys) (h : ownL ρ i = some (xs, l)) :
    ρ[i]? = some (some (.lst xs, l)) ∧ (l = 1 ∨ l = 2) ∧ ∃ p us S, σ[i]? = some (some (.ref p)) ∧ H p = some (.lst us) ∧ us.length = xs.length ∧ us.length ≤ sizeLine ∧ OwV K Z C H S us (itemsDL l xs) ∧ T i = p :: S := by
  unfold ownL at h
  split at h
  · rename_i ys l' e
    split at h
    · rename_i hl
      cases h
      refine ⟨e, hl, ?_⟩
      obtain ⟨v, h1, h2⟩ := sr.ow i _ e
      have e2 : IX.l0 l = l := by rcases hl with rfl | rfl <;> rfl
      dsimp only at h2
      rw [e2] at h2
      generalize hT : T i = Ti at h2
      cases h2 with
      | fro _ => rcases hl with z | z <;> cases z
      | flt _ f => cases f
      | one g1 g2 g3 g4 => exact ⟨_, _, [], h1, g1, g4.length, g3, by unfold itemsDL; simp only [show (1 = 2) = False by simp, if_false]; exact g4.toV, rfl⟩
      | lst g1 g2 g3 g4 => exact ⟨_, _, _, h1, g1, g4.length, g3, by unfold itemsDL; simp only [if_true]; exact g4.toV, rfl⟩
    · cases h
  · cases h
/-- a slot's own list gets new items; P2, ws2, ys2 stay pending -/
theorem SR.mut {i : Nat} {xs : List D} {p : Addr} {us' : List V} {zs : List DL} {L : Nat} {ws2 : List V} {ys2 : List DL} (sr : SR K B Z C H st σ ρ T P ws ys) (hi : ρ[i]? = some (some (.lst xs, l))) (hl : l = 1 ∨ l = 2) (hσ : σ[i]? = some (some (.ref p))) (hT : T i = p :: S)
    (o : OwV K Z C H S2 us' zs) (n2 : S2.Nodup) (hz : us'.length ≤ sizeLine) (o2 : OwV K Z C H P2 ws2 ys2) (np : P2.Nodup) (h2 : ∀ a ∈ S2, (a ∈ S ∨ a ∈ P) ∧ a ∉ P2) (hp : ∀ a ∈ P2, a ∈ S ∨ a ∈ P) (hL : L = 1 ∨ (L = 2 ∧ ∀ z ∈ zs, lvOk z)) :
    ∃ Z2 T2, SR K B Z2 C (upd H p (.lst us')) st σ (ρ.set i (some (.lst (zs.map (·.1)), L))) T2 P2 ws2 ys2 := by
  have pin : p ∈ T i := by rw [hT]; exact List.mem_cons_self
  obtain ⟨pH, pZ, ⟨us, pU⟩, pC⟩ := sr.my p (.inl ⟨i, pin⟩)
  have ndi := sr.nd i
  rw [hT] at ndi
  have pS : p ∉ S := (List.nodup_cons.mp ndi).1
  have pP : p ∉ P := sr.pt i p pin
  have pS2 : p ∉ S2 := fun h => ((h2 p h).1).elim pS pP
  have pP2 : p ∉ P2 := fun h => (hp p h).elim pS pP
  have inT : ∀ a, a ∈ S → a ∈ T i := fun a h => by rw [hT]; exact List.mem_cons_of_mem _ h
  have hlt : i < ρ.length := by
    cases Nat.lt_or_ge i ρ.length with
    | inl h => exact h
    | inr h => rw [List.getElem?_eq_none h] at hi; cases hi
  have nj : ∀ j, j ≠ i → ∀ a ∈ T j, a ≠ p ∧ a ∉ S2 ∧ a ∉ P2 := fun j hj a ha => by
    refine ⟨fun e => hj (sr.dj j i a ha (e ▸ pin)), fun h => ?_, fun h => ?_⟩
    · rcases (h2 a h).1 with h | h
      · exact hj (sr.dj j i a ha (inT a h))
      · exact sr.pt j a ha h
    · rcases hp a h with h | h
      · exact hj (sr.dj j i a ha (inT a h))
      · exact sr.pt j a ha h
  have myS : ∀ a, a ∈ S2 ∨ a ∈ P2 → B.H0 a = none ∧ Z a = none ∧ (∃ vs, H a = some (.lst vs)) ∧ a ∉ C := fun a h => by
    have : a ∈ S ∨ a ∈ P := h.elim (fun h => (h2 a h).1) (hp a)
    rcases this with h | h
    · exact sr.my a (.inl ⟨i, inT a h⟩)
    · exact sr.my a (.inr h)
  have re1 : ∀ Z2 : Hp, Ex Z2 H → Z2 p = none → (∀ a ∈ C, Z2 a = none) → RE K Z2 C (upd H p (.lst us')) st := fun Z2 e1 e2 e3 => ⟨e1.mut e2, sr.re.len, fun k ds h => by
      obtain ⟨a, vs, g1, g2, g3⟩ := sr.re.cel k ds h
      have : a ≠ p := fun e => pC (e ▸ List.mem_of_getElem? g1)
      exact ⟨a, vs, g1, by rw [upd_ne this]; exact g2, g3⟩, e3, sr.re.nd⟩
  have fr1 : ∀ a o, B.H0 a = some o → a ∉ B.C0 → upd H p (.lst us') a = some o := fun a o h hc => by
    have : a ≠ p := fun e => by rw [e, pH] at h; cases h
    rw [upd_ne this]; exact sr.fr a o h hc
  have pic1 : ∀ (j : Nat) (d : D), B.ρp[j]? = some (some (d, 3)) → (ρ.set i (some (.lst (zs.map (·.1)), L)))[j]? = some (some (d, 3)) ∧ σ[j]? = B.σp[j]? := fun j d hd => by
    obtain ⟨g1, g2⟩ := sr.pic j d hd
    have q : i ≠ j := fun e => by
      subst e
      rw [hi] at g1
      cases g1
      rcases hl with z | z <;> cases z
    rw [List.getElem?_set_ne q]
    exact ⟨g1, g2⟩
  rcases hL with rfl | ⟨rfl, hk⟩
  · -- frozen items
    have ez : Ex Z (frz Z H S2) := frz_ex fun a h => (myS a (.inl h)).2.1
    have fz : ∀ a, a ∉ S2 → frz Z H S2 a = Z a := fun a h => if_neg h
    have hn : ∀ a, a ≠ p → a ∉ S2 → Z a = none → frz Z H S2 a = none ∧ upd H p (.lst us') a = H a := fun a h1 h2 h3 => ⟨by rw [fz a h2]; exact h3, upd_ne h1⟩
    refine ⟨frz Z H S2, fun j => if j = i then [p] else T j, ⟨sr.e0, sr.ef.trans ez, sr.ex.trans ez, re1 _ (fun a o h => ?_) (by rw [fz p pS2]; exact pZ) (fun a ha => ?_), sr.pf, sr.pre, fr1, fun a g1 g2 => ?_, by simpa using sr.len, fun j z hj => ?_, fun j k a ha hb => ?_, fun j => ?_, ?_, np, fun j a ha => ?_, fun a ha => ?_, pic1⟩⟩
    · unfold frz at h
      split at h
      · exact h
      · exact sr.re.ex a o h
    · rw [fz a fun hs => (myS a (.inl hs)).2.2.2 ha]
      exact sr.re.cz a ha
    · by_cases hs : a ∈ S2
      · exact (myS a (.inl hs)).1
      · rw [fz a hs] at g2; exact sr.nw a g1 g2
    · by_cases q : j = i
      · subst q
        rw [List.getElem?_set_self hlt] at hj
        cases hj
        refine ⟨_, hσ, ?_⟩
        rw [if_pos rfl]
        exact .one upd_same (by rw [fz p pS2]; exact pZ) hz (o.froz ez fun a ha => frz_in ha)
      · rw [List.getElem?_set_ne (Ne.symm q)] at hj
        obtain ⟨v, g1, g2⟩ := sr.ow j z hj
        refine ⟨v, g1, ?_⟩
        rw [if_neg q]
        refine g2.mono ez (Pre.refl C) fun a ha => ?_
        obtain ⟨n1, n2, n3⟩ := nj j q a ha
        exact hn a n1 n2 (sr.my a (.inl ⟨j, ha⟩)).2.1
    · by_cases q : j = i
      · by_cases q2 : k = i
        · rw [q, q2]
        · rw [if_pos q] at ha
          rw [if_neg q2] at hb
          exact absurd (List.mem_singleton.mp ha) (nj k q2 a hb).1
      · rw [if_neg q] at ha
        by_cases q2 : k = i
        · rw [if_pos q2] at hb
          exact absurd (List.mem_singleton.mp hb) (nj j q a ha).1
        · rw [if_neg q2] at hb
          exact sr.dj j k a ha hb
    · split
      · exact List.nodup_cons.mpr ⟨by simp, List.nodup_nil⟩
      · exact sr.nd j
    · refine o2.mono (xs := ys2) ez (Pre.refl C) fun a ha => ?_
      exact hn a (fun e => pP2 (e ▸ ha)) (fun hs => (h2 a hs).2 ha) (myS a (.inr ha)).2.1
    · by_cases q : j = i
      · rw [if_pos q] at ha
        rw [List.mem_singleton.mp ha]; exact pP2
      · rw [if_neg q] at ha
        exact (nj j q a ha).2.2
    · rcases ha with ⟨j, ha⟩ | ha
      · by_cases q : j = i
        · rw [if_pos q] at ha
          rw [List.mem_singleton.mp ha]
          exact ⟨pH, by rw [fz p pS2]; exact pZ, ⟨us', upd_same⟩, pC⟩
        · rw [if_neg q] at ha
          obtain ⟨n1, n2, n3⟩ := nj j q a ha
          obtain ⟨g1, g2, g3, g4⟩ := sr.my a (.inl ⟨j, ha⟩)
          exact ⟨g1, by rw [fz a n2]; exact g2, by rw [upd_ne n1]; exact g3, g4⟩
      · obtain ⟨g1, g2, g3, g4⟩ := myS a (.inr ha)
        have n1 : a ≠ p := fun e => pP2 (e ▸ ha)
        exact ⟨g1, by rw [fz a fun hs => (h2 a hs).2 ha]; exact g2, by rw [upd_ne n1]; exact g3, g4⟩
  · have hn : ∀ a, a ≠ p → Z a = none → Z a = none ∧ upd H p (.lst us') a = H a := fun a h1 h3 => ⟨h3, upd_ne h1⟩
    refine ⟨Z, fun j => if j = i then p :: S2 else T j, ⟨sr.e0, sr.ef, sr.ex, re1 _ sr.re.ex pZ sr.re.cz, sr.pf, sr.pre, fr1, sr.nw, by simpa using sr.len, fun j z hj => ?_, fun j k a ha hb => ?_, fun j => ?_, ?_, np, fun j a ha => ?_, fun a ha => ?_, pic1⟩⟩
    · by_cases q : j = i
      · subst q
        rw [List.getElem?_set_self hlt] at hj
        cases hj
        refine ⟨_, hσ, ?_⟩
        rw [if_pos rfl]
        refine .lst upd_same pZ hz ((o.two hk).mono (Ex.refl Z) (Pre.refl C) fun a ha => ?_)
        exact hn a (fun e => pS2 (e ▸ ha)) (myS a (.inl ha)).2.1
      · rw [List.getElem?_set_ne (Ne.symm q)] at hj
        obtain ⟨v, g1, g2⟩ := sr.ow j z hj
        refine ⟨v, g1, ?_⟩
        rw [if_neg q]
        refine g2.mono (Ex.refl Z) (Pre.refl C) fun a ha => ?_
        exact hn a (nj j q a ha).1 (sr.my a (.inl ⟨j, ha⟩)).2.1
    · by_cases q : j = i
      · by_cases q2 : k = i
        · rw [q, q2]
        · rw [if_pos q] at ha
          rw [if_neg q2] at hb
          rcases List.mem_cons.mp ha with e | ha
          · exact absurd e (nj k q2 a hb).1
          · exact absurd ha (nj k q2 a hb).2.1
      · rw [if_neg q] at ha
        by_cases q2 : k = i
        · rw [if_pos q2] at hb
          rcases List.mem_cons.mp hb with e | hb
          · exact absurd e (nj j q a ha).1
          · exact absurd hb (nj j q a ha).2.1
        · rw [if_neg q2] at hb
          exact sr.dj j k a ha hb
    · split
      · exact List.nodup_cons.mpr ⟨pS2, n2⟩
      · exact sr.nd j
    · refine o2.mono (xs := ys2) (Ex.refl Z) (Pre.refl C) fun a ha => ?_
      exact hn a (fun e => pP2 (e ▸ ha)) (myS a (.inr ha)).2.1
    · by_cases q : j = i
      · rw [if_pos q] at ha
        rcases List.mem_cons.mp ha with e | ha
        · rw [e]; exact pP2
        · exact (h2 a ha).2
      · rw [if_neg q] at ha
        exact (nj j q a ha).2.2
    · rcases ha with ⟨j, ha⟩ | ha
      · by_cases q : j = i
        · rw [if_pos q] at ha
          rcases List.mem_cons.mp ha with e | ha
          · rw [e]; exact ⟨pH, pZ, ⟨us', upd_same⟩, pC⟩
          · obtain ⟨g1, g2, g3, g4⟩ := myS a (.inl ha)
            have n1 : a ≠ p := fun e => pS2 (e ▸ ha)
            exact ⟨g1, g2, by rw [upd_ne n1]; exact g3, g4⟩
        · rw [if_neg q] at ha
          obtain ⟨n1, n2, n3⟩ := nj j q a ha
          obtain ⟨g1, g2, g3, g4⟩ := sr.my a (.inl ⟨j, ha⟩)
          exact ⟨g1, g2, by rw [upd_ne n1]; exact g3, g4⟩
      · obtain ⟨g1, g2, g3, g4⟩ := myS a (.inr ha)
        have n1 : a ≠ p := fun e => pP2 (e ▸ ha)
        exact ⟨g1, g2, by rw [upd_ne n1]; exact g3, g4⟩
end
end IX
/-! IXp: statements by their readings. Own work. -/
namespace IX
open PySem PySem.Spec PyProof.Rows L2 Evl

section
variable (K : PySem.W.Frag) (call : Nat → List D → Sto → R DL)
/-- the picture given up -/
def _root_.IX.Ba.np (B : Ba) : Ba := { B with σp := [], ρp := [] }
def WrF (B : Ba) (r : R (Fl × SEnv)) (E : Ends) : Prop := match r with
  | .ok (.nx, ρ) st => ∀ σ Z C H T P, SR K B Z C H st σ ρ T P [] [] → E.nx σ H
  | .ok (.brk, ρ) st => ∀ σ Z C H T P, SR K B Z C H st σ ρ T P [] [] → E.bk σ H
  | .ok (.cnt, ρ) st => ∀ σ Z C H T P, SR K B Z C H st σ ρ T P [] [] → E.ct σ H
  | .ok (.ret d l, _) st => ∀ ρ σ Z C H T P v, SR K B.np Z C H st σ ρ T P [v] [(d, l)] → E.rt v H
  | _ => False
def tS (s : S) : TS := fun E σ H => ∃ B ρ st Z C T P, SR K B Z C H st σ ρ T P [] [] ∧ WrF K B (execS call s ρ st) E
def tSs (s : Ss) : TS := fun E σ H => ∃ B ρ st Z C T P, SR K B Z C H st σ ρ T P [] [] ∧ WrF K B (execSs call s ρ st) E
end
section
variable {K : PySem.W.Frag} {call : Nat → List D → Sto → R DL} {B : Ba} {Z Z0 Z' Z1 Z2 H H0 H' H1 H2 : Hp} {C C1 C2 : List Addr} {v w : V} {d : D} {x y : DL} {l : Nat} {S0 S1 S2 : List Addr} {st st1 st2 : Sto} {σ : L2.St} {ρ ρ' : SEnv} {T : Nat → List Addr} {P P2 : List Addr} {ws : List V} {ys : List DL} {vs : List Nat} {β : Type} {W : R β → Prop} {E : Ends}
theorem out_wrF : Out fun r => WrF K B r E := ⟨fun h => h, fun _ _ _ h => h⟩
theorem evalB_bind {e : IX.E} {f : DL × SEnv → Sto → R β} : (evalB call e vs ρ st).bind f = (evalE call e (view vs ρ) st).bind fun x st1 => f (x, if x.2 = 2 then ρ else IX.fz vs ρ) st1 := by
  unfold evalB
  cases evalE call e (view vs ρ) st <;> rfl
theorem SR.np (sr : SR K B Z C H st σ ρ T P ws ys) : SR K B.np Z C H st σ ρ T P ws ys := by
  obtain ⟨e0, ef, ex, re, pf, pre, fr, nw, len, ow, dj, nd, pv, pn, pt, my, pic⟩ := sr
  exact ⟨e0, ef, ex, re, pf, pre, fr, nw, len, ow, dj, nd, pv, pn, pt, my, fun i d hd => by simp [Ba.np] at hd⟩
theorem SR.nil (sr : SR K B Z C H st σ ρ T P [] []) : P = [] := by
  have := sr.pv
  cases this
  rfl
theorem SR.swap (sr : SR K B Z C H st σ ρ T P (w :: v :: ws) (y :: x :: ys)) : ∃ P2, SR K B Z C H st σ ρ T P2 (v :: w :: ws) (x :: y :: ys) := by
  obtain ⟨e0, ef, ex, re, pf, pre, fr, nw, len, ow, dj, nd, pv, pn, pt, my, pic⟩ := sr
  cases pv with
  | cons o t =>
    rename_i A R
    cases t with
    | cons o2 t2 =>
      rename_i A2 R2
      have m1 : ∀ a, a ∈ A2 ++ (A ++ R2) ↔ a ∈ A ++ (A2 ++ R2) := fun a => by simp only [List.mem_append]; exact ⟨fun h => h.elim (fun h => .inr (.inl h)) fun h => h.elim .inl fun h => .inr (.inr h), fun h => h.elim (fun h => .inr (.inl h)) fun h => h.elim .inl fun h => .inr (.inr h)⟩
      refine ⟨A2 ++ (A ++ R2), e0, ef, ex, re, pf, pre, fr, nw, len, ow, dj, nd, .cons o2 (.cons o t2), ?_, fun i a h g => pt i a h ((m1 a).mp g), fun a h => my a (h.imp id (m1 a).mp), pic⟩
      have q : (A2 ++ (A ++ R2)).Perm (A ++ (A2 ++ R2)) := by
        rw [← List.append_assoc, ← List.append_assoc]
        exact List.perm_append_comm.append_right R2
      exact q.nodup_iff.mpr pn
/-- the floor may be raised -/
theorem SR.low (sr : SR K { B with Zf := Z1, Cf := C1 } Z C H st σ ρ T P ws ys) (e : Ex B.Zf Z1) (p : Pre B.Cf C1) : SR K B Z C H st σ ρ T P ws ys := by
  obtain ⟨e0, ef, ex, re, pf, pre, fr, nw, len, ow, dj, nd, pv, pn, pt, my, pic⟩ := sr
  exact ⟨e0, e.trans ef, ex, re, p.trans pf, pre, fr, nw, len, ow, dj, nd, pv, pn, pt, my, pic⟩
theorem SR.high (sr : SR K B Z C H st σ ρ T P ws ys) : SR K { B with Zf := Z, Cf := C } Z C H st σ ρ T P ws ys := by
  obtain ⟨e0, ef, ex, re, pf, pre, fr, nw, len, ow, dj, nd, pv, pn, pt, my, pic⟩ := sr
  exact ⟨e0, Ex.refl Z, ex, re, Pre.refl C, pre, fr, nw, len, ow, dj, nd, pv, pn, pt, my, pic⟩
theorem WrF.low {r : R (Fl × SEnv)} (h : WrF K B r E) (e : Ex B.Zf Z1) (p : Pre B.Cf C1) : WrF K { B with Zf := Z1, Cf := C1 } r E := by
  match r, h with
  | .ok (.nx, ρ) st, h => exact fun σ Z C H T P sr => h σ Z C H T P (sr.low e p)
  | .ok (.brk, ρ) st, h => exact fun σ Z C H T P sr => h σ Z C H T P (sr.low e p)
  | .ok (.cnt, ρ) st, h => exact fun σ Z C H T P sr => h σ Z C H T P (sr.low e p)
  | .ok (.ret d l, _) st, h => exact fun ρ σ Z C H T P v sr => h ρ σ Z C H T P v (SR.low (B := B.np) sr e p)
/-- a pending value's level may be told otherwise -/
theorem SR.lvl (sr : SR K B Z C H st σ ρ T P (v :: ws) (x :: ys)) {y : DL} (h : ∀ S, Ow K Z C H x.2 S v x.1 → Ow K Z C H y.2 S v y.1) : SR K B Z C H st σ ρ T P (v :: ws) (y :: ys) := by
  obtain ⟨e0, ef, ex, re, pf, pre, fr, nw, len, ow, dj, nd, pv, pn, pt, my, pic⟩ := sr
  cases pv with
  | cons o t => exact ⟨e0, ef, ex, re, pf, pre, fr, nw, len, ow, dj, nd, .cons (h _ o) t, pn, pt, my, pic⟩
/-- a pending tuple by its items -/
theorem SR.items {ds : List D} (sr : SR K B Z C H st σ ρ T P (v :: ws) ((.tup ds, l) :: ys)) : ∃ p us, v = .ref p ∧ SqT K Z p us ∧ us.length = ds.length ∧ SR K B Z C H st σ ρ T P (us ++ ws) (itemsDL l ds ++ ys) := by
  obtain ⟨e0, ef, ex, re, pf, pre, fr, nw, len, ow, dj, nd, pv, pn, pt, my, pic⟩ := sr
  cases pv with
  | cons o t =>
    obtain ⟨p, us, rfl, h1, h2, h3, h4⟩ := ow_tup o re.ex
    exact ⟨p, us, rfl, h1, h3, e0, ef, ex, re, pf, pre, fr, nw, len, ow, dj, nd, h4.append t, pn, pt, my, pic⟩
/-! ### targets -/
theorem bindSL_len : ∀ {ts : List Tg} {ds : List D} {l : Nat} {ρ ρ' : SEnv}, Tg.bindSL ts ds l ρ = some ρ' → ts.length = ds.length
  | [], [], _, _, _, _ => rfl
  | t :: ts, d :: ds, l, ρ, ρ', h => by
    simp only [Tg.bindSL] at h
    split at h
    · simp only [List.length_cons, bindSL_len h]
    · cases h
  | [], _ :: _, _, _, _, h => by simp [Tg.bindSL] at h
  | _ :: _, [], _, _, _, h => by simp [Tg.bindSL] at h
mutual
theorem gS_bind : ∀ {t : Tg} {x : DL} {v : V} {ρ ρ' : SEnv} {σ : L2.St} {T : Nat → List Addr} {P : List Addr} {ws : List V} {ys : List DL} {Q : L2.St → Hp → Prop}, SR K B Z C H st σ ρ T P (v :: ws) (x :: ys) → t.bindS x ρ = some ρ' →
    (∀ σ' T' P', SR K B Z C H st σ' ρ' T' P' ws ys → Q σ' H) → gT K t v σ H Q
  | .nm i, x, v, ρ, ρ', σ, T, P, ws, ys, Q, sr, h, q => by
    simp only [Tg.bindS] at h
    obtain ⟨T2, P2, s2⟩ := sr.put h
    exact q _ T2 P2 s2
  | .tp ts, (.tup ds, l), v, ρ, ρ', σ, T, P, ws, ys, Q, sr, h, q => by
    simp only [Tg.bindS] at h
    obtain ⟨p, us, rfl, h1, h2, s2⟩ := sr.items
    refine ⟨p, us, rfl, ex_t sr.re.ex h1, by rw [h2, bindSL_len h], ?_⟩
    exact gsS_bind h2 s2 h q
  | .tp _, (.non, _), _, _, _, _, _, _, _, _, _, _, h, _ => by simp [Tg.bindS] at h
  | .tp _, (.bl _, _), _, _, _, _, _, _, _, _, _, _, h, _ => by simp [Tg.bindS] at h
  | .tp _, (.int _, _), _, _, _, _, _, _, _, _, _, _, h, _ => by simp [Tg.bindS] at h
  | .tp _, (.str _, _), _, _, _, _, _, _, _, _, _, _, h, _ => by simp [Tg.bindS] at h
  | .tp _, (.lst _, _), _, _, _, _, _, _, _, _, _, _, h, _ => by simp [Tg.bindS] at h
  | .tp _, (.cell _, _), _, _, _, _, _, _, _, _, _, _, h, _ => by simp [Tg.bindS] at h
  | .tp _, (.fn _, _), _, _, _, _, _, _, _, _, _, _, h, _ => by simp [Tg.bindS] at h
  | .tp _, (.clo _ _, _), _, _, _, _, _, _, _, _, _, _, h, _ => by simp [Tg.bindS] at h
  | .tp _, (.exc _ _, _), _, _, _, _, _, _, _, _, _, _, h, _ => by simp [Tg.bindS] at h
  | .tp _, (.scr _, _), _, _, _, _, _, _, _, _, _, _, h, _ => by simp [Tg.bindS] at h
theorem gsS_bind : ∀ {l : Nat} {ts : List Tg} {us : List V} {ds : List D} {ρ ρ' : SEnv} {σ : L2.St} {T : Nat → List Addr} {P : List Addr} {ws : List V} {ys : List DL} {Q : L2.St → Hp → Prop}, us.length = ds.length → SR K B Z C H st σ ρ T P (us ++ ws) (itemsDL l ds ++ ys) → Tg.bindSL ts ds l ρ = some ρ' →
    (∀ σ' T' P', SR K B Z C H st σ' ρ' T' P' ws ys → Q σ' H) → gTs K ts us σ H Q
  | l, [], [], [], ρ, ρ', σ, T, P, ws, ys, Q, hl, sr, h, q => by
    simp only [Tg.bindSL] at h
    cases h
    exact ⟨rfl, q σ T P sr⟩
  | l, t :: ts, u :: us, d :: ds, ρ, ρ', σ, T, P, ws, ys, Q, hl, sr, h, q => by
    simp only [Tg.bindSL] at h
    split at h
    · rename_i ρ1 h1
      have s2 : SR K B Z C H st σ ρ T P (u :: (us ++ ws)) ((d, if l = 2 then 2 else 0) :: (itemsDL l ds ++ ys)) := sr
      have s3 := s2.lvl (y := IX.lvl (if l = 2 then 2 else 0) d) fun S o => lvl_ow o
      refine ⟨u, us, rfl, gS_bind s3 h1 fun σ' T' P' s4 => gsS_bind (by simpa using hl) s4 h q⟩
    · cases h
  | _, [], _ :: _, [], _, _, _, _, _, _, _, _, hl, _, _, _ => by simp at hl
  | _, [], _, _ :: _, _, _, _, _, _, _, _, _, _, _, h, _ => by simp [Tg.bindSL] at h
  | _, _ :: _, _, [], _, _, _, _, _, _, _, _, _, _, h, _ => by simp [Tg.bindSL] at h
  | _, _ :: _, [], _ :: _, _, _, _, _, _, _, _, _, hl, _, _, _ => by simp at hl
end
/-! ### statements -/
theorem stoU_ok {o : Option SEnv} (h : WrF K B (stoU o st) E) : ∃ ρ', o = some ρ' ∧ WrF K B (.ok (.nx, ρ') st) E := by
  cases o with
  | none => exact h.elim
  | some ρ' => exact ⟨ρ', rfl, h⟩
variable {σ0 : L2.St}
theorem t_asg {i : Nat} {e : IX.E} (h : tS K call (.asg i e vs) E σ H) : tAsg (rd K call e) (gName i) E σ H := by
  obtain ⟨B, ρ, st, Z, C, T, P, sr, h⟩ := h
  simp only [execS, evalB_bind] at h
  refine sr.evE out_wrF h fun x st1 h v Z1 H1 T1 P1 s1 => ?_
  obtain ⟨ρ2, h1, h2⟩ := stoU_ok h
  obtain ⟨T2, P2, s2⟩ := s1.put h1
  exact h2 _ _ _ _ _ _ s2
theorem t_asgT {t : Tg} {e : IX.E} (h : tS K call (.asgT t e vs) E σ H) : tAsg (rd K call e) (gT K t) E σ H := by
  obtain ⟨B, ρ, st, Z, C, T, P, sr, h⟩ := h
  simp only [execS, evalB_bind] at h
  refine sr.evE out_wrF h fun x st1 h v Z1 H1 T1 P1 s1 => ?_
  obtain ⟨ρ2, h1, h2⟩ := stoU_ok h
  exact gS_bind s1 h1 fun σ' T' P' s2 => h2 _ _ _ _ _ _ s2
theorem view_fz (vs : List Nat) (ρ : SEnv) : view vs (IX.fz vs ρ) = view vs ρ := by
  apply List.ext_getElem?
  intro i
  rw [view_get, view_get, fz_get]
  cases ρ[i]? with
  | none => rfl
  | some o =>
    cases o with
    | none => rfl
    | some x =>
      simp only [Option.map_some, Option.bind_some]
      unfold fz1
      split
      · rename_i hc
        simp only [Bool.and_eq_true, List.contains_iff_mem] at hc
        unfold visible
        simp [hc.1.1]
      · rfl
theorem fz_fz (vs : List Nat) (ρ : SEnv) : IX.fz vs (IX.fz vs ρ) = IX.fz vs ρ := by
  apply List.ext_getElem?
  intro i
  rw [fz_get, fz_get]
  cases ρ[i]? with
  | none => rfl
  | some o =>
    cases o with
    | none => rfl
    | some x =>
      simp only [Option.map_some]
      unfold fz1
      split
      · split <;> rfl
      · rfl
theorem view_if (vs : List Nat) (ρ : SEnv) (b : Prop) [Decidable b] : view vs (if b then ρ else IX.fz vs ρ) = view vs ρ := by
  split
  · rfl
  · exact view_fz vs ρ
theorem fz_if (vs : List Nat) (ρ : SEnv) (b : Prop) [Decidable b] : IX.fz vs (if b then ρ else IX.fz vs ρ) = IX.fz vs ρ := by
  split
  · rfl
  · exact fz_fz vs ρ
theorem t_par {i j : Nat} {a b : IX.E} (h : tS K call (.par i j a b vs) E σ H) : tPar i j (tCons (rd K call a) (tCons (rd K call b) tNil)) E σ H := by
  obtain ⟨B, ρ, st, Z, C, T, P, sr, h⟩ := h
  simp only [execS, evalB_bind] at h
  refine sr.evE out_wrF h fun x st1 h v Z1 H1 T1 P1 s1 => ?_
  rw [← view_if vs ρ (x.2 = 2)] at h
  refine s1.evE out_wrF h fun y st2 h w Z2 H2 T2 P2 s2 => ?_
  refine ⟨v, w, rfl, ?_⟩
  rw [fz_if] at s2
  split at h
  · exact h.elim
  · obtain ⟨ρ2, h1, h2⟩ := stoU_ok h
    obtain ⟨ρ1, g1, g2⟩ := Option.bind_eq_some_iff.mp h1
    have e : (if y.2 = 2 then (if x.2 = 2 then ρ else IX.fz vs ρ) else IX.fz vs ρ) = (if x.2 = 2 ∧ y.2 = 2 then ρ else IX.fz vs ρ) := by
      by_cases q1 : x.2 = 2
      · by_cases q2 : y.2 = 2
        · simp [q1, q2]
        · simp [q1, q2]
      · by_cases q2 : y.2 = 2
        · simp [q1, q2]
        · simp [q1, q2]
    rw [e] at s2
    obtain ⟨P3, s3⟩ := s2.swap
    obtain ⟨T4, P4, s4⟩ := s3.put g1
    obtain ⟨T5, P5, s5⟩ := s4.put g2
    exact h2 _ _ _ _ _ _ s5
theorem t_expr {e : IX.E} (h : tS K call (.expr e vs) E σ H) : tDrop (rd K call e) E σ H := by
  obtain ⟨B, ρ, st, Z, C, T, P, sr, h⟩ := h
  simp only [execS] at h
  exact sr.evK out_wrF h fun x st1 h v Z1 H1 _ _ s1 => h _ _ _ _ _ _ s1
theorem t_ite {c : IX.E} {a b : Ss} (h : tS K call (.ite c vs a b) E σ H) : tIfS (rdb K call c) (tSs K call a) (tSs K call b) E σ H := by
  obtain ⟨B, ρ, st, Z, C, T, P, sr, h⟩ := h
  simp only [execS] at h
  refine sr.evC out_wrF h fun x st1 h Z1 H1 s1 => ?_
  cases x with
  | true => exact ⟨B, ρ, st1, Z1, C, T, P, s1, h⟩
  | false => exact ⟨B, ρ, st1, Z1, C, T, P, s1, h⟩
theorem t_ret {e : IX.E} (h : tS K call (.ret e vs) E σ H) : tRet (rd K call e) E σ H := by
  obtain ⟨B, ρ, st, Z, C, T, P, sr, h⟩ := h
  simp only [execS] at h
  exact sr.evE out_wrF h fun x st1 h v Z1 H1 T1 P1 s1 => h _ _ _ _ _ _ _ _ s1.np
theorem t_retN (h : tS K call .retN E σ H) : tRetN E σ H := by
  obtain ⟨B, ρ, st, Z, C, T, P, sr, h⟩ := h
  simp only [execS] at h
  exact h _ _ _ _ _ _ _ _ (sr.push (S := []) (x := (.non, 2)) Ow.of_non List.nodup_nil fun a ha => by cases ha).np
theorem t_brk (h : tS K call .brk E σ H) : tBreak E σ H := by
  obtain ⟨B, ρ, st, Z, C, T, P, sr, h⟩ := h
  simp only [execS] at h
  exact h _ _ _ _ _ _ sr
theorem t_cnt (h : tS K call .cnt E σ H) : tCont E σ H := by
  obtain ⟨B, ρ, st, Z, C, T, P, sr, h⟩ := h
  simp only [execS] at h
  exact h _ _ _ _ _ _ sr
theorem t_pass (h : tS K call .pass E σ H) : tNext E σ H := by
  obtain ⟨B, ρ, st, Z, C, T, P, sr, h⟩ := h
  simp only [execS] at h
  exact h _ _ _ _ _ _ sr
theorem t_rais {e : IX.E} (h : tS K call (.rais e) E σ H) : False := by
  obtain ⟨B, ρ, st, Z, C, T, P, sr, h⟩ := h
  simp only [execS] at h
  exact h
theorem t_nil (h : tSs K call .nil E σ H) : tNext E σ H := by
  obtain ⟨B, ρ, st, Z, C, T, P, sr, h⟩ := h
  simp only [execSs] at h
  exact h _ _ _ _ _ _ sr
theorem t_cons {s : S} {r : Ss} (h : tSs K call (.cons s r) E σ H) : tSeq (tS K call s) (tSs K call r) E σ H := by
  obtain ⟨B, ρ, st, Z, C, T, P, sr, h⟩ := h
  simp only [execSs] at h
  refine ⟨B, ρ, st, Z, C, T, P, sr, ?_⟩
  revert h
  cases execS call s ρ st with
  | no => exact id
  | ex _ _ _ => exact id
  | ok f st1 =>
    obtain ⟨f, ρ1⟩ := f
    cases f with
    | nx => exact fun h σ Z C H T P s1 => ⟨B, ρ1, st1, Z, C, T, P, s1, h⟩
    | brk => exact id
    | cnt => exact id
    | ret d l => exact id
theorem t_whl {n : Nat} {c : IX.E} {b : Ss} (h : tS K call (.whl n c vs b) E σ H) : tWhile (rdb K call c) (tSs K call b) E σ H := by
  obtain ⟨B, ρ, st, Z, C, T, P, sr, h⟩ := h
  simp only [execS] at h
  refine ⟨fun m σ H => ∃ ρ st Z C T P, SR K B Z C H st σ ρ T P [] [] ∧ WrF K B (whlGo (fun ρ st => evalC call c vs ρ st) (fun ρ st => execSs call b ρ st) m ρ st) E, ⟨n, ρ, st, Z, C, T, P, sr, h⟩, ?_⟩
  rintro m σ H ⟨ρ, st, Z, C, T, P, sr, h⟩
  cases m with
  | zero => exact h.elim
  | succ m =>
    simp only [whlGo] at h
    refine sr.evC out_wrF h fun x st1 h Z1 H1 s1 => ?_
    cases x with
    | false => exact h _ _ _ _ _ _ s1
    | true =>
      simp only [if_true] at h ⊢
      refine ⟨fun σ H => ∃ ρ st Z C T P, SR K B Z C H st σ ρ T P [] [] ∧ WrF K B (whlGo (fun ρ st => evalC call c vs ρ st) (fun ρ st => execSs call b ρ st) m ρ st) E, fun σ' H' q => ⟨m, Nat.lt_succ_self m, q⟩, B, ρ, st1, Z1, C, T, P, s1, ?_⟩
      revert h
      cases execSs call b ρ st1 with
      | no => exact id
      | ex _ _ _ => exact id
      | ok f st2 =>
        obtain ⟨f, ρ1⟩ := f
        cases f with
        | nx => exact fun h σ Z C H T P s2 => ⟨ρ1, st2, Z, C, T, P, s2, h⟩
        | cnt => exact fun h σ Z C H T P s2 => ⟨ρ1, st2, Z, C, T, P, s2, h⟩
        | brk => exact id
        | ret d l => exact id
end
end IX
/-! IXq: loops and writings by their readings. Own work. -/
namespace IX
open PySem PySem.Spec PyProof.Rows L2 Evl

section
variable {K : PySem.W.Frag} {call : Nat → List D → Sto → R DL} {B : Ba} {Z Z0 Z' Z1 Z2 Zs H H0 H' H1 H2 : Hp} {C C1 C2 Cs : List Addr} {v w : V} {d : D} {x y : DL} {l : Nat} {S0 S1 S2 : List Addr} {st st1 st2 : Sto} {σ σ2 : L2.St} {ρ ρ' ρ2 : SEnv} {T T2 : Nat → List Addr} {P P2 : List Addr} {ws : List V} {ys : List DL} {vs wr : List Nat} {β : Type} {W : R β → Prop} {E : Ends}
/-! ### for -/
theorem pre_take (pc : Pre C C2) (k : Nat) (h : k < C.length) : C2[k]? = some C[k] := pc k _ (List.getElem?_eq_getElem h)
theorem pre_len (pc : Pre C C2) : C.length ≤ C2.length := by
  cases Nat.lt_or_ge C2.length C.length with
  | inr h => exact h
  | inl h =>
    have := pre_take pc C2.length h
    rw [List.getElem?_eq_none (Nat.le_refl _)] at this
    cases this
theorem pre_mem (pc : Pre C C2) {a : Addr} (h : a ∈ C) : a ∈ C2 := by
  obtain ⟨k, hk, e⟩ := List.getElem_of_mem h
  have := pre_take pc k hk
  rw [e] at this
  exact List.mem_of_getElem? this
theorem re_pre (re : RE K Z C2 H st) (pc : Pre C C2) : RE K Z C H (st.take C.length) := by
  refine ⟨re.ex, ?_, fun k ds h => ?_, fun a ha => re.cz a (pre_mem pc ha), ?_⟩
  · have := pre_len pc
    rw [List.length_take, ← re.len]
    omega
  · have hk : k < C.length := by
      cases Nat.lt_or_ge k C.length with
      | inl h => exact h
      | inr h2 => rw [List.getElem?_eq_none (by rw [List.length_take]; omega)] at h; cases h
    rw [List.getElem?_take_of_lt hk] at h
    obtain ⟨a, vs, h1, h2⟩ := re.cel k ds h
    have h3 := pre_take pc k hk
    rw [h1] at h3
    cases h3
    exact ⟨_, vs, List.getElem?_eq_getElem hk, h2⟩
  · have e : C = C2.take C.length := by
      apply List.ext_getElem?
      intro i
      by_cases hi : i < C.length
      · rw [List.getElem?_take_of_lt hi, pre_take pc i hi, List.getElem?_eq_getElem hi]
      · rw [List.getElem?_eq_none (l := C2.take C.length) (by rw [List.length_take]; omega), List.getElem?_eq_none (by omega)]
    rw [e]
    exact re.nd.sublist (List.take_sublist _ _)
theorem post_pre (re : RE K Z C2 H st) (pc : Pre C C2) (P : Post K Z C H Z2 H' (st.take C.length)) : Post K Z C2 H Z2 H' st := by
  have key : ∀ a, a ∈ C2 → a ∉ C → ∃ us, H a = some (.lst us) := fun a h _ => re.some h
  refine ⟨P.z, ⟨P.re.ex, re.len, fun k ds h => ?_, fun a ha => ?_, re.nd⟩, fun a o h hc => P.fr a o h fun hm => hc (pre_mem pc hm), P.nw⟩
  · by_cases hk : k < C.length
    · obtain ⟨a, vs, h1, h2⟩ := P.re.cel k ds (by rw [List.getElem?_take_of_lt hk]; exact h)
      exact ⟨a, vs, pc k a h1, h2⟩
    · obtain ⟨a, vs, h1, h2, h3⟩ := re.cel k ds h
      refine ⟨a, vs, h1, P.fr a _ h2 fun hm => ?_, h3⟩
      obtain ⟨j, hj, e⟩ := List.getElem_of_mem hm
      have h4 := pre_take pc j hj
      rw [e] at h4
      obtain ⟨g1, g2⟩ := List.getElem?_eq_some_iff.mp h4
      obtain ⟨g3, g4⟩ := List.getElem?_eq_some_iff.mp h1
      exact List.pairwise_iff_getElem.mp re.nd j k g1 g3 (by omega) (g2.trans g4.symm)
  · by_cases hm : a ∈ C
    · exact P.re.cz a hm
    · obtain ⟨us, hu⟩ := re.some ha
      cases e : Z2 a with
      | none => rfl
      | some o =>
        have := P.nw a (re.cz a ha) (by rw [e]; simp)
        rw [hu] at this; cases this
theorem it_pre {J : It} {ds : List D} (it : ItOk K Zs Cs J ds) (e : Ex Zs Z) (pc : Pre Cs C) (re : RE K Z C H st) :
    (∀ (i : Nat) (d : D), ds[i]? = some d → J.go i H ∧ ∀ x H', J.yld i H x H' → ∃ Z2, Post K Z C H Z2 H' st ∧ Is K Z2 C x d) ∧ J.stop ds.length H := by
  obtain ⟨h1, h2⟩ := it.2 Z H (st.take Cs.length) e (re_pre re pc)
  refine ⟨fun i d hd => ?_, h2⟩
  obtain ⟨g1, g2⟩ := h1 i d hd
  refine ⟨g1, fun x H' hy => ?_⟩
  obtain ⟨Z2, g3, g4⟩ := g2 x H' hy
  exact ⟨Z2, post_pre re pc g3, g4.mono (Ex.refl Z2) pc⟩
theorem md_of (re : RE K Z C H st) (P : Post K Z C H Z2 H' st1) : Md K Z C H Z2 H' st1 [] := ⟨⟨st, re⟩, P, List.nodup_nil, fun _ h => by simp at h, fun _ h => by simp at h⟩
theorem is_lv0 (i : Is K Z C v d) : Ow K Z C H (lv0 d).2 [] v (lv0 d).1 := by
  unfold lv0
  by_cases f : d.flat = true
  · exact .flt i f
  · simp only [f]
    exact .fro i
theorem for_core {t : Tg} {b : Ss} {J : It} {ds : List D} (it : ItOk K Zs Cs J ds) (ef : Ex Zs B.Zf) (pf : Pre Cs B.Cf) (sr : SR K B Z C H st σ ρ T P [] []) (h : WrF K B (forGo (fun ρ st => execSs call b ρ st) t ds ρ st) E) :
    ∃ W : Nat → Nat → L2.St → Hp → Prop, (∃ m, W 0 m σ H) ∧ ∀ i m σ H, W i m σ H → (J.stop i H ∧ E.nx σ H) ∨ (J.go i H ∧ ∃ N : L2.St → Hp → Prop, (∀ σ' H', N σ' H' → ∃ m', m' < m ∧ W (i + 1) m' σ' H') ∧
      ∀ x H', J.yld i H x H' → gT K t x σ H' fun σ2 H2 => tSs K call b { E with nx := N, ct := N, bk := E.nx } σ2 H2) := by
  refine ⟨fun i m σ H => m = ds.length - i ∧ i ≤ ds.length ∧ ∃ ρ st Z C T P, SR K B Z C H st σ ρ T P [] [] ∧ WrF K B (forGo (fun ρ st => execSs call b ρ st) t (ds.drop i) ρ st) E, ⟨ds.length, rfl, Nat.zero_le _, ρ, st, Z, C, T, P, sr, h⟩, ?_⟩
  rintro i m σ H ⟨rfl, hi, ρ, st, Z, C, T, P, sr, h⟩
  obtain ⟨i1, i2⟩ := it_pre it (ef.trans sr.ef) (fun k a e => sr.pf k a (pf k a e)) sr.re
  by_cases hl : i < ds.length
  · right
    obtain ⟨g1, g2⟩ := i1 i ds[i] (List.getElem?_eq_getElem hl)
    rw [List.drop_eq_getElem_cons hl] at h
    simp only [forGo] at h
    refine ⟨g1, fun σ H => ∃ ρ st Z C T P, SR K B Z C H st σ ρ T P [] [] ∧ WrF K B (forGo (fun ρ st => execSs call b ρ st) t (ds.drop (i + 1)) ρ st) E, fun σ' H' q => ⟨ds.length - (i + 1), by omega, rfl, by omega, q⟩, fun x H' hy => ?_⟩
    obtain ⟨Z2, p2, is2⟩ := g2 x H' hy
    split at h
    · exact h.elim
    · rename_i ρ1 hb
      have s2 := sr.md (md_of sr.re p2) (is_lv0 is2)
      refine gS_bind s2 hb fun σ' T' P' s3 => ?_
      refine ⟨B, ρ1, st, Z2, C, T', P', s3, ?_⟩
      revert h
      cases execSs call b ρ1 st with
      | no => exact id
      | ex _ _ _ => exact id
      | ok f st2 =>
        obtain ⟨f, ρ2⟩ := f
        cases f with
        | nx => exact fun h σ Z C H T P s4 => ⟨ρ2, st2, Z, C, T, P, s4, h⟩
        | cnt => exact fun h σ Z C H T P s4 => ⟨ρ2, st2, Z, C, T, P, s4, h⟩
        | brk => exact id
        | ret d l => exact id
  · left
    have e : i = ds.length := by omega
    subst e
    rw [List.drop_length] at h
    simp only [forGo] at h
    exact ⟨i2, h _ _ _ _ _ _ sr⟩
theorem t_for {t : Tg} {s : Sr} {b : Ss} (h : tS K call (.for_ t s vs b) E σ H) : tFor (rdI K call s) (gT K t) (tSs K call b) E σ H := by
  obtain ⟨B, ρ, st, Z, C, T, P, sr, h⟩ := h
  simp only [execS] at h
  refine sr.evS out_wrF (fun i hi => hi) h fun ds st1 h J Z1 H1 e1 p1 s1 it => ?_
  exact for_core it (Ex.refl Z1) (Pre.refl C) s1.high (h.low s1.ef s1.pf)
theorem protGo_get (wr : List Nat) : ∀ (ρ : SEnv) (k i : Nat), (protGo wr k ρ)[i]? = (ρ[i]?).map fun o => if wr.contains (k + i) then o else o.map fun x => (x.1, 3)
  | [], k, i => by simp [protGo]
  | o :: r, k, 0 => by simp [protGo]
  | o :: r, k, i + 1 => by
    simp only [protGo, List.getElem?_cons_succ, protGo_get wr r (k + 1) i]
    rw [show k + 1 + i = k + (i + 1) by omega]
theorem protGo_len (wr : List Nat) : ∀ (ρ : SEnv) (k : Nat), (protGo wr k ρ).length = ρ.length
  | [], k => rfl
  | o :: r, k => by simp [protGo, protGo_len wr r]
theorem backGo_get (wr : List Nat) : ∀ (ρ ρ2 : SEnv) (k i : Nat), (backGo wr k ρ ρ2)[i]? = match ρ[i]?, ρ2[i]? with
    | some o, some p => some (if wr.contains (k + i) then backOf o p else o)
    | _, _ => none
  | [], _, k, i => by simp [backGo]
  | o :: r, [], k, i => by
    simp only [backGo, List.getElem?_nil]
    split <;> simp_all
  | o :: r, p :: q, k, 0 => by simp [backGo]
  | o :: r, p :: q, k, i + 1 => by
    simp only [backGo, List.getElem?_cons_succ, backGo_get wr r q (k + 1) i]
    rw [show k + 1 + i = k + (i + 1) by omega]
theorem backGo_len (wr : List Nat) : ∀ (ρ ρ2 : SEnv) (k : Nat), (backGo wr k ρ ρ2).length ≤ ρ2.length
  | [], _, k => by simp [backGo]
  | o :: r, [], k => by simp [backGo]
  | o :: r, p :: q, k => by
    have := backGo_len wr r q (k + 1)
    simp only [backGo, List.length_cons]
    omega
def offs (wr : List Nat) (n : Nat) : List Nat := (List.range n).filter fun i => !wr.contains i
theorem mem_offs {n i : Nat} : i ∈ offs wr n ↔ i < n ∧ wr.contains i = false := by
  unfold offs
  rw [List.mem_filter, List.mem_range]
  simp
/-- the loop's own base -/
def prB (B : Ba) (Z : Hp) (C : List Addr) (σ : L2.St) (ρ : SEnv) : Ba := { B with Zf := Z, Cf := C, σp := σ, ρp := ρ }
theorem SR.prot (sr : SR K B Z C H st σ (IX.fz (offs wr ρ.length) ρ) T P [] []) (hT : ∀ i, i ∈ offs wr ρ.length → T i = []) : SR K (prB B Z C σ (protGo wr 0 ρ)) Z C H st σ (protGo wr 0 ρ) T P [] [] := by
  obtain ⟨e0, ef, ex, re, pf, pre, fr, nw, len, ow, dj, nd, pv, pn, pt, my, pic⟩ := sr
  refine ⟨e0, Ex.refl Z, ex, re, Pre.refl C, pre, fr, nw, ?_, fun i x hx => ?_, dj, nd, pv, pn, pt, my, fun i d hd => ⟨hd, rfl⟩⟩
  · rw [protGo_len]
    unfold IX.fz at len
    rw [fzGo_len] at len
    exact len
  · rw [protGo_get, Nat.zero_add] at hx
    cases e : ρ[i]? with
    | none => rw [e] at hx; cases hx
    | some o =>
      rw [e] at hx
      simp only [Option.map_some, Option.some.injEq] at hx
      have hi : i < ρ.length := by
        cases Nat.lt_or_ge i ρ.length with
        | inl h => exact h
        | inr h => rw [List.getElem?_eq_none h] at e; cases e
      split at hx
      · rename_i hw
        subst hx
        have := ow i x (by
          rw [fz_get, e]
          simp only [Option.map_some]
          unfold fz1
          rw [if_neg]
          intro hc
          simp only [Bool.and_eq_true, List.contains_iff_mem] at hc
          have := (mem_offs.mp hc.1.1).2
          rw [hw] at this; cases this)
        exact this
      · rename_i hw
        obtain ⟨y, rfl, rfl⟩ := Option.map_eq_some_iff.mp hx
        have hm : i ∈ offs wr ρ.length := mem_offs.mpr ⟨hi, by simpa using hw⟩
        obtain ⟨v, h1, h2⟩ := ow i (fz1 (offs wr ρ.length) i y) (by rw [fz_get, e]; rfl)
        refine ⟨v, h1, ?_⟩
        rw [hT i hm] at h2 ⊢
        show Ow K Z C H 0 [] v y.1
        unfold fz1 at h2
        split at h2
        · exact h2
        · rename_i hc
          by_cases f : y.1.flat = true
          · exact .flt (h2.flat0 f).2 f
          · have : y.2 = 3 := by
              simp only [Bool.and_eq_true, List.contains_iff_mem, not_and, bne_iff_ne, ne_eq, Decidable.not_not, Bool.not_eq_true'] at hc
              exact hc ⟨hm, by simpa using f⟩
            rw [this] at h2
            exact h2
theorem SR.unprot (sr : SR K B Z C H st σ ρ T P [] []) (post : Post K (frz Z H (nodes T (offs wr ρ.length))) C H Z1 H1 st1) {B' : Ba} (hB : B' = prB B Z1 C σ (protGo wr 0 ρ)) (s2 : SR K B' Z2 C2 H2 st2 σ2 ρ2 T2 P2 [] []) :
    ∃ T3, SR K B (unf Z2 (nodes T (offs wr ρ.length))) C2 H2 st2 σ2 (backGo wr 0 ρ ρ2) T3 [] [] [] := by
  subst hB
  generalize hF : nodes T (offs wr ρ.length) = F at post
  have hz : ∀ a ∈ F, Z a = none := fun a h => by
    rw [← hF] at h
    obtain ⟨i, _, h⟩ := mem_nodes.mp h
    exact (sr.my a (.inl ⟨i, h⟩)).2.1
  have e12 : Ex Z1 Z2 := s2.ef
  have e02 : Ex Z Z2 := ((frz_ex hz).trans post.z).trans e12
  have eu : Ex Z (unf Z2 F) := fun a o h => by
    unfold unf
    rw [if_neg fun hs => by rw [hz a hs] at h; cases h]
    exact e02 a o h
  have un : ∀ a, Z2 a = none → unf Z2 F a = none := fun a h => by
    unfold unf
    split
    · rfl
    · exact h
  have fH : ∀ a ∈ F, Z2 a = H a ∧ H2 a = H a ∧ ∃ us, H a = some (.lst us) := fun a ha => by
    have ha' := ha
    rw [← hF] at ha'
    obtain ⟨i, _, h⟩ := mem_nodes.mp ha'
    obtain ⟨_, _, ⟨us, hu⟩, _⟩ := sr.my a (.inl ⟨i, h⟩)
    have h1 : frz Z H F a = some (.lst us) := by rw [frz_in ha]; exact hu
    have h2 := e12 _ _ (post.z _ _ h1)
    exact ⟨by rw [h2, hu], by rw [s2.re.ex _ _ h2, hu], us, hu⟩
  have nl : NoL Z2 (unf Z2 F) := fun a o h => by
    unfold unf
    split
    · rename_i hs
      obtain ⟨g1, _, us, g2⟩ := fH a hs
      rw [g1, g2] at h
      cases h
      exact .inr ⟨us, rfl⟩
    · exact .inl h
  have pc : Pre C C2 := s2.pf
  refine ⟨fun i => if i ∈ offs wr ρ.length then T i else [], ⟨sr.e0, sr.ef.trans eu, sr.ex.trans eu, ⟨fun a o h => ?_, s2.re.len, s2.re.cel, fun a ha => un a (s2.re.cz a ha), s2.re.nd⟩, fun k a e => pc k a (sr.pf k a e), s2.pre, s2.fr, fun a h1 h2 => s2.nw a h1 fun h => h2 (un a h), ?_, fun i x hx => ?_, fun i j a h1 h2 => ?_, fun i => ?_, .nil, List.nodup_nil, fun i a _ h => (by cases h), fun a ha => ?_, fun i d hd => ?_⟩⟩
  · unfold unf at h
    split at h
    · cases h
    · exact s2.re.ex a o h
  · exact Nat.le_trans (backGo_len wr ρ ρ2 0) s2.len
  · rw [backGo_get, Nat.zero_add] at hx
    cases e : ρ[i]? with
    | none => rw [e] at hx; cases hx
    | some o =>
      cases e2 : ρ2[i]? with
      | none => rw [e, e2] at hx; cases hx
      | some p =>
        rw [e, e2] at hx
        simp only [Option.some.injEq] at hx
        have hi : i < ρ.length := by
          cases Nat.lt_or_ge i ρ.length with
          | inl h => exact h
          | inr h => rw [List.getElem?_eq_none h] at e; cases e
        by_cases hw : wr.contains i = true
        · rw [if_pos hw] at hx
          rw [if_neg fun hm => by have := (mem_offs.mp hm).2; rw [hw] at this; cases this]
          unfold backOf at hx
          split at hx
          · rename_i d3
            cases hx
            obtain ⟨v, h1, h2⟩ := sr.ow i _ e
            obtain ⟨g1, g2⟩ := s2.pic i d3 (by show (protGo wr 0 ρ)[i]? = _; rw [protGo_get, Nat.zero_add, e, Option.map_some, if_pos hw])
            refine ⟨v, by rw [g2]; exact h1, ?_⟩
            exact .fro ((h2.zero).2.mono eu pc)
          · split at hx
            · rename_i d4 l4
              split at hx
              · rename_i f
                cases hx
                obtain ⟨v, h1, h2⟩ := s2.ow i _ e2
                exact ⟨v, h1, .flt ((h2.flat0 f).2.noL nl f) f⟩
              · cases hx
            · cases hx
        · rw [if_neg hw] at hx
          subst hx
          have hm : i ∈ offs wr ρ.length := mem_offs.mpr ⟨hi, by simpa using hw⟩
          rw [if_pos hm]
          obtain ⟨v, h1, h2⟩ := sr.ow i _ e
          obtain ⟨g1, g2⟩ := s2.pic i x.1 (by show (protGo wr 0 ρ)[i]? = _; rw [protGo_get, Nat.zero_add, e, Option.map_some, if_neg hw]; rfl)
          refine ⟨v, by rw [g2]; exact h1, h2.mono eu pc fun a ha => ?_⟩
          have hf : a ∈ F := by rw [← hF]; exact mem_nodes.mpr ⟨i, hm, ha⟩
          exact ⟨by unfold unf; rw [if_pos hf], (fH a hf).2.1⟩
  · split at h1
    · split at h2
      · exact sr.dj i j a h1 h2
      · cases h2
    · cases h1
  · split
    · exact sr.nd i
    · exact List.nodup_nil
  · rcases ha with ⟨i, ha⟩ | ha
    · split at ha
      · rename_i hm
        have hf : a ∈ F := by rw [← hF]; exact mem_nodes.mpr ⟨i, hm, ha⟩
        obtain ⟨g1, g2, us, g3⟩ := fH a hf
        refine ⟨(sr.my a (.inl ⟨i, ha⟩)).1, by unfold unf; rw [if_pos hf], ⟨us, by rw [g2]; exact g3⟩, fun hc => ?_⟩
        have := s2.re.cz a hc
        rw [g1, g3] at this; cases this
      · cases ha
    · cases ha
  · obtain ⟨g1, g2⟩ := sr.pic i d hd
    have hp : (protGo wr 0 ρ)[i]? = some (some (d, 3)) := by
      rw [protGo_get, Nat.zero_add, g1, Option.map_some]
      split <;> rfl
    obtain ⟨g3, g4⟩ := s2.pic i d hp
    refine ⟨?_, by rw [g4]; exact g2⟩
    rw [backGo_get, g1, g3]
    simp only
    split <;> rfl
theorem t_prot {b r : Ss} (h : tSs K call (.prot wr b r) E σ H) : tSeq (tSs K call b) (tSs K call r) E σ H := by
  obtain ⟨B, ρ, st, Z, C, T, P, sr, h⟩ := h
  simp only [execSs] at h
  have hP := sr.nil
  subst hP
  have s1 := sr.fz (offs wr ρ.length)
  have s2 := s1.prot (wr := wr) (fun i hi => by rw [if_pos hi])
  have ez : Ex Z (frz Z H (nodes T (offs wr ρ.length))) := frz_ex fun a h => by
    obtain ⟨i, _, h⟩ := mem_nodes.mp h
    exact (sr.my a (.inl ⟨i, h⟩)).2.1
  refine ⟨_, _, st, _, C, _, [], s2, ?_⟩
  revert h
  cases execSs call b (protGo wr 0 ρ) st with
  | no => exact fun h => h.elim
  | ex _ _ _ => exact fun h => h.elim
  | ok f st2 =>
    obtain ⟨f, ρ2⟩ := f
    cases f with
    | nx =>
      intro h σ2 Z2 C2 H2 T2 P2 s3
      obtain ⟨T3, s4⟩ := sr.unprot (Post.refl s1.re) rfl s3
      exact ⟨B, _, st2, _, C2, T3, [], s4, h⟩
    | cnt => exact fun h => h.elim
    | brk => exact fun h => h.elim
    | ret d l => exact fun h ρ σ Z C H T P v s3 => h ρ σ Z C H T P v (SR.low (B := B.np) s3 (sr.ef.trans ez) sr.pf)
theorem t_forR {t : Tg} {s : Sr} {b : Ss} (h : tS K call (.forR t s vs wr b) E σ H) : tFor (rdI K call s) (gT K t) (tSs K call b) E σ H := by
  obtain ⟨B, ρ, st, Z, C, T, P, sr, h⟩ := h
  simp only [execS] at h
  split at h
  · exact h.elim
  · rename_i hd
    -- what is out of sight is not read
    have key : rdI K call s σ H fun J H1 => ∃ W : Nat → Nat → L2.St → Hp → Prop, (∃ m, W 0 m σ H1) ∧ ∀ i m σ H, W i m σ H → (J.stop i H ∧ E.nx σ H) ∨ (J.go i H ∧ ∃ N : L2.St → Hp → Prop, (∀ σ' H', N σ' H' → ∃ m', m' < m ∧ W (i + 1) m' σ' H') ∧
        ∀ x H', J.yld i H x H' → gT K t x σ H' fun σ2 H2 => tSs K call b { E with nx := N, ct := N, bk := E.nx } σ2 H2) := by
      have hv : view vs ρ = view (vs.filter fun i => decide (i < ρ.length)) ρ := by
        apply List.ext_getElem?
        intro i
        rw [view_get, view_get]
        cases e : ρ[i]? with
        | none => rfl
        | some o =>
          have hi : i < ρ.length := by
            cases Nat.lt_or_ge i ρ.length with
            | inl h => exact h
            | inr h => rw [List.getElem?_eq_none h] at e; cases e
          have : vs.contains i = (vs.filter fun i => decide (i < ρ.length)).contains i := by
            rw [Bool.eq_iff_iff, List.contains_iff_mem, List.contains_iff_mem, List.mem_filter]
            simp [hi]
          cases o with
          | none => rfl
          | some x =>
            simp only [Option.map_some, Option.bind_some]
            unfold visible
            rw [this]
      rw [hv] at h
      refine sr.evS out_wrF (vs2 := offs wr ρ.length) (fun i hi => ?_) h fun ds st1 h J Z1 H1 e1 p1 s1 it => ?_
      · rw [List.mem_filter] at hi
        refine mem_offs.mpr ⟨by simpa using hi.2, ?_⟩
        rw [Bool.eq_false_iff]
        intro hc
        exact hd (List.any_eq_true.mpr ⟨i, hi.1, hc⟩)
      have s2 := s1.prot (wr := wr) (fun i hi => by rw [if_pos hi])
      have ez : Ex Z Z1 := (frz_ex fun a h => by
        obtain ⟨i, _, h⟩ := mem_nodes.mp h
        exact (sr.my a (.inl ⟨i, h⟩)).2.1).trans e1
      refine for_core it (Ex.refl Z1) (Pre.refl C) s2 ?_
      revert h
      cases forGo (fun ρ st => execSs call b ρ st) t ds (protGo wr 0 ρ) st1 with
      | no => exact fun h => h.elim
      | ex _ _ _ => exact fun h => h.elim
      | ok f st2 =>
        obtain ⟨f, ρ2⟩ := f
        cases f with
        | nx =>
          intro h σ2 Z2 C2 H2 T2 P2 s3
          obtain ⟨T3, s4⟩ := sr.unprot p1 rfl s3
          exact h _ _ _ _ _ _ s4
        | cnt => exact fun h => h.elim
        | brk => exact fun h => h.elim
        | ret d l => exact fun h ρ σ Z C H T P v s3 => h ρ σ Z C H T P v (SR.low (B := B.np) s3 (sr.ef.trans ez) sr.pf)
    exact key
end
end IX
/-! IXr: writings by their readings. Own work. -/
namespace IX
open PySem PySem.Spec PyProof.Rows L2 Evl

section
variable {K : PySem.W.Frag} {call : Nat → List D → Sto → R DL} {B : Ba} {Z Z0 Z' Z1 Z2 Zs H H0 H' H1 H2 : Hp} {C C1 C2 Cs : List Addr} {v w : V} {d : D} {x y : DL} {l : Nat} {S0 S1 S2 : List Addr} {st st1 st2 : Sto} {σ σ2 : L2.St} {ρ ρ' ρ2 : SEnv} {T T2 : Nat → List Addr} {P P2 : List Addr} {ws : List V} {ys : List DL} {vs wr : List Nat} {β : Type} {W : R β → Prop} {E : Ends}
theorem OwV.setAt {S Sy : List Addr} : ∀ {us : List V} {zs : List DL} {S : List Addr} (m : Nat), OwV K Z C H S us zs → S.Nodup → Ow K Z C H y.2 Sy v y.1 → Sy.Nodup → (∀ a ∈ S, a ∉ Sy) →
    ∃ S2, OwV K Z C H S2 (us.set m v) (zs.set m y) ∧ S2.Nodup ∧ ∀ a ∈ S2, a ∈ S ∨ a ∈ Sy
  | [], [], _, m, .nil, n, _, _, _ => ⟨[], .nil, List.nodup_nil, fun _ h => by cases h⟩
  | u :: us, z :: zs, _, 0, .cons (S := A) (S' := A') o t, n, oy, ny, dj => by
    obtain ⟨n1, n2, n3⟩ := List.nodup_append.mp n
    refine ⟨Sy ++ A', .cons oy t, List.nodup_append.mpr ⟨ny, n2, fun a h1 b h2 e => dj b (List.mem_append_right _ h2) (e ▸ h1)⟩, fun a h => ?_⟩
    rcases List.mem_append.mp h with h | h
    · exact .inr h
    · exact .inl (List.mem_append_right _ h)
  | u :: us, z :: zs, _, m + 1, .cons (S := A) (S' := A') o t, n, oy, ny, dj => by
    obtain ⟨n1, n2, n3⟩ := List.nodup_append.mp n
    obtain ⟨S2, g1, g2, g3⟩ := OwV.setAt (S := A') m t n2 oy ny fun a h => dj a (List.mem_append_right _ h)
    refine ⟨A ++ S2, .cons o g1, List.nodup_append.mpr ⟨n1, g2, fun a h1 b h2 e => ?_⟩, fun a h => ?_⟩
    · subst e
      rcases g3 a h2 with h | h
      · exact n3 a h1 a h rfl
      · exact dj a (List.mem_append_left _ h1) h
    · rcases List.mem_append.mp h with h | h
      · exact .inl (List.mem_append_left _ h)
      · exact (g3 a h).imp (List.mem_append_right _) id
theorem minLv_ok {l m : Nat} {xs : List D} {zs : List DL} (h : ∀ z ∈ zs, z ∈ itemsDL l xs ∨ z.2 = m) : minLv l m = 1 ∨ (minLv l m = 2 ∧ ∀ z ∈ zs, lvOk z) := by
  unfold minLv
  split
  · rename_i e
    refine .inr ⟨rfl, fun z hz => ?_⟩
    rcases h z hz with q | q
    · exact itemsDL_ok (.inl e.1) z q
    · exact .inl (q.trans e.2)
  · exact .inl rfl
/-- the pending value's own parts -/
theorem SR.head (sr : SR K B Z C H st σ ρ T P (v :: ws) (x :: ys)) : ∃ S P2, P = S ++ P2 ∧ Ow K Z C H x.2 S v x.1 ∧ OwV K Z C H P2 ws ys := by
  have := sr.pv
  cases this with
  | cons o t => exact ⟨_, _, rfl, o, t⟩
theorem ownT {i : Nat} {xs : List D} (sr : SR K B Z C H st σ ρ T P ws ys) {p : Addr} {S : List Addr} (hT : T i = p :: S) : p ∉ S ∧ S.Nodup ∧ ∀ a ∈ S, a ∉ P := by
  have n := sr.nd i
  rw [hT] at n
  obtain ⟨h1, h2⟩ := List.nodup_cons.mp n
  exact ⟨h1, h2, fun a h => sr.pt i a (by rw [hT]; exact List.mem_cons_of_mem _ h)⟩
theorem ownL_if {i : Nat} {r : List D × Nat} (b : Prop) [Decidable b] (h : ownL (if b then ρ else IX.fz vs ρ) i = some r) : ownL ρ i = some r := by
  split at h
  · exact h
  · unfold ownL at h ⊢
    rw [fz_get] at h
    cases e : ρ[i]? with
    | none => rw [e] at h; cases h
    | some o =>
      cases o with
      | none => rw [e] at h; cases h
      | some x =>
        rw [e] at h
        simp only [Option.map_some] at h
        obtain ⟨d, l⟩ := x
        unfold fz1 at h
        split at h
        · rename_i ys l' he
          split at he
          · cases he
            simp at h
          · cases he
            exact h
        · cases h
/-- y[x] = e -/
theorem t_set1 {i : Nat} {x e : IX.E} (h : tS K call (.set1 i x e vs) E σ H) : tAsg (rd K call e) (gSub (tVar i) (rd K call x) rSetL) E σ H := by
  obtain ⟨B, ρ, st, Z, C, T, P, sr, h⟩ := h
  simp only [execS, evalB_bind] at h
  refine sr.evE out_wrF h fun y st1 h v Z1 H1 T1 P1 s1 => ?_
  have hs : ∃ r, ownL (if y.2 = 2 then ρ else IX.fz vs ρ) i = some r := by
    cases ho : ownL (if y.2 = 2 then ρ else IX.fz vs ρ) i with
    | some r => exact ⟨r, rfl⟩
    | none =>
      exfalso
      revert h
      simp only [ho]
      cases evalE call x (view [] (if y.2 = 2 then ρ else IX.fz vs ρ)) st1 <;> exact fun h => h
  obtain ⟨⟨xs, l⟩, ho⟩ := hs
  obtain ⟨o1, o2, p, us, S, o3, o4, o5, o6, o7, o8⟩ := s1.own ho
  refine ⟨.ref p, o3, ?_⟩
  refine s1.evK out_wrF h fun k st2 h kv Z2 H2 hk _ s2 => ?_
  rw [ho] at h
  split at h
  · rename_i xs' l' n e1 e2
    cases e1
    split at h
    · rename_i m hm
      obtain ⟨a1, a2, p', us', S', a3, a4, a5, a6, a7, a8⟩ := s2.own ho
      rw [o3] at a3
      cases a3
      obtain ⟨Sy, P2, rfl, oy, t2⟩ := s2.head
      cases t2
      rw [List.append_nil] at *
      obtain ⟨b1, b2, b3⟩ := ownT (xs := xs) s2 a8
      obtain ⟨S2, c1, c2, c3⟩ := a7.setAt m b2 oy (by have := s2.pn; simpa using this) (fun a ha hy => b3 a ha (by simpa using hy)) (S := S')
      obtain ⟨Z3, T3, s3⟩ := s2.mut (P2 := []) (ws2 := []) (ys2 := []) a1 a2 o3 a8 c1 c2 (by simpa using a6) .nil List.nodup_nil (fun a ha => ⟨(c3 a ha).imp id (fun h => by simpa using h), by simp⟩) (fun a ha => by cases ha)
        (minLv_ok (l := l) (m := y.2) (xs := xs) fun z hz => by
          rcases List.mem_or_eq_of_mem_set hz with q | q
          · exact .inl q
          · exact .inr (by rw [q]))
      refine ⟨p, us', n, m, rfl, hk n e2, a4, by rw [a5]; exact hm, ?_⟩
      rw [List.map_set, itemsDL_fst] at s3
      exact h _ _ _ _ _ _ s3
    · exact h.elim
  · exact h.elim
theorem ints_ow : ∀ {us : List V} {S : List Addr} {xs : List D} {ns : List Int}, OwV K Z C H S us (itemsDL l xs) → ints? xs = some ns → us = ns.map V.int ∧ S = []
  | us, S, [], ns, o, h => by
    cases o
    cases h
    exact ⟨rfl, rfl⟩
  | us, S, .int i :: xs, ns, o, h => by
    simp only [ints?] at h
    obtain ⟨ms, hm, rfl⟩ := Option.map_eq_some_iff.mp h
    cases o with
    | cons o t =>
      obtain ⟨rfl, rfl⟩ := ow_int o
      obtain ⟨rfl, rfl⟩ := ints_ow t hm
      exact ⟨rfl, rfl⟩
  | _, _, .non :: _, _, _, h => by cases h
  | _, _, .bl _ :: _, _, _, h => by cases h
  | _, _, .str _ :: _, _, _, h => by cases h
  | _, _, .lst _ :: _, _, _, h => by cases h
  | _, _, .tup _ :: _, _, _, h => by cases h
  | _, _, .cell _ :: _, _, _, h => by cases h
  | _, _, .fn _ :: _, _, _, h => by cases h
  | _, _, .clo _ _ :: _, _, _, h => by cases h
  | _, _, .exc _ _ :: _, _, _, h => by cases h
  | _, _, .scr _ :: _, _, _, h => by cases h
/-- y.append(e) -/
def tApp (i : Nat) (K : PySem.W.Frag) (te : TE) : TS := fun E σ H => tBM K "list" rAppend (tVar i) (tCons te tNil) σ H fun _ H1 => E.nx σ H1
theorem t_app {i : Nat} {e : IX.E} (h : tS K call (.app i e vs) E σ H) : tDrop (tBM K "list" rAppend (tVar i) (tCons (rd K call e) tNil)) E σ H := by
  obtain ⟨B, ρ, st, Z, C, T, P, sr, h⟩ := h
  simp only [execS, evalB_bind] at h
  have hs : ∃ r, ownL ρ i = some r := by
    revert h
    cases evalE call e (view vs ρ) st with
    | no => exact fun h => h.elim
    | ex _ _ _ => exact fun h => h.elim
    | ok y st1 =>
      intro h
      simp only [bind_ok] at h
      cases ho : ownL (if y.2 = 2 then ρ else IX.fz vs ρ) i with
      | some r => exact ⟨r, ownL_if _ ho⟩
      | none => rw [ho] at h; exact h.elim
  obtain ⟨⟨xs, l⟩, ho⟩ := hs
  obtain ⟨o1, o2, p, us, S, o3, o4, o5, o6, o7, o8⟩ := sr.own ho
  refine ⟨.ref p, o3, .inl ⟨rfl, us, sq_of o4⟩, ?_⟩
  refine sr.evE out_wrF h fun y st1 h v Z1 H1 T1 P1 s1 => ?_
  split at h
  · rename_i xs' l' ho'
    have q := ownL_if _ ho'
    rw [ho] at q
    cases q
    split at h
    · rename_i hl
      obtain ⟨a1, a2, p', us', S', a3, a4, a5, a6, a7, a8⟩ := s1.own ho'
      rw [o3] at a3
      cases a3
      obtain ⟨Sy, P2, rfl, oy, t2⟩ := s1.head
      cases t2
      rw [List.append_nil] at *
      obtain ⟨b1, b2, b3⟩ := ownT (xs := xs) s1 a8
      have hm : most = 100000 := rfl
      have hsz : us'.length < sizeLine := by rw [a5]; exact Nat.lt_of_lt_of_le hl (by decide)
      have app : OwV K Z1 C H1 (S' ++ Sy) (us' ++ [v]) (itemsDL l xs ++ [y]) := a7.append (by have : OwV K Z1 C H1 (Sy ++ []) [v] [y] := .cons oy .nil; rw [List.append_nil] at this; exact this)
      obtain ⟨Z3, T3, s3⟩ := s1.mut (P2 := []) (ws2 := []) (ys2 := []) a1 a2 o3 a8 app (List.nodup_append.mpr ⟨b2, by have := s1.pn; simpa using this, fun a h1 b h2 e => b3 a h1 (by rw [e]; simpa using h2)⟩) (by rw [List.length_append, List.length_singleton]; omega) .nil List.nodup_nil
        (fun a ha => ⟨(List.mem_append.mp ha).imp id (fun h => by simpa using h), by simp⟩) (fun a ha => by cases ha)
        (minLv_ok (l := l) (m := y.2) (xs := xs) fun z hz => by
          rcases List.mem_append.mp hz with q | q
          · exact .inl q
          · exact .inr (by rw [List.mem_singleton.mp q]))
      refine ⟨p, us', v, rfl, rfl, a4, hsz, ?_⟩
      rw [List.map_append, itemsDL_fst] at s3
      exact h _ _ _ _ _ _ s3
    · exact h.elim
  · exact h.elim
theorem erase_at : ∀ {ns : List Int} {n : Int}, n ∈ ns → ∃ j, ns[j]? = some n ∧ (∀ m : Nat, m < j → ns[m]? ≠ some n) ∧ ns.eraseIdx j = ns.erase n
  | [], n, h => by cases h
  | m :: ns, n, h => by
    by_cases e : m = n
    · subst e
      exact ⟨0, rfl, fun m h => by omega, by simp⟩
    · have h2 : n ∈ ns := by
        rcases List.mem_cons.mp h with h | h
        · exact absurd h.symm e
        · exact h
      obtain ⟨j, h3, h4, h5⟩ := erase_at h2
      refine ⟨j + 1, by simpa using h3, fun k hk => ?_, ?_⟩
      · cases k with
        | zero => simpa using e
        | succ k => simpa using h4 k (by omega)
      · rw [List.eraseIdx_cons_succ, h5, List.erase_cons_tail (by simpa using e)]
theorem ow_int_map : ∀ ns : List Int, OwV K Z C H [] (ns.map V.int) (ns.map fun n => (D.int n, 2))
  | [] => .nil
  | n :: r => .cons (S := []) (.of_int n) (ow_int_map r)
/-- y.remove(e) -/
theorem t_rem {i : Nat} {e : IX.E} (h : tS K call (.rem i e vs) E σ H) : tDrop (tBM K "list" rRemI (tVar i) (tCons (rd K call e) tNil)) E σ H := by
  obtain ⟨B, ρ, st, Z, C, T, P, sr, h⟩ := h
  simp only [execS, evalB_bind] at h
  have hs : ∃ r, ownL ρ i = some r := by
    revert h
    cases evalE call e (view vs ρ) st with
    | no => exact fun h => h.elim
    | ex _ _ _ => exact fun h => h.elim
    | ok y st1 =>
      intro h
      simp only [bind_ok] at h
      cases ho : ownL (if y.2 = 2 then ρ else IX.fz vs ρ) i with
      | some r => exact ⟨r, ownL_if _ ho⟩
      | none => rw [ho] at h; exact h.elim
  obtain ⟨⟨xs, l⟩, ho⟩ := hs
  obtain ⟨o1, o2, p, us, S, o3, o4, o5, o6, o7, o8⟩ := sr.own ho
  refine ⟨.ref p, o3, .inl ⟨rfl, us, sq_of o4⟩, ?_⟩
  refine sr.evE out_wrF h fun y st1 h v Z1 H1 T1 P1 s1 => ?_
  split at h
  · rename_i xs' l' n ho' hn
    have q := ownL_if _ ho'
    rw [ho] at q
    cases q
    split at h
    · rename_i ns hns
      split at h
      · rename_i hmem
        obtain ⟨a1, a2, p', us', S', a3, a4, a5, a6, a7, a8⟩ := s1.own ho'
        rw [o3] at a3
        cases a3
        obtain ⟨Sy, P2, rfl, oy, t2⟩ := s1.head
        rw [hn] at oy
        obtain ⟨rfl, rfl⟩ := ow_int oy
        obtain ⟨rfl, rfl⟩ := ints_ow a7 hns
        obtain ⟨j, j1, j2, j3⟩ := erase_at hmem
        obtain ⟨Z3, T3, s3⟩ := s1.mut (P2 := []) (ws2 := []) (ys2 := []) (L := 2) a1 a2 o3 a8 (ow_int_map (ns.erase n)) List.nodup_nil (by
            rw [List.length_map] at a6 ⊢
            exact Nat.le_trans (List.length_erase_le) a6) .nil List.nodup_nil
          (fun a ha => by cases ha) (fun a ha => by cases ha) (.inr ⟨rfl, fun z hz => by
            obtain ⟨k, _, rfl⟩ := List.mem_map.mp hz
            exact .inl rfl⟩)
        refine ⟨p, ns, n, j, rfl, rfl, a4, j1, j2, ?_⟩
        rw [j3]
        rw [List.map_map] at s3
        exact h _ _ _ _ _ _ s3
      · exact h.elim
    · exact h.elim
  · exact h.elim
/-- return y, y a slot -/
theorem t_retv {i : Nat} (h : tS K call (.retv i) E σ H) : tRet (tVar i) E σ H := by
  obtain ⟨B, ρ, st, Z, C, T, P, sr, h⟩ := h
  simp only [execS] at h
  split at h
  · rename_i d l e
    obtain ⟨v, h1, h2⟩ := sr.ow i _ e
    refine ⟨v, h1, ?_⟩
    dsimp only [IX.l0] at h2
    have hP := sr.nil
    subst hP
    have hi : i < ρ.length := by
      cases Nat.lt_or_ge i ρ.length with
      | inl h => exact h
      | inr h => rw [List.getElem?_eq_none h] at e; cases e
    -- the picture is given up: the def ends here
    have s2 : SR K B.np Z C H st σ (ρ.set i none) (fun j => if j = i then [] else T j) (T i ++ []) [v] [(d, (IX.lvl (if l = 3 then 0 else l) d).2)] := by
      obtain ⟨e0, ef, ex, re, pf, pre, fr, nw, len, ow, dj, nd, pv, pn, pt, my, pic⟩ := sr.np
      refine ⟨e0, ef, ex, re, pf, pre, fr, nw, by simpa using len, fun j x hx => ?_, fun j k a h1 h2 => ?_, fun j => ?_, .cons (x := (d, (IX.lvl (if l = 3 then 0 else l) d).2)) (lvl_ow h2) .nil, ?_, fun j a h1 h2 => ?_, fun a ha => ?_, fun j d hd => by simp [Ba.np] at hd⟩
      · by_cases q : j = i
        · subst q
          rw [List.getElem?_set_self hi] at hx
          cases hx
        · rw [List.getElem?_set_ne (Ne.symm q)] at hx
          rw [if_neg q]
          exact ow j x hx
      · split at h1
        · cases h1
        · split at h2
          · cases h2
          · exact dj j k a h1 h2
      · split
        · exact List.nodup_nil
        · exact nd j
      · rw [List.append_nil]; exact nd i
      · rw [List.append_nil] at h2
        split at h1
        · cases h1
        · rename_i q
          exact q (dj j i a h1 h2)
      · rw [List.append_nil] at ha
        refine my a (.inl ?_)
        rcases ha with ⟨j, ha⟩ | ha
        · split at ha
          · cases ha
          · exact ⟨j, ha⟩
        · exact ⟨i, ha⟩
    exact h _ _ _ _ _ _ _ _ s2
  · exact h.elim
end
end IX
/-! IXs: cells by their readings. Own work. -/
namespace IX
open PySem PySem.Spec PyProof.Rows L2 Evl

section
variable {K : PySem.W.Frag} {call : Nat → List D → Sto → R DL} {B : Ba} {Z Z0 Z' Z1 Z2 Zs H H0 H' H1 H2 : Hp} {C C1 C2 Cs : List Addr} {v w : V} {d : D} {x y : DL} {l : Nat} {S0 S1 S2 : List Addr} {st st1 st2 : Sto} {σ σ2 : L2.St} {ρ ρ' ρ2 : SEnv} {T T2 : Nat → List Addr} {P P2 : List Addr} {ws : List V} {ys : List DL} {vs wr : List Nat} {β : Type} {W : R β → Prop} {E : Ends}
theorem SR.cellSet {c m : Nat} {a : Addr} {us : List V} {xs : List D} (sr : SR K B Z C H st σ ρ T P (v :: ws) (y :: ys)) (hc : C[c]? = some a) (hs : st[c]? = some xs) (hu : H a = some (.lst us)) (sc : y.1.scal = true) :
    ∃ P2, SR K B Z C (upd H a (.lst (us.set m v))) (st.set c (xs.set m y.1)) σ ρ T P2 ws ys := by
  obtain ⟨Sy, P0, rfl, oy, t2⟩ := sr.head
  have hcs : c < st.length := (List.getElem?_eq_some_iff.mp hs).1
  have isv : Is K (fun _ => none) [] v y.1 := by
    have f : y.1.flat = true := by
      cases hd : y.1 <;> simp_all [D.scal, D.flat]
    exact (oy.flat0 f).2.scal sc
  have za : ∀ b, Z b ≠ none → b ≠ a := fun b hb e => hb (e ▸ sr.re.cz a (List.mem_of_getElem? hc))
  have s2 := sr.step (Z2 := Z) (H2 := upd H a (.lst (us.set m v))) (st2 := st.set c (xs.set m y.1)) (Ex.refl Z) ⟨sr.re.ex.mut (sr.re.cz a (List.mem_of_getElem? hc)), by rw [List.length_set]; exact sr.re.len, fun k ds h => ?_, sr.re.cz, sr.re.nd⟩
    (fun b hb => ?_) (fun b o hb hn => ?_) (fun b h1 h2 => absurd h1 h2)
  · exact s2.drop
  · by_cases q : k = c
    · subst q
      rw [List.getElem?_set_self hcs] at h
      cases h
      obtain ⟨a', us', g1, g2, g3, g4, g5⟩ := sr.re.cel k xs hs
      rw [hc] at g1
      cases g1
      rw [hu] at g2
      cases g2
      refine ⟨a, us.set m v, hc, upd_same, by rw [List.length_set]; exact g3, g4.set isv m, ?_⟩
      rw [List.all_eq_true] at g5 ⊢
      intro z hz
      rcases List.mem_or_eq_of_mem_set hz with q | q
      · exact g5 z q
      · rw [q]; exact sc
    · rw [List.getElem?_set_ne (Ne.symm q)] at h
      obtain ⟨a', us', g1, g2, g3⟩ := sr.re.cel k ds h
      have ne : a' ≠ a := fun e => by
        subst e
        obtain ⟨h1, h2⟩ := List.getElem?_eq_some_iff.mp g1
        obtain ⟨h3, h4⟩ := List.getElem?_eq_some_iff.mp hc
        rcases Nat.lt_or_gt_of_ne q with q | q
        · exact List.pairwise_iff_getElem.mp sr.re.nd k c h1 h3 q (h2.trans h4.symm)
        · exact List.pairwise_iff_getElem.mp sr.re.nd c k h3 h1 q (h4.trans h2.symm)
      exact ⟨a', us', g1, by rw [upd_ne ne]; exact g2, g3⟩
  · obtain ⟨_, g2, _, g4⟩ := sr.my b hb
    exact ⟨g2, upd_ne fun e => g4 (e ▸ List.mem_of_getElem? hc)⟩
  · have := sr.cN hb hn
    have nb : b ≠ a := fun e => this (by rw [e]; exact List.mem_of_getElem? hc)
    rw [upd_ne nb]
    exact sr.fr b o hb hn
theorem fz_nil (ρ : SEnv) : IX.fz [] ρ = ρ := by
  apply List.ext_getElem?
  intro i
  rw [fz_get]
  cases ρ[i]? with
  | none => rfl
  | some o =>
    cases o with
    | none => rfl
    | some x => simp [fz1]
/-- a slot that holds a cell -/
theorem SR.cellAt {i c : Nat} (sr : SR K B Z C H st σ ρ T P ws ys) (h : (view vs ρ)[i]? = some (some (.cell c))) : ∃ a, σ[i]? = some (some (.ref a)) ∧ C[c]? = some a := by
  rw [view_get] at h
  cases e : ρ[i]? with
  | none => rw [e] at h; cases h
  | some o =>
    rw [e] at h
    cases o with
    | none => cases h
    | some x =>
      simp only [Option.map_some, Option.bind_some, Option.some.injEq] at h
      split at h
      · obtain ⟨d, l⟩ := x
        cases h
        obtain ⟨v, h1, h2⟩ := sr.ow i _ e
        obtain ⟨a, rfl, h3⟩ := is_cell (h2.flat0 rfl).2
        exact ⟨a, h1, h3⟩
      · cases h
theorem t_cset {i : Nat} {x e : IX.E} (h : tS K call (.cset i x e vs) E σ H) : tAsg (rd K call e) (gSub (tVar i) (rd K call x) rSetL) E σ H := by
  obtain ⟨B, ρ, st, Z, C, T, P, sr, h⟩ := h
  simp only [execS, evalB_bind] at h
  refine sr.evE out_wrF h fun y st1 h v Z1 H1 T1 P1 s1 => ?_
  have hs : ∃ c, (view [] (if y.2 = 2 then ρ else IX.fz vs ρ))[i]? = some (some (.cell c)) := by
    revert h
    cases evalE call x (view [] (if y.2 = 2 then ρ else IX.fz vs ρ)) st1 with
    | no => exact fun h => h.elim
    | ex _ _ _ => exact fun h => h.elim
    | ok k st2 =>
      intro h
      simp only [bind_ok] at h
      split at h
      · rename_i c n e1 e2
        exact ⟨c, e1⟩
      · exact h.elim
  obtain ⟨c, hc⟩ := hs
  obtain ⟨a, o3, o4⟩ := s1.cellAt hc
  refine ⟨.ref a, o3, ?_⟩
  refine s1.evK out_wrF h fun k st2 h kv Z2 H2 hk _ s2 => ?_
  split at h
  · rename_i c' n e1 e2
    rw [hc] at e1
    cases e1
    split at h
    · rename_i xs hx
      split at h
      · rename_i m hm
        split at h
        · rename_i hsc
          obtain ⟨a', us, g1, g2, g3, g4, g5⟩ := s2.re.cel c xs hx
          rw [o4] at g1
          cases g1
          obtain ⟨P3, s3⟩ := s2.cellSet (m := m) o4 hx g2 hsc
          refine ⟨a, us, n, m, rfl, hk n e2, g2, by rw [g4.length]; exact hm, ?_⟩
          exact h _ _ _ _ _ _ s3
        · exact h.elim
      · exact h.elim
    · exact h.elim
  · exact h.elim
theorem scal_flat : ∀ {xs : List D}, xs.all D.scal = true → D.flatL xs = true
  | [], _ => rfl
  | x :: xs, h => by
    simp only [List.all_cons, Bool.and_eq_true] at h
    simp only [D.flatL, Bool.and_eq_true]
    refine ⟨?_, scal_flat h.2⟩
    cases x <;> simp_all [D.scal, D.flat]
/-- a pending list becomes a cell -/
theorem SR.mkcell {xs : List D} (sr : SR K B Z C H st σ ρ T P (v :: ws) ((.lst xs, l) :: ys)) (hl : l = 1 ∨ l = 2) (sc : xs.all D.scal = true) :
    ∃ a P2, SR K B Z (C ++ [a]) H (st ++ [xs]) σ ρ T P2 (v :: ws) ((.cell st.length, 2) :: ys) := by
  obtain ⟨Sy, P0, rfl, oy, t2⟩ := sr.head
  have key : ∃ a us, v = .ref a ∧ Sy = [a] ∧ H a = some (.lst us) ∧ us.length ≤ sizeLine ∧ IsL K Z C us xs := by
    cases oy with
    | fro _ => rcases hl with z | z <;> cases z
    | flt _ f => cases f
    | one g1 g2 g3 g4 => exact ⟨_, _, rfl, rfl, g1, g3, g4⟩
    | lst g1 g2 g3 g4 =>
      obtain ⟨rfl, h⟩ := g4.flat0 (scal_flat sc)
      exact ⟨_, _, rfl, rfl, g1, g3, h⟩
  obtain ⟨a, us, rfl, rfl, hu, hz, il⟩ := key
  obtain ⟨m1, m2, m3, m4⟩ := sr.my a (.inr (by simp))
  have pc : Pre C (C ++ [a]) := fun k b h => by
    obtain ⟨h1, h2⟩ := List.getElem?_eq_some_iff.mp h
    rw [List.getElem?_append_left h1]
    exact h
  have nP : ∀ b ∈ P0, b ≠ a := fun b hb e => (List.nodup_append.mp sr.pn).2.2 a (by simp) b hb e.symm
  have nT : ∀ i, ∀ b ∈ T i, b ≠ a := fun i b hb e => sr.pt i b hb (by rw [e]; simp)
  obtain ⟨C1, e1, e2⟩ := sr.pre
  have hlen := sr.re.len
  refine ⟨a, P0, sr.e0, sr.ef, sr.ex, ⟨sr.re.ex, by simp [hlen], fun k ds h => ?_, fun b hb => ?_, ?_⟩, fun k b h => pc k b (sr.pf k b h), ⟨C1 ++ [a], by rw [e1, List.append_assoc], fun b hb => ?_⟩, sr.fr, sr.nw, sr.len, fun i x hx => ?_, sr.dj, sr.nd, .cons (S := []) ?_ ?_, (List.nodup_append.mp sr.pn).2.1, fun i b h1 h2 => sr.pt i b h1 (List.mem_append_right _ h2), fun b hb => ?_, sr.pic⟩
  · by_cases hk : k < st.length
    · rw [List.getElem?_append_left hk] at h
      obtain ⟨a', us', g1, g2⟩ := sr.re.cel k ds h
      exact ⟨a', us', pc k a' g1, g2⟩
    · rw [List.getElem?_append_right (by omega)] at h
      have hk2 : k - st.length = 0 := by
        cases q : k - st.length with
        | zero => rfl
        | succ n => rw [q] at h; simp at h
      rw [hk2] at h
      cases h
      have : k = C.length := by omega
      subst this
      exact ⟨a, us, by simp, hu, hz, il.scal sc, sc⟩
  · rcases List.mem_append.mp hb with hb | hb
    · exact sr.re.cz b hb
    · rw [List.mem_singleton.mp hb]; exact m2
  · exact List.nodup_append.mpr ⟨sr.re.nd, List.nodup_cons.mpr ⟨by simp, List.nodup_nil⟩, fun b h1 c h2 e => m4 (by rw [← List.mem_singleton.mp h2, ← e]; exact h1)⟩
  · rcases List.mem_append.mp hb with hb | hb
    · exact e2 b hb
    · rw [List.mem_singleton.mp hb]; exact m1
  · obtain ⟨v, g1, g2⟩ := sr.ow i x hx
    exact ⟨v, g1, g2.mono (Ex.refl Z) pc fun b hb => ⟨(sr.my b (.inl ⟨i, hb⟩)).2.1, rfl⟩⟩
  · exact .flt (.cell (by rw [← hlen]; simp)) rfl
  · exact t2.mono (xs := ys) (Ex.refl Z) pc fun b hb => ⟨(sr.my b (.inr (List.mem_append_right _ hb))).2.1, rfl⟩
  · have q : (∃ i, b ∈ T i) ∨ b ∈ P0 := by
      rcases hb with hb | hb
      · exact .inl hb
      · exact .inr (by simpa using hb)
    obtain ⟨g1, g2, g3, g4⟩ := sr.my b (q.imp id fun h => List.mem_append_right _ h)
    refine ⟨g1, g2, g3, fun hc => ?_⟩
    rcases List.mem_append.mp hc with hc | hc
    · exact g4 hc
    · have e := List.mem_singleton.mp hc
      rcases q with ⟨i, q⟩ | q
      · exact nT i b q e
      · exact nP b q e
theorem t_parc {i j : Nat} {a b : IX.E} (h : tS K call (.parc i j a b) E σ H) : tPar i j (tCons (rd K call a) (tCons (rd K call b) tNil)) E σ H := by
  obtain ⟨B, ρ, st, Z, C, T, P, sr, h⟩ := h
  simp only [execS] at h
  refine sr.evE out_wrF h fun x st1 h v Z1 H1 T1 P1 s1 => ?_
  rw [fz_nil, ite_self] at s1
  refine s1.evE out_wrF h fun y st2 h w Z2 H2 T2 P2 s2 => ?_
  rw [fz_nil, ite_self] at s2
  refine ⟨v, w, rfl, ?_⟩
  split at h
  · rename_i xs l ys m
    split at h
    · rename_i hc
      obtain ⟨c1, c2, c3, c4, c5⟩ := hc
      obtain ⟨ρ2, h1, h2⟩ := stoU_ok h
      obtain ⟨ρ1, g1, g2⟩ := Option.bind_eq_some_iff.mp h1
      obtain ⟨P3, s3⟩ := s2.swap
      obtain ⟨a1, P4, s4⟩ := s3.mkcell c2 c1
      obtain ⟨P5, s5⟩ := s4.swap
      obtain ⟨a2, P6, s6⟩ := s5.mkcell c4 c3
      obtain ⟨P7, s7⟩ := s6.swap
      obtain ⟨T8, P8, s8⟩ := s7.put g1
      rw [List.length_append, List.length_singleton] at s8
      obtain ⟨T9, P9, s9⟩ := s8.put g2
      simp only [List.append_assoc, List.cons_append, List.nil_append] at s9
      exact h2 _ _ _ _ _ _ s9
    · exact h.elim
  · exact h.elim
theorem t_asgc {i : Nat} {e : IX.E} (h : tS K call (.asgc i e) E σ H) : tAsg (rd K call e) (gName i) E σ H := by
  obtain ⟨B, ρ, st, Z, C, T, P, sr, h⟩ := h
  simp only [execS] at h
  refine sr.evE out_wrF h fun x st1 h v Z1 H1 T1 P1 s1 => ?_
  rw [fz_nil, ite_self] at s1
  split at h
  · rename_i xs l
    split at h
    · rename_i hc
      obtain ⟨ρ2, h1, h2⟩ := stoU_ok h
      obtain ⟨a, P2, s2⟩ := s1.mkcell hc.2 hc.1
      obtain ⟨T3, P3, s3⟩ := s2.put h1
      exact h2 _ _ _ _ _ _ s3
    · exact h.elim
  · exact h.elim
end
end IX
/-! IXt: from the text's statements to the small language. Own work. -/
namespace IX
open PySem PySem.Spec PyProof.Rows L2 Evl

/-! ### the slots that an expression reads -/
mutual
def E.vs : E → List Nat
  | .var i => [i]
  | .con _ => [] | .glo _ _ => [] | .emp => []
  | .lst es => es.vs | .tup es => es.vs
  | .neg a => a.vs | .not a => a.vs
  | .bin _ a b => a.vs ++ b.vs
  | .cmp _ a b => a.vs ++ b.vs
  | .cmp2 _ _ a b c => a.vs ++ b.vs ++ c.vs
  | .and a b => a.vs ++ b.vs | .or a b => a.vs ++ b.vs
  | .ife c a b => c.vs ++ a.vs ++ b.vs
  | .ix a b => a.vs ++ b.vs
  | .sl a l h => a.vs ++ l.vs ++ h.vs
  | .rev a => a.vs
  | .lc v _ s c => v.vs ++ s.vs ++ c.vs
  | .lsr s => s.vs
  | .call _ as => as.vs
  | .callk _ _ as ks => as.vs ++ ks.vs
  | .bi _ as => as.vs
  | .isi a _ => a.vs
  | .mink a _ v => a.vs ++ v.vs
  | .srtk s _ v => s.vs ++ v.vs
def Es.vs : Es → List Nat
  | .nil => [] | .cons e es => e.vs ++ es.vs
def Sr.vs : Sr → List Nat
  | .seq e => e.vs | .rng1 a => a.vs | .rng2 a b => a.vs ++ b.vs | .enu e => e.vs | .zip a b => a.vs ++ b.vs
end
mutual
/-- the slots that statements write -/
def S.wr : S → List Nat
  | .asg i _ _ => [i] | .asgT t _ _ => t.slots | .par i j _ _ _ => [i, j] | .par3 i j k _ _ _ _ => [i, j, k]
  | .set1 i _ _ _ => [i] | .set2 i _ _ _ _ => [i] | .app i _ _ => [i] | .app1 i _ _ _ => [i] | .rem i _ _ => [i]
  | .appop i j _ _ => [i, j] | .asgpop i j _ _ => [i, j] | .cset _ _ _ _ => [] | .asgc i _ => [i] | .parc i j _ _ => [i, j]
  | .expr _ _ => [] | .ite _ _ a b => a.wr ++ b.wr | .whl _ _ _ b => b.wr | .for_ t _ _ b => t.slots ++ b.wr | .forR t _ _ _ b => t.slots ++ b.wr
  | .ret _ _ => [] | .retv _ => [] | .retN => [] | .brk => [] | .cnt => [] | .pass => [] | .rais _ => []
def Ss.wr : Ss → List Nat
  | .nil => [] | .cons s r => s.wr ++ r.wr | .prot w b r => w ++ b.wr ++ r.wr
end

/-! ### compiling -/
def isLC : Expr → Bool
  | .ListComp _ _ _ _ => true
  | .SetComp _ _ _ _ => true
  | .DictComp _ _ _ _ _ => true
  | _ => false
def isTp : Expr → Bool
  | .Tuple _ _ _ => true
  | _ => false
def isSlice : Expr → Bool
  | .Slice _ _ _ _ => true
  | _ => false
def fnK (sc : Scope) : Bool := match sc.kind with
  | .function => true
  | _ => false
def isLoc (sc : Scope) (x : Str) : Bool := sc.names.lookup x == some .local
def swParOk (sc : Scope) (x y : Str) (px py : Pos) (a b : Expr) : Bool :=
  fnK sc && isLoc sc x && isLoc sc y && px.line == py.line && !(x == y) && !([a, b].all (foldedForSure 8)) && !([a, b].all (constantsAlone 8))
def whlFuel : Nat := 2000
def lineOf : Stmt → Nat
  | .Assign _ _ pos => pos.line
  | .For _ _ _ _ pos => pos.line
  | .If _ _ _ pos => pos.line
  | .Expr _ pos => pos.line
  | _ => 0
mutual
def cS (ci : CI) (N ps : List Str) (sc : Scope) : Nat → Stmt → Option S
  | 0, _ => none
  | n + 1, s => match s with
    | .Assign [.Name y py] e pos => if stB sc y then (ixOf N y).bind fun i =>
        (match e with
        | .ListComp elt gs scope lp => if isLoc sc y && py.line == lp.line && fnK sc && !(scope.names.any fun (n, k) => n == y && (k == .local || k == .cell)) then (cE ci N n sc (.ListComp elt gs scope lp)).map fun e' => .asg i e' e'.vs else if isLoc sc y then none else (cE ci N n sc (.ListComp elt gs scope lp)).map fun e' => .asg i e' e'.vs
        | e => if isLC e then none else (cE ci N n sc e).map fun e' => if pos.line ∈ ci.cells then .asgc i e' else .asg i e' e'.vs) else none
    | .Assign [.Tuple ts k tp] e pos => (match ts, e with
        | [.Name x px, .Name y py], .Tuple [a, b] _ _ => if swParOk sc x y px py a b then (match ixOf N x, ixOf N y, cE ci N n sc a, cE ci N n sc b with
            | some i, some j, some a', some b' => if i = j then none else some (if pos.line ∈ ci.cells then .parc i j a' b' else .par i j a' b' (a'.vs ++ b'.vs))
            | _, _, _, _ => none) else if isLoc sc x && isLoc sc y then none else (match cTg N (stB sc) n (.Tuple ts k tp), cE ci N n sc e with
            | some t, some e' => some (.asgT t e' e'.vs)
            | _, _ => none)
        | _, e => if isTp e || isLC e then none else (match cTg N (stB sc) n (.Tuple ts k tp), cE ci N n sc e with
            | some t, some e' => some (.asgT t e' e'.vs)
            | _, _ => none))
    | .Assign [.Subscript (.Name y py) x sp] e pos => if isSlice x || isLC e then none else (match cName ci N sc y, cE ci N n sc x, cE ci N n sc e with
        | some (.var i), some x', some e' => some (if y ∈ ps then .cset i x' e' e'.vs else .set1 i x' e' e'.vs)
        | _, _, _ => none)
    | .Expr (.Call (.Attribute (.Name y py) m ap) [e] [] cp) pos => if (ap.endLine == cp.line) = true then (match cName ci N sc y, cE ci N n sc e with
        | some (.var i), some e' => if m = "append" then some (.app i e' e'.vs) else if m = "remove" then some (.rem i e' e'.vs) else none
        | _, _ => none) else none
    | .Expr (.Constant (.str _) _ _) pos => some .pass
    | .Expr e pos => if isLC e then none else (cE ci N n sc e).map fun e' => .expr e' e'.vs
    | .Return none pos => some .retN
    | .Return (some (.Name x p)) pos => (match cName ci N sc x with
        | some (.var i) => some (.retv i)
        | _ => none)
    | .Return (some e) pos => (cE ci N n sc e).map fun e' => .ret e' e'.vs
    | .If c a b pos => (match cE ci N n sc c, cSs ci N ps sc n a, cSs ci N ps sc n b with
        | some c', some a', some b' => some (.ite c' c'.vs a' b')
        | _, _, _ => none)
    | .While c b [] pos => (match cE ci N n sc c, cSs ci N ps sc n b with
        | some c', some b' => some (.whl whlFuel c' c'.vs b')
        | _, _ => none)
    | .For tg it b [] pos => (match cTg N (stB sc) n tg, cSr ci N n sc tg it, cSs ci N ps sc n b with
        | some t, some s, some b' => some (if pos.line ∈ ci.rl then .forR t s s.vs (t.slots ++ b'.wr) b' else .for_ t s s.vs b')
        | _, _, _ => none)
    | .Pass pos => some .pass
    | .Break pos => some .brk
    | .Continue pos => some .cnt
    | .Raise _ _ pos => some (.rais (.con .non))
    | _ => none
def cSs (ci : CI) (N ps : List Str) (sc : Scope) : Nat → List Stmt → Option Ss
  | 0, _ => none
  | _ + 1, [] => some .nil
  | n + 1, s :: r => match ci.pl.lookup (lineOf s) with
    | none => (match cS ci N ps sc n s, cSs ci N ps sc n r with
      | some a, some b => some (.cons a b)
      | _, _ => none)
    | some m => (match cS ci N ps sc n s, cSs ci N ps sc n (r.take m), cSs ci N ps sc n (r.drop m) with
      | some a, some b, some c => some (.prot (Ss.cons a b).wr (.cons a b) c)
      | _, _, _ => none)
end

/-! ### the compiled statements keep the interpreter's word -/
structure CtS (ci : CI) (k : Nat) (call : Nat → List D → Sto → R DL) (N : List Str) (sc : Scope) (X : Cx) : Prop where
  cx : CtX ci k call N sc X
  own : PassesOwn (model X.prog X.w) X.A X.env X.xe
  fn : ∀ x, X.fn x = true
section
variable {X : Cx} {ci : CI} {k : Nat} {call : Nat → List D → Sto → R DL} {N ps : List Str} {n : Nat} {sc : Scope}
theorem _root_.L2.PS.weak {X : Cx} {s : Stmt} {t t' : TS} (h : PS X s t) (w : ∀ E σ H, t' E σ H → t E σ H) : PS X s t' := ⟨fun pins s σ H D I q => h.run pins s σ H D I (w D σ H q)⟩
theorem _root_.L2.PSs.weak {X : Cx} {s : List Stmt} {t t' : TS} (h : PSs X s t) (w : ∀ E σ H, t' E σ H → t E σ H) : PSs X s t' := ⟨fun pins s σ H D I q => h.run pins s σ H D I (w D σ H q)⟩
theorem loc_of (hs : X.env.scope = sc) {x : Str} (h : stB sc x = true) : Loc X.env.scope x := by
  unfold stB at h
  simp only [Bool.or_eq_true, beq_iff_eq] at h
  rw [hs]
  exact h
theorem sw_no {e : Expr} {tg : Option Expr} {l : Nat} {env : PySem.Env} (h : isLC e = false) : swapsWith e tg l env = pure false := by
  cases e <;> first | rfl | cases h
theorem nsole {tg e : Expr} {l : Nat} {env : PySem.Env} (h : isLC e = false) : swapsWithSole [tg] e l env = pure false := sw_no h
theorem par_sw {x y : Str} {px py pt pt2 : Pos} {a b : Expr} {kt k2 : Nat} {env : PySem.Env} (h : swParOk env.scope x y px py a b = true) (ha : ∀ e p, a ≠ .Starred e p) (hb : ∀ e p, b ≠ .Starred e p) :
    swappedStores [.Tuple [.Name x px, .Name y py] kt pt] (.Tuple [a, b] k2 pt2) env = pure (some [x, y]) := by
  unfold swParOk at h
  simp only [Bool.and_eq_true, Bool.not_eq_true', beq_iff_eq] at h
  obtain ⟨⟨⟨⟨⟨⟨h1, h2⟩, h3⟩, h4⟩, h5⟩, h6⟩, h7⟩ := h
  have k1 : env.blockKind = .function := by
    unfold fnK at h1
    unfold Env.blockKind
    split at h1
    · rename_i e; rw [e]; rfl
    · cases h1
  have k2 : env.kindOf x = some .local := by unfold isLoc at h2; exact beq_iff_eq.mp h2
  have k3 : env.kindOf y = some .local := by unfold isLoc at h3; exact beq_iff_eq.mp h3
  have st : ([a, b].any fun | .Starred .. => true | _ => false) = false := by
    cases a <;> first | exact absurd rfl (ha _ _) | (cases b <;> first | exact absurd rfl (hb _ _) | rfl)
  have hne : (x == y) = false := h5
  have hne2 : (y == x) = false := by
    rw [beq_eq_false_iff_ne] at hne ⊢
    exact fun e => hne e.symm
  unfold swappedStores
  simp only [List.length_cons, List.length_nil, k1]
  refine (if_neg (by decide)).trans ?_
  refine (if_neg fun h => by rw [Bool.eq_false_iff] at st; exact st h).trans ?_
  have e1 : (Option.map (fun x => x.pos.line) [Expr.Name x px, Expr.Name y py].head?).getD 0 = px.line := rfl
  rw [e1]
  have q1 : (env.kindOf x == some NameKind.local && px.line == px.line) = true := by rw [k2]; simp
  have q2 : (env.kindOf y == some NameKind.local && py.line == px.line) = true := by rw [k3, ← h4]; simp
  have nm : (List.filterMap (fun | .Name id pos => if (env.kindOf id == some .local && pos.line == px.line) = true then some id else none | _ => none) [Expr.Name x px, Expr.Name y py]) = [x, y] := by
    simp only [List.filterMap_cons, q1, q2, if_true, List.filterMap_nil]
  have ed : [x, y].eraseDups = [x, y] := by
    simp [List.eraseDups_cons, hne2]
  refine (if_neg (c := _ = true) (t := _) fun h => ?_).trans ?_
  · have h' : ([x, y].length != 0 + 1 + 1 || [x, y].eraseDups.length != [x, y].length) = true := by
      rw [← nm]; exact h
    rw [ed] at h'
    simp at h'
  refine (if_neg fun h => by rw [h6] at h; cases h).trans ?_
  refine (if_neg fun h => by rw [h7] at h; cases h).trans ?_
  exact congrArg (fun z => (pure (some z) : Sem (Option (List Str)))) nm
theorem nostar {e : Expr} {e' : E} (h : cE ci N n sc e = some e') : ∀ a p, e ≠ .Starred a p := by
  intro a p z
  subst z
  cases n <;> simp [cE] at h
theorem lc_inv {elt : Expr} {gs : List Comprehension} {scope : Scope} {lp : Pos} {e' : E} (h : cE ci N n sc (.ListComp elt gs scope lp) = some e') :
    ∃ m tg iter ifs t s cs v, n = m + 1 ∧ gs = [⟨tg, iter, ifs, 0⟩] ∧ e' = .lc v t s cs ∧ cTg N (stB scope) m tg = some t ∧ cSr ci N m sc tg iter = some s ∧ blkC N sc scope (ownOf N t.slots) = true ∧ (ownOf N t.slots).map (·.2) = t.slots ∧
      cEs ci N m (relS scope sc) ifs = some cs ∧ cE ci N m (relS scope sc) elt = some v := by
  cases n with
  | zero => simp [cE] at h
  | succ m =>
    simp only [cE] at h
    split at h
    all_goals first | (rename_i z; cases z; done) | skip
    · rename_i z
      cases z
      split at h
      · rename_i hz
        subst hz
        split at h
        · rename_i t s h1 h2
          split at h
          · rename_i hb
            simp only [Bool.and_eq_true, beq_iff_eq] at hb
            split at h
            · rename_i cs v h3 h4
              cases h
              exact ⟨m, _, _, _, t, s, cs, v, rfl, rfl, rfl, h1, h2, hb.1, hb.2, h3, h4⟩
            · cases h
          · cases h
        · cases h
      · cases h
    · cases h
theorem ps_lc {y : Str} {py spos lp : Pos} {i : Nat} {elt : Expr} {gs : List Comprehension} {scope : Scope} {e' : E} {vs : List Nat} (cs : CtS ci k call N sc X) (hi : ixOf N y = some i) (h : cE ci N n sc (.ListComp elt gs scope lp) = some e')
    (hc : (isLoc sc y && py.line == lp.line && fnK sc && !(scope.names.any fun (n, k) => n == y && (k == .local || k == .cell))) = true) : PS X (.Assign [.Name y py] (.ListComp elt gs scope lp) spos) (tS X.K call (.asg i e' vs)) := by
  obtain ⟨m, tg, iter, ifs, t, s, cc, v, rfl, rfl, rfl, h1, h2, h3, h4, h5, h6⟩ := lc_inv h
  have ih := snd ci k call N m
  have cx := cs.cx
  simp only [Bool.and_eq_true, Bool.not_eq_true'] at hc
  obtain ⟨⟨⟨c1, c2⟩, c3⟩, c4⟩ := hc
  have hl : X.env.scope.names.lookup y = some .local := by rw [cx.hs]; exact beq_iff_eq.mp c1
  have hk : X.env.scope.kind = .function := by
    rw [cx.hs]
    unfold fnK at c3
    split at c3
    · assumption
    · cases c3
  refine (ps_setLc (i := i) (own := ownOf N t.slots) (tt := rdT X.K call cc) (g := gT X.K t) (te := rd X.K call v) cx.g.calm cx.g.nd (by rw [cx.hN]; exact ixOf_get hi) hl (sw_true hk hl c2 c4) (ih.sr h2 X cx) (by rw [cx.hN, cx.hs]; exact blkOk_by h3)
    (fun s H C cl fp => pg_tg (cx.blk s H C cl fp).hN (cx.blk s H C cl fp).g.nd (cx.blk s H C cl fp).g.calm (fun x hx => stB_ok x hx) h1) (fun s H C cl fp => ih.ts h5 _ (cx.blk s H C cl fp)) (fun s H C cl fp => ih.pe h6 _ (cx.blk s H C cl fp)) (folded h2 X.env)).weak fun E σ H q => ?_
  have q2 := t_asg q
  have q3 := s_lc q2
  rw [← h4] at q3
  exact q3
theorem nm_var {y : Str} {i : Nat} (h : cName ci N sc y = some (.var i)) : ixOf N y = some i := by
  unfold cName at h
  split at h
  · split at h
    · obtain ⟨j, hj, e⟩ := Option.map_eq_some_iff.mp h
      cases e; exact hj
    · obtain ⟨j, hj, e⟩ := Option.map_eq_some_iff.mp h
      cases e; exact hj
    · obtain ⟨j, hj, e⟩ := Option.map_eq_some_iff.mp h
      cases e; exact hj
    · obtain ⟨j, hj, e⟩ := Option.map_eq_some_iff.mp h
      cases e
    · cases h
  · cases h
theorem pe_nv {y : Str} {i : Nat} {pos : Pos} (cx : CtX ci k call N sc X) (h : cName ci N sc y = some (.var i)) : PE X (.Name y pos) (tVar i) := by
  have hi := nm_var h
  unfold cName at h
  split at h
  · rename_i hx
    unfold nameOk at hx
    simp only [Bool.and_eq_true, beq_iff_eq] at hx
    have lv : Vis X.env.scope y → PE X (.Name y pos) (tVar i) := fun hv => pe_var (by rw [cx.hN]; exact ixOf_get hi) hv hx.1 hx.2
    split at h
    · rename_i hl; exact lv (.inl (by rw [cx.hs]; exact hl))
    · rename_i hl; exact lv (.inr (.inl (by rw [cx.hs]; exact hl)))
    · rename_i hl; exact lv (.inr (.inr (by rw [cx.hs]; exact hl)))
    · obtain ⟨j, hj, e⟩ := Option.map_eq_some_iff.mp h
      cases e
    · cases h
  · cases h
theorem sw_tp {ts : List Expr} {kk : Nat} {tp : Pos} {e : Expr} {env : PySem.Env} (h : isTp e = false) : swappedStores [.Tuple ts kk tp] e env = pure none := by
  cases e <;> first | rfl | cases h
theorem sw_sub {a b e : Expr} {sp : Pos} {env : PySem.Env} : swappedStores [.Subscript a b sp] e env = pure none := by
  cases e <;> rfl
theorem sub_as {o i : Expr} {pos : Pos} {env : PySem.Env} (h : isSlice i = false) (v : Value) : assign (.Subscript o i pos) env v = (do
      let ov ← holding [v] (eval o env)
      let iv ← holding [v, ov] (eval i env)
      standAt pos
      holding [v, ov, iv] (setItem ov iv v)
      release [v, ov, iv] []) := by
  cases i <;> first | rfl | cases h
theorem sw_cell {elt : Expr} {gs : List Comprehension} {scope : Scope} {lp py : Pos} {y : Str} {l : Nat} {env : PySem.Env} (h : isLoc env.scope y = false) : swapsWith (.ListComp elt gs scope lp) (some (.Name y py)) l env = pure false := by
  have k : (env.kindOf y == some .local) = false := h
  unfold swapsWith
  simp only [k, Bool.and_false, Bool.false_and]
theorem par_no {x y : Str} {px py pt pt2 : Pos} {a b : Expr} {kt k2 : Nat} {env : PySem.Env} (h : (isLoc env.scope x && isLoc env.scope y) = false) : swappedStores [.Tuple [.Name x px, .Name y py] kt pt] (.Tuple [a, b] k2 pt2) env = pure none := by
  have k : (env.kindOf x == some .local) = false ∨ (env.kindOf y == some .local) = false := by
    rcases Bool.and_eq_false_iff.mp h with h | h
    · exact .inl h
    · exact .inr h
  unfold swappedStores
  simp only [List.length_cons, List.length_nil]
  split
  · rfl
  · split
    · rfl
    · refine if_pos ?_
      rcases k with k | k
      · simp only [List.filterMap_cons, List.filterMap_nil, k, Bool.false_and, Bool.false_eq_true, if_false]
        split <;> simp
      · simp only [List.filterMap_cons, List.filterMap_nil, k, Bool.false_and, Bool.false_eq_true, if_false]
        split <;> simp
structure SndS (ci : CI) (k : Nat) (call : Nat → List D → Sto → R DL) (N ps : List Str) (n : Nat) : Prop where
  st : ∀ {sc : Scope} {s : Stmt} {s' : S}, cS ci N ps sc n s = some s' → ∀ X, CtS ci k call N sc X → PS X s (tS X.K call s')
  ss : ∀ {sc : Scope} {s : List Stmt} {s' : Ss}, cSs ci N ps sc n s = some s' → ∀ X, CtS ci k call N sc X → PSs X s (tSs X.K call s')
theorem st_step (ih : SndS ci k call N ps n) {s : Stmt} {s' : S} (h : cS ci N ps sc (n + 1) s = some s') (X : Cx) (cs : CtS ci k call N sc X) : PS X s (tS X.K call s') := by
  have sn := snd ci k call N n
  have cx := cs.cx
  have pgt : ∀ {t : Tg} {e : Expr}, cTg N (stB sc) n e = some t → PG X e (gT X.K t) := fun h1 => pg_tg cx.hN cx.g.nd cx.g.calm (fun x hx => ⟨loc_of cx.hs hx, .inl (cs.fn x)⟩) h1
  simp only [cS] at h
  split at h
  · -- y = e
    split at h
    · rename_i hy
      obtain ⟨i, hi, h⟩ := Option.bind_eq_some_iff.mp h
      split at h
      · split at h
        · rename_i hc
          obtain ⟨e', he, rfl⟩ := Option.map_eq_some_iff.mp h
          exact ps_lc cs hi he hc
        · split at h
          · cases h
          · rename_i hnl
            obtain ⟨e', he, rfl⟩ := Option.map_eq_some_iff.mp h
            exact (ps_set cx.g.nd (by rw [cx.hN]; exact ixOf_get hi) (loc_of cx.hs hy) (sn.pe he X cx) (sw_cell (by rw [cx.hs]; simpa using hnl)) (.inl (cs.fn _))).weak fun _ _ _ q => t_asg q
      · split at h
        · cases h
        · rename_i hlc
          obtain ⟨e', he, rfl⟩ := Option.map_eq_some_iff.mp h
          split
          · exact (ps_set cx.g.nd (by rw [cx.hN]; exact ixOf_get hi) (loc_of cx.hs hy) (sn.pe he X cx) (sw_no (by simpa using hlc)) (.inl (cs.fn _))).weak fun _ _ _ q => t_asgc q
          · exact (ps_set cx.g.nd (by rw [cx.hN]; exact ixOf_get hi) (loc_of cx.hs hy) (sn.pe he X cx) (sw_no (by simpa using hlc)) (.inl (cs.fn _))).weak fun _ _ _ q => t_asg q
    · cases h
  · -- a, b = ..
    split at h
    · split at h
      · rename_i hc
        split at h
        · rename_i i j a' b' h1 h2 h3 h4
          split at h
          · cases h
          · rename_i hij
            cases h
            have hc' := hc
            unfold swParOk at hc'
            simp only [Bool.and_eq_true, isLoc, beq_iff_eq] at hc'
            obtain ⟨⟨⟨⟨⟨⟨_, k2⟩, k3⟩, _⟩, _⟩, _⟩, _⟩ := hc'
            split
            · exact (ps_par cx.g.calm cx.g.nd (by rw [cx.hN]; exact ixOf_get h1) (by rw [cx.hN]; exact ixOf_get h2) hij (by rw [cx.hs]; exact k2) (by rw [cx.hs]; exact k3)
              (pa_cons (sn.pe h3 X cx) (pa_cons (sn.pe h4 X cx) pa_nil (no_star h4 [] X.env)) (no_star h3 _ X.env)) (par_sw (by rw [cx.hs]; exact hc) (nostar h3) (nostar h4)) (nsole rfl)).weak fun _ _ _ q => t_parc q
            · exact (ps_par cx.g.calm cx.g.nd (by rw [cx.hN]; exact ixOf_get h1) (by rw [cx.hN]; exact ixOf_get h2) hij (by rw [cx.hs]; exact k2) (by rw [cx.hs]; exact k3)
              (pa_cons (sn.pe h3 X cx) (pa_cons (sn.pe h4 X cx) pa_nil (no_star h4 [] X.env)) (no_star h3 _ X.env)) (par_sw (by rw [cx.hs]; exact hc) (nostar h3) (nostar h4)) (nsole rfl)).weak fun _ _ _ q => t_par q
        · cases h
      · split at h
        · cases h
        · rename_i hnl
          split at h
          · rename_i t e' h1 h2
            cases h
            exact (ps_asg (sn.pe h2 X cx) (pgt h1) (nsole rfl) (par_no (by rw [cx.hs]; simpa using hnl)) (by rfl)).weak fun _ _ _ q => t_asgT q
          · cases h
    · split at h
      · cases h
      · rename_i hn
        simp only [Bool.or_eq_true, not_or, Bool.not_eq_true] at hn
        split at h
        · rename_i t e' h1 h2
          cases h
          refine (ps_asg (sn.pe h2 X cx) (pgt h1) (nsole hn.2) (sw_tp hn.1) (by rfl)).weak fun _ _ _ q => t_asgT q
        · cases h
  · -- y[x] = e
    split at h
    · cases h
    · rename_i hn
      simp only [Bool.or_eq_true, not_or, Bool.not_eq_true] at hn
      split at h
      · rename_i i x' e' h1 h2 h3
        cases h
        split
        · exact (ps_asg (sn.pe h3 X cx) (pg_sub (pe_nv cx h1) (sn.pe h2 X cx) set_list (fun v => sub_as hn.1 v)) (nsole hn.2) (sw_sub) (by rfl)).weak fun _ _ _ q => t_cset q
        · exact (ps_asg (sn.pe h3 X cx) (pg_sub (pe_nv cx h1) (sn.pe h2 X cx) set_list (fun v => sub_as hn.1 v)) (nsole hn.2) (sw_sub) (by rfl)).weak fun _ _ _ q => t_set1 q
      · cases h
  · -- y.append(e), y.remove(e)
    split at h
    · rename_i hl
      split at h
      · rename_i i e' h1 h2
        split at h
        · rename_i hm
          subst hm
          cases h
          exact (ps_expr (pe_bm PySem.F.plainAttrs_list PySem.F.slot_list_append PySem.F.type_list_append mt_append (pe_nv cx h1) (pa_cons (sn.pe h2 X cx) pa_nil (no_star h2 [] X.env)) (by rfl) (by rw [no_star h2 [] X.env]; rfl) hl (no_star h2 [] X.env) (by rfl)) (sw_no rfl)).weak fun _ _ _ q => t_app q
        · split at h
          · rename_i hm
            subst hm
            cases h
            exact (ps_expr (pe_bm PySem.F.plainAttrs_list PySem.F.slot_list_remove PySem.F.type_list_remove mt_remove (pe_nv cx h1) (pa_cons (sn.pe h2 X cx) pa_nil (no_star h2 [] X.env)) (by rfl) (by rw [no_star h2 [] X.env]; rfl) hl (no_star h2 [] X.env) (by rfl)) (sw_no rfl)).weak fun _ _ _ q => t_rem q
          · cases h
      · cases h
    · cases h
  · cases h
    exact ps_doc.weak fun _ _ _ q => t_pass q
  · split at h
    · cases h
    · rename_i hlc
      obtain ⟨e', he, rfl⟩ := Option.map_eq_some_iff.mp h
      exact (ps_expr (sn.pe he X cx) (sw_no (by simpa using hlc))).weak fun _ _ _ q => t_expr q
  · cases h
    exact ps_retN.weak fun _ _ _ q => t_retN q
  · split at h
    · rename_i i h1
      cases h
      exact (ps_ret (pe_nv cx h1)).weak fun _ _ _ q => t_retv q
    · cases h
  · obtain ⟨e', he, rfl⟩ := Option.map_eq_some_iff.mp h
    exact (ps_ret (sn.pe he X cx)).weak fun _ _ _ q => t_ret q
  · split at h
    · rename_i c' a' b' h1 h2 h3
      cases h
      exact (ps_if (sn.pt h1 X cx) (ih.ss h2 X cs) (ih.ss h3 X cs)).weak fun _ _ _ q => t_ite q
    · cases h
  · split at h
    · rename_i c' b' h1 h2
      cases h
      exact (ps_while cs.own (sn.pt h1 X cx) (ih.ss h2 X cs)).weak fun _ _ _ q => t_whl q
    · cases h
  · split at h
    · rename_i t s b' h1 h2 h3
      cases h
      split
      · exact (ps_for cs.own cx.g.calm (sn.sr h2 X cx) (pgt h1) (ih.ss h3 X cs) (folded h2 X.env)).weak fun _ _ _ q => t_forR q
      · exact (ps_for cs.own cx.g.calm (sn.sr h2 X cx) (pgt h1) (ih.ss h3 X cs) (folded h2 X.env)).weak fun _ _ _ q => t_for q
    · cases h
  · cases h
    exact ps_pass.weak fun _ _ _ q => t_pass q
  · cases h
    exact ps_break.weak fun _ _ _ q => t_brk q
  · cases h
    exact ps_continue.weak fun _ _ _ q => t_cnt q
  · cases h
    exact ps_never.weak fun _ _ _ q => t_rais q
  · cases h
theorem execs_more (env : PySem.Env) : ∀ a b : List Stmt, execs (a ++ b) env = (do match ← execs a env with | .next => execs b env | f => pure f)
  | [], b => by simp [execs]
  | s :: r, b => by
    simp only [List.cons_append, execs, bind_assoc]
    refine bind_congr fun f => ?_
    cases f <;> first | exact execs_more env r b | simp
theorem pss_more {a b : List Stmt} {t u : TS} (h1 : PSs X a t) (h2 : PSs X b u) : PSs X (a ++ b) (tSeq t u) := by
  refine ⟨fun pins s σ H D I q => ?_⟩
  rw [execs_more]
  refine wpAny_bind (thn (h1.run pins s σ H { D with nx := u D } I q) fun f s1 z => ?_)
  match f, z with
  | .next, ⟨σ1, H1, I1, q1⟩ => exact h2.run pins s1 σ1 H1 D I1 q1
  | .ret v, z => exact wpAny_pure z
  | .brk, z => exact wpAny_pure z
  | .cont, z => exact wpAny_pure z
theorem ss_step (ih : SndS ci k call N ps n) {s : List Stmt} {s' : Ss} (h : cSs ci N ps sc (n + 1) s = some s') (X : Cx) (cs : CtS ci k call N sc X) : PSs X s (tSs X.K call s') := by
  cases s with
  | nil =>
    simp only [cSs] at h
    cases h
    exact pss_nil.weak fun _ _ _ q => t_nil q
  | cons s r =>
    simp only [cSs] at h
    split at h
    · split at h
      · rename_i a b h1 h2
        cases h
        exact (pss_cons (ih.st h1 X cs) (ih.ss h2 X cs)).weak fun _ _ _ q => t_cons q
      · cases h
    · rename_i m hm
      split at h
      · rename_i a b c h1 h2 h3
        cases h
        have p1 : PSs X (s :: r.take m) (tSs X.K call (.cons a b)) := (pss_cons (ih.st h1 X cs) (ih.ss h2 X cs)).weak fun _ _ _ q => t_cons q
        have p2 := pss_more p1 (ih.ss h3 X cs)
        rw [List.cons_append, List.take_append_drop] at p2
        exact p2.weak fun _ _ _ q => t_prot q
      · cases h
/-- every compiled statement keeps the interpreter's word -/
theorem snds (ci : CI) (k : Nat) (call : Nat → List D → Sto → R DL) (N ps : List Str) : ∀ n, SndS ci k call N ps n
  | 0 => ⟨fun h => by simp [cS] at h, fun h => by simp [cSs] at h⟩
  | n + 1 => by
    have ih := snds ci k call N ps n
    exact ⟨fun h => st_step ih h, fun h => ss_step ih h⟩
end
end IX
/-! IXu: defs, the law's own head. Own work. -/
namespace IX
open PySem PySem.Spec PyProof.Rows L2 Evl

section
variable {K : PySem.W.Frag} {call : Nat → List D → Sto → R DL} {B : Ba} {Z Z0 Z' Z1 Z2 H H0 H' H1 H2 : Hp} {C C1 C2 : List Addr} {v w : V} {vs : List V} {d : D} {ds : List D} {x y : DL} {l : Nat} {st st1 st2 : Sto} {σ : L2.St} {ρ : SEnv} {T : Nat → List Addr} {P : List Addr} {ws : List V} {ys : List DL} {E : Ends} {Q : VK}
/-! ### a def's start and end -/
def baseOf (Z : Hp) (C : List Addr) (H : Hp) : Ba := ⟨Z, C, H, Z, C, [], []⟩
theorem start_get {N : List Str} {vs : List V} {i : Nat} {v : V} (h : vs[i]? = some v) : (L2.start N vs)[i]? = some (some v) := by
  obtain ⟨h1, h2⟩ := List.getElem?_eq_some_iff.mp h
  unfold L2.start
  rw [List.getElem?_append_left (by simpa using h1), List.getElem?_map, h]
  rfl
theorem sr_start {N : List Str} {fn : Fn} (re : RE K Z C H st) (il : IsL K Z C vs ds) (hp : ds.length = fn.np) (hn : fn.nl = N.length) (hl : fn.np ≤ N.length) :
    SR K (baseOf Z C H) Z C H st (L2.start N vs) (startS fn ds) (fun _ => []) [] [] [] := by
  refine ⟨⟨st, re⟩, Ex.refl Z, Ex.refl Z, re, Pre.refl C, ⟨[], (by simp [baseOf]), fun a h => (by cases h)⟩, fun a o h _ => h, fun a h1 h2 => absurd h1 h2, ?_, fun i x hx => ?_, fun i j a h => (by cases h), fun i => List.nodup_nil, .nil, List.nodup_nil, fun i a h => (by cases h), fun a h => ?_, fun i d hd => (by simp [baseOf] at hd)⟩
  · unfold startS L2.start
    have := il.length
    simp only [List.length_append, List.length_map, List.length_replicate]
    omega
  · unfold startS at hx
    by_cases hi : i < ds.length
    · rw [List.getElem?_append_left (by simpa using hi), List.getElem?_map, List.getElem?_eq_getElem hi] at hx
      cases hx
      obtain ⟨v, h1, h2⟩ := il.get (List.getElem?_eq_getElem hi)
      refine ⟨v, start_get h1, ?_⟩
      unfold lv0 l0
      by_cases f : ds[i].flat = true
      · exact .flt h2 f
      · simp only [f]
        exact .fro h2
    · rw [List.getElem?_append_right (by simpa using hi), List.getElem?_replicate] at hx
      split at hx <;> cases hx
  · rcases h with ⟨_, h⟩ | h <;> cases h
theorem scal_flat1 : ∀ {d : D}, d.scal = true → d.flat = true
  | .non, _ => rfl
  | .bl _, _ => rfl
  | .int _, _ => rfl
  | .str _, _ => rfl
theorem sr_end {st0 : Sto} (re : RE K Z C H st0) (s : SR K (baseOf Z C H).np Z1 C1 H1 st1 σ ρ T P [v] [(d, l)]) {r : R DL}
    (hr : (if st1.length = st0.length then R.ok (d, l) st1 else if d.scal then .ok (d, 2) (st1.take st0.length) else .no) = r) (h : Wr K r Z C H Q) : Q v H1 := by
  subst hr
  obtain ⟨Sy, P2, rfl, oy, t2⟩ := s.head
  cases t2
  rw [List.append_nil] at s
  obtain ⟨C2, e1, e2⟩ := s.pre
  have e1' : C1 = C ++ C2 := e1
  have hpn := s.pn
  split at h
  · rename_i hl
    have hC : C2 = [] := by
      have h1 := s.re.len
      have h2 := re.len
      rw [e1', List.length_append] at h1
      exact List.length_eq_zero_iff.mp (by omega)
    subst hC
    rw [List.append_nil] at e1'
    subst e1'
    exact h v Z1 H1 Sy ⟨⟨st0, re⟩, ⟨s.ex, s.re, fun a o g hc => s.fr a o g hc, fun a g1 g2 => s.nw a g1 g2⟩, s.pn, fun a ha => (s.my a (.inr ha)).1, fun a ha => ⟨(s.my a (.inr ha)).2.1, (s.my a (.inr ha)).2.2.1⟩⟩ oy
  · split at h
    · rename_i hs
      have pc : Pre C C1 := s.pf
      have r2 := re_pre s.re pc
      rw [re.len] at r2
      have f : d.flat = true := scal_flat1 hs
      have i1 : Is K Z1 C v d := ((oy.flat0 f).2.scal hs).mono (fun _ _ h => by cases h) (fun _ _ h => by simp at h)
      exact h v Z1 H1 [] ⟨⟨st0, re⟩, ⟨s.ex, r2, fun a o g hc => s.fr a o g hc, fun a g1 g2 => s.nw a g1 g2⟩, List.nodup_nil, fun a ha => (by cases ha), fun a ha => (by cases ha)⟩ (.flt i1 f)
    · exact h.elim
theorem body_ok {Tb : List Fn} {k i : Nat} {fn : Fn} (hT : Tb[i]? = some fn) (hp : ds.length = fn.np) (re : RE K Z C H st) (h : Wr K (run Tb (k + 1) i ds st) Z C H Q) :
    WrF K (baseOf Z C H) (execSs (run Tb k) fn.body (startS fn ds) st) { nx := fun _ H' => Q .non H', rt := Q } := by
  simp only [run, hT, hp, if_true] at h
  revert h
  cases execSs (run Tb k) fn.body (startS fn ds) st with
  | no => exact fun h => h.elim
  | ex _ _ _ => exact fun h => h.elim
  | ok f st1 =>
    obtain ⟨f, ρ1⟩ := f
    cases f with
    | brk => exact fun h => h.elim
    | cnt => exact fun h => h.elim
    | nx =>
      intro h σ Z1 C1 H1 T P s
      have hP := s.nil
      have s2 := (s.push (S := []) (x := (.non, 2)) (v := .non) Ow.of_non List.nodup_nil fun a ha => by cases ha).np
      exact sr_end re s2 rfl h
    | ret d l => exact fun h ρ σ Z1 C1 H1 T P v s => sr_end re s rfl h
end
/-! ### the promise of a def -/
section
variable {Pg : Program} {w : World} {K : PySem.W.Frag} {mg : Str → Option Value} {base : Heap}
/-- the text of a def and its place in the table -/
structure Tx (ci : CI) (Tb : List Fn) (sm : Stmt) (i : Nat) (x : Str) (ps N : List Str) : Prop where
  sc : FnScope N ps (defScope sm)
  np : ps.length ≤ N.length
  cp : ∃ n body, cSs ci N ps (defScope sm) n (defBody sm) = some body ∧ Tb[i]? = some ⟨ps.length, N.length, body⟩
  bd : ∀ (kV doc pm : Value) (an : Option Addr) (cdv ct : Value) (us : List Value), us.length = ps.length → bindArgs (PySem.W.fnOf x x (defArgs sm) (defBody sm) (defScope sm) .none kV doc pm an cdv ct) ⟨us, []⟩ = pure (ps.zip us)
  kw : ∀ n ks pm, (i, n, ks) ∈ ci.kw → kwPm ps ks n = some pm → ∀ (kV doc pm1 : Value) (an : Option Addr) (cdv ct : Value) (us ws ys : List Value), us.length = n → ws.length = ks.length → permV pm (us ++ ws) = some ys →
    bindArgs (PySem.W.fnOf x x (defArgs sm) (defBody sm) (defScope sm) .none kV doc pm1 an cdv ct) ⟨us, ks.zip ws⟩ = pure (ps.zip ys)
  nd : (x == ("__debug__" : Str)) = false
/-- the def behind the top -/
structure Fd (K : PySem.W.Frag) (mg : Str → Option Value) (sm : Stmt) (x : Str) (f : Addr) (fd : FuncData) : Prop where
  ex : ∃ (oc : Value) (od : Option Addr) (kV doc pm : Value) (an : Option Addr) (cdv ct : Value) (osl : Array (Option Value)), fd = PySem.W.fnOf x x (defArgs sm) (defBody sm) (defScope sm) .none kV doc pm an cdv ct ∧
    K.lookup f = some ⟨oc, od, .func fd, osl⟩ ∧ PySem.W.codeIn K cdv x = true
  kp : PySem.W.keepIn K (.ref f) = true
  at_ : mg x = some (.ref f)
theorem fnG_mk {ci : CI} {Tb : List Fn} {sm : Stmt} {i : Nat} {x : Str} {ps N : List Str} {f : Addr} {fd : FuncData} {k : Nat} (t : Tx ci Tb sm i x ps N) (F : Fd K mg sm x f fd)
    (hblt : ∀ x ∈ bltNames, mg x = none) (hgl : ∀ x d, ci.gl.lookup x = some d → d.scal = true ∧ ∃ u, mg x = some u ∧ RelV (vOf d) u)
    (hfn : ∀ i x ps, ci.fs[i]? = some (x, ps) → (x == ("__debug__" : Str)) = false ∧ ∃ f fd, mg x = some (.ref f) ∧ PySem.W.keepIn K (.ref f) = true ∧ Binds K fd ps [] ∧
      FnG Pg w K mg base k f fd ps (spC K (run Tb k) i ps.length) ∧ ∀ n ks pm, (i, n, ks) ∈ ci.kw → kwPm ps ks n = some pm → KB K fd ps n ks pm) :
    FnG Pg w K mg base (k + 1) f fd ps (spC K (run Tb (k + 1)) i ps.length) := by
  obtain ⟨n, body, hc, hT⟩ := t.cp
  obtain ⟨oc, od, kV, doc, pm, an, cdv, ct, osl, rfl, lk, hcd⟩ := F.ex
  refine ⟨fun A outer s H ar us vs Q hg room e0 hb rv hlen hsp => ?_⟩
  obtain ⟨_, Z, C, ds, st, re, il, hw⟩ := hsp
  have kin : K.In s.heap := e0.mod.kin.keeps fun b o z => (e0.bs b o z).1
  have nlm : s.heap.NoLimit := e0.mod.nolimit.keeps fun b o z => (e0.bs b o z).1
  have par : ∀ y ∈ ps.zip us, (defScope sm).names.lookup y.1 = some .local ∨ ((defScope sm).names.lookup y.1 = some .cell ∧ ((cellsFrom (s.heap.objs.size + 1) (defScope sm).names []).lookup y.1).isSome = true) := by
    rintro ⟨y, u⟩ hy
    have hp := t.sc.par y (List.of_mem_zip hy).1
    exact hp.imp id fun q => ⟨q, PySem.W.cellsFrom_some _ _ _ (.inl q)⟩
  refine codeAny_call_function room.depth (kin _ _ lk) rfl t.sc.co t.sc.gen rfl (PySem.W.codeRec_of kin hcd) (hb _ _ _ _ (wpAny_newFunctionEnv_cells t.sc.kind par fun env he s1 ic => ?_))
  subst he
  refine ⟨nlm.keeps ic.toInCall.keep, codeAny_func ?_⟩
  have I := inv_start (CX := L2.CX0) (E := L2.E0) (P := Pg) (w := w) (vs := vs) t.sc room.hd e0 hlen rv ic
  have cx : CtX ci k (run Tb k) N (defScope sm) (cxOf L2.CX0 Pg w K mg base N x (defScope sm) f cdv A outer s H L2.E0) := ⟨rfl, rfl, t.sc.nd, rfl, room.deeper _, hg, by have := room.un; show A.units + 3 + 100 < cLine; omega, hblt, hgl, hfn⟩
  have own : PassesOwn (model Pg w) (cxOf L2.CX0 Pg w K mg base N x (defScope sm) f cdv A outer s H L2.E0).A (cxOf L2.CX0 Pg w K mg base N x (defScope sm) f cdv A outer s H L2.E0).env (cxOf L2.CX0 Pg w K mg base N x (defScope sm) f cdv A outer s H L2.E0).xe := PassesOwn.leaving
  have ps1 := (snds ci k (run Tb k) N ps n).ss hc _ ⟨cx, own, fun _ => rfl⟩
  have hds : ds.length = ps.length := by rw [← il.length]; exact hlen
  have q0 : tSs K (run Tb k) body { nx := fun _ H' => Q .non H', rt := Q } (L2.start N vs) H :=
    ⟨baseOf Z C H, startS ⟨ps.length, N.length, body⟩ ds, st, Z, C, fun _ => [], [], sr_start re il hds rfl t.np, body_ok hT hds re hw⟩
  refine wpAny_mono (ps1.run [] s1 _ H _ I q0) (fun fl s2 hs => ?_) fun e s2 hs => hs
  cases fl with
  | next =>
    obtain ⟨σ2, H2, J, q⟩ := hs
    exact ⟨.non, H2, J.os, J.bare, J.base, J.hok, rfl, q⟩
  | ret u =>
    obtain ⟨v2, σ2, H2, J, r2, q⟩ := hs
    exact ⟨v2, H2, J.os, J.bare, J.base, J.hok, r2, q⟩
  | brk => exact hs.choose_spec.choose_spec.2.elim
  | cont => exact hs.choose_spec.choose_spec.2.elim
/-- all defs of the table, to any depth -/
theorem fns {ci : CI} {Tb : List Fn} (hD : ∀ i x ps, ci.fs[i]? = some (x, ps) → ∃ sm N f fd, Tx ci Tb sm i x ps N ∧ Fd K mg sm x f fd)
    (hblt : ∀ x ∈ bltNames, mg x = none) (hgl : ∀ x d, ci.gl.lookup x = some d → d.scal = true ∧ ∃ u, mg x = some u ∧ RelV (vOf d) u) :
    ∀ k i x ps, ci.fs[i]? = some (x, ps) → (x == ("__debug__" : Str)) = false ∧ ∃ f fd, mg x = some (.ref f) ∧ PySem.W.keepIn K (.ref f) = true ∧ Binds K fd ps [] ∧
      FnG Pg w K mg base k f fd ps (spC K (run Tb k) i ps.length) ∧ ∀ n ks pm, (i, n, ks) ∈ ci.kw → kwPm ps ks n = some pm → KB K fd ps n ks pm := by
  intro k
  induction k with
  | zero =>
    intro i x ps h
    obtain ⟨sm, N, f, fd, t, F⟩ := hD i x ps h
    obtain ⟨oc, od, kV, doc, pm, an, cdv, ct, osl, rfl, lk, hcd⟩ := F.ex
    refine ⟨t.nd, f, _, F.at_, F.kp, .all (t.bd kV doc pm an cdv ct), ⟨fun A outer s H ar us vs Q hg room e0 hb rv hlen hsp => ?_⟩, fun n ks pm1 h1 h2 s us ws ys _ h3 h4 h5 => .of_eq (t.kw n ks pm1 h1 h2 kV doc pm an cdv ct us ws ys h3 h4 h5)⟩
    obtain ⟨_, Z, C, ds, st, re, il, hw⟩ := hsp
    exact hw.elim
  | succ k ih =>
    intro i x ps h
    obtain ⟨sm, N, f, fd, t, F⟩ := hD i x ps h
    have F0 := F
    obtain ⟨oc, od, kV, doc, pm, an, cdv, ct, osl, rfl, lk, hcd⟩ := F.ex
    exact ⟨t.nd, f, _, F.at_, F.kp, .all (t.bd kV doc pm an cdv ct), fnG_mk t F0 hblt hgl ih, fun n ks pm1 h1 h2 s us ws ys _ h3 h4 h5 => .of_eq (t.kw n ks pm1 h1 h2 kV doc pm an cdv ct us ws ys h3 h4 h5)⟩
end
end IX
/-! IXv: the law's own head. Own work. -/
namespace IX
open PySem PySem.Spec PyProof.Rows L2 Evl

/-- the heap in which nothing but the script is told -/
def scrH (K : PySem.W.Frag) (a : Addr) (o : Obj) (ns : List Int) : Hp := fun b => if b = a ∧ K.lookup a = none then some (.frz o (.lst (ns.map V.int))) else none
theorem scrH_at {K : PySem.W.Frag} {a b : Addr} {o : Obj} {ns : List Int} {u : HO} (h : scrH K a o ns b = some u) : b = a ∧ K.lookup a = none ∧ u = .frz o (.lst (ns.map V.int)) := by
  unfold scrH at h
  split at h
  · rename_i hc
    exact ⟨hc.1, hc.2, (Option.some.inj h).symm⟩
  · cases h
section
variable {Pg : Program} {w : World} {K : PySem.W.Frag} {mg mb : Str → Option Value}
theorem law_goes {k : Nat} {fa a : Addr} {fd : FuncData} {x : Str} {sp : Sp} {s : Shared} {us : List Value} {ns : List Int} (kin : K.In s.heap) (gns : s.heap.Ns mainGlobals mg) (bns : s.heap.Ns builtinsNs mb)
    (bbt : ∀ x : Str, x ≠ "__name__" → mb x = bootBuiltins x) (nlm : s.heap.NoLimit) (gen0 : s.gens = #[]) (scr : s.heap.get? a = some { cls := .type "list", data := .seq us.toArray }) (inz : IntsAre us ns) (few : ns.length ≤ sizeLine) (room : Room k callerA)
    (F : ∀ base : Heap, K.In base → base.Ns mainGlobals mg → FnG Pg w K mg base k fa fd [x] sp) (bind1 : ∀ (s : Shared) (u : Value), BindsTo s fd ⟨[u], []⟩ [(x, u)])
    (goal : ∀ H : Hp, SqL K H a (ns.map V.int) → sp [.ref a] H (fun v _ => v = .bl true) L2.E0) :
    codeAny (model Pg w) callerA (.call (.ref fa) ⟨[.ref a], []⟩) (fun r s' => r = .ok (.ret (.bool true)) ∧ OldK s.heap s'.heap ∧ s'.os = s.os ∧ AllBare s'.gens) s := by
  have rv := vals_ints inz
  generalize ho : ({ cls := .type "list", data := .seq us.toArray } : Obj) = o at scr
  generalize hH : scrH K a o ns = H
  have at_ : ∀ {b : Addr} {u : HO}, H b = some u → b = a ∧ K.lookup a = none ∧ u = .frz o (.lst (ns.map V.int)) := fun {b u} h => scrH_at (by rw [hH]; exact h)
  have nothing : ∀ {b : Addr}, (b = a → K.lookup a = none → False) → H b = none := fun {b} h => by
    cases e : H b with
    | none => rfl
    | some u => exact (h (at_ e).1 (at_ e).2.1).elim
  have hok : HOk Pg w H s.heap := fun b u e => by
    obtain ⟨rfl, _, rfl⟩ := at_ e
    exact ⟨scr, by rw [List.length_map]; exact few, us, _, rv, scr.trans (congrArg some ho.symm)⟩
  have sq : SqL K H a (ns.map V.int) := by
    cases e : K.lookup a with
    | none => exact .inl (.inr ⟨o, by rw [← hH]; exact if_pos ⟨rfl, e⟩⟩)
    | some o2 =>
      have e2 := kin a o2 e
      rw [scr] at e2
      cases e2
      exact .inr ⟨_, us.toArray, _, e, congrArg Obj.cls ho.symm, congrArg Obj.dict ho.symm, congrArg Obj.data ho.symm, by rw [List.size_toArray, inz.length]; exact few, by simpa using rv⟩
  have lay : ∀ {b : Addr} {q : Obj}, s.heap.get? b = some q → H b = none → (hidT s.heap H).get? b = some q := fun e n => hidT_get e n
  have dnot : ∀ {b : Addr} {q : Obj} {es : Array DictEntry} {ep : Nat}, s.heap.get? b = some q → q.data = .dict es ep → H b = none := fun {b q es ep} e hd => nothing fun eb _ => by
    rw [eb, scr] at e
    cases e
    rw [← ho] at hd
    cases (show Data.seq us.toArray _ = Data.dict es ep from hd)
  have nsT : ∀ {b : Addr} {m : Str → Option Value}, s.heap.Ns b m → (hidT s.heap H).Ns b m := by
    rintro b m ⟨q, es, ep, e, hd, r⟩
    exact ⟨q, es, ep, lay e (dnot e hd), hd, r⟩
  have kinT : K.In (hidT s.heap H) := fun b q e => lay (kin b q e) (nothing fun eb en => by
    rw [eb, en] at e
    cases e)
  have nlmT : (hidT s.heap H).NoLimit := by
    obtain ⟨mc, h1, h2⟩ := nlm
    exact ⟨mc, nsT h1, h2⟩
  have env0 : Env0 Pg w K mg (hidT s.heap H) callerA [] s H :=
    { frames := rfl
      mod := ⟨kinT, nsT gns, ⟨mb, nsT bns, bbt⟩, nlmT⟩
      bs := fun b q e => of_hidT e
      bsz := Nat.le_of_eq (hidT_size _ _)
      funs := trivial
      frf := fun b hb => by cases hb
      hok := hok
      bare := .of_eq gen0 }
  have run1 := (F _ kinT (nsT gns)).go callerA [] s H ⟨[.ref a], []⟩ [.ref a] [.ref a] _ rfl room env0 (bind1 s (.ref a)) (.cons rfl .nil) rfl (goal H sq)
  refine codeAny_mono run1 fun r s' h => ?_
  match r, h with
  | .error e, h => exact False.elim h
  | .ok .next, h => exact False.elim h
  | .ok .brk, h => exact False.elim h
  | .ok .cont, h => exact False.elim h
  | .ok (.ret u), h =>
    obtain ⟨v, H2, os, bare, un, hok2, r2, hq⟩ := h
    have hv : v = .bl true := hq
    subst hv
    have hu : u = Value.bool true := r2
    subst hu
    refine ⟨rfl, .of_keep fun b q e => ?_, os, bare⟩
    cases hb : H b with
    | none => exact un.keep b q e hb (by intro z; cases z) (by simp)
    | some t =>
      obtain ⟨rfl, _, rfl⟩ := at_ hb
      obtain ⟨e2, _⟩ := hok2 b _ (un.frzs b o _ hb)
      rw [scr] at e
      cases e
      exact e2
end
/-- the goal at the head, from a run of the table -/
theorem walk_ix {l : PySem.W.OpenLaw} {n k li : Nat} {q : Program} {loose : List Str} {XP : (Str → Option Value) → Heap → Prop} {YP : World → Heap → Prop} {d : DefRec} {K : Params → PySem.W.Frag} {x : Str} {Tb : List Fn}
    (hn : l.most = some n) (hn2 : n ≤ 1000) (hdf : d.params.defaults = []) (room : Room k callerA) (hY : ∀ (w : World) (h : Heap), YP w h → (K w.params).In h)
    (F : ∀ (w : World) (mg : Str → Option Value) (fa : Addr) (h : Heap), (K w.params).In h → h.Ns mainGlobals mg → mg d.name = some (.ref fa) → ∃ fd : FuncData, (∀ (s : Shared) (u : Value), BindsTo s fd ⟨[u], []⟩ [(x, u)]) ∧
      ∀ base : Heap, (K w.params).In base → base.Ns mainGlobals mg → FnG l.prog w (K w.params) mg base k fa fd [x] (spC (K w.params) (run Tb k) li 1))
    (goes : ∀ ns : List Int, ns.length ≤ n → (∀ z ∈ ns, Builtin.Int.intBits z ≤ 1048576) → ∃ m st, run Tb k li [.scr ns] [] = .ok (.bl true, m) st) :
    PySem.W.WalkO q loose XP YP l.row.toRowW d [] (fun f vs => PySem.call f vs) := by
  refine Att.attach_callB hn hdf fun w s₀ s mg mb fa o pm cd doc a us ns G Y ho hd hcd hmg hobj inz len bits gen0 => ?_
  have kin := hY w _ Y
  obtain ⟨fd, b1, hF⟩ := F w mg fa _ kin G.T.g hmg
  refine law_goes kin G.T.g G.T.b G.T.builtins G.T.nolimit gen0 hobj inz (Nat.le_trans len (Nat.le_trans hn2 (by decide))) room hF b1 fun H sq => ?_
  obtain ⟨m, st, e⟩ := goes ns len bits
  refine ⟨rfl, H, [], [.scr ns], [], ⟨Ex.refl H, rfl, fun k ds h => (by simp at h), fun a h => (by cases h), List.nodup_nil⟩, .cons (.scr sq (Nat.le_trans len hn2)) .nil, ?_⟩
  rw [e]
  exact fun v Z' H' S _ o => (ow_bl o).1
end IX
/-! IXw: what a law's table asks. Own work. -/
namespace IX
open PySem PySem.Spec PyProof.Rows L2 Evl
abbrev fe (x : Str) (ps : List Str) : Str × List Str := (x, ps)
def kwOf (i : Nat) : List (Nat × Nat × List Str) → List (Nat × List Str)
  | [] => []
  | (j, n, ks) :: r => if j = i then (n, ks) :: kwOf i r else kwOf i r
theorem kwOf_mem {i n : Nat} {ks : List Str} : ∀ {l : List (Nat × Nat × List Str)}, (i, n, ks) ∈ l → (n, ks) ∈ kwOf i l
  | (j, m, xs) :: r, h => by
    unfold kwOf
    rcases List.mem_cons.mp h with e | h
    · cases e
      rw [if_pos rfl]
      exact List.mem_cons_self
    · split
      · exact List.mem_cons_of_mem _ (kwOf_mem h)
      · exact kwOf_mem h
/-- a def as it stands behind the top, by what the fragment tells -/
structure Df (K : PySem.W.Frag) (sm : Stmt) (x : Str) (f : Addr) : Prop where
  ex : ∃ (oc : Value) (od : Option Addr) (kV doc pm : Value) (an : Option Addr) (cdv ct : Value) (osl : Array (Option Value)), K.lookup f = some ⟨oc, od, .func (PySem.W.fnOf x x (defArgs sm) (defBody sm) (defScope sm) .none kV doc pm an cdv ct), osl⟩ ∧ PySem.W.codeIn K cdv x = true
  kp : PySem.W.keepIn K (.ref f) = true
  ns : PySem.W.nsIn K mainGlobals x = some (some (.ref f))
theorem df_mk {K : PySem.W.Frag} {sm : Stmt} {x : Str} {f : Addr} {oc : Value} {od : Option Addr} {kV doc pm : Value} {an : Option Addr} {cdv ct : Value} {osl : Array (Option Value)} (a : PySem.W.nsIn K mainGlobals x = some (some (.ref f)))
    (l : K.lookup f = some ⟨oc, od, .func (PySem.W.fnOf x x (defArgs sm) (defBody sm) (defScope sm) .none kV doc pm an cdv ct), osl⟩) (c : PySem.W.codeIn K cdv x = true) (k : PySem.W.keepIn K (.ref f) = true) : ∃ f, Df K sm x f := ⟨f, ⟨⟨oc, od, kV, doc, pm, an, cdv, ct, osl, l, c⟩, k, a⟩⟩
theorem Df.fd {K : PySem.W.Frag} {h : Heap} {mg : Str → Option Value} {sm : Stmt} {x : Str} {f : Addr} (X : K.In h) (G : h.Ns mainGlobals mg) (d : Df K sm x f) : ∃ fd, Fd K mg sm x f fd := by
  obtain ⟨oc, od, kV, doc, pm, an, cdv, ct, osl, l, c⟩ := d.ex
  exact ⟨_, ⟨oc, od, kV, doc, pm, an, cdv, ct, osl, rfl, l, c⟩, d.kp, PySem.W.mg_of X G d.ns⟩
/-- the table: place by place -/
inductive Tab (K : PySem.W.Frag) (ci : CI) (Tb : List Fn) : Nat → List (Str × List Str) → Prop
  | nil {i : Nat} : Tab K ci Tb i []
  | cons {i : Nat} {x : Str} {ps : List Str} {r : List (Str × List Str)} {sm : Stmt} {N : List Str} (t : Tx ci Tb sm i x ps N) (d : ∃ f, Df K sm x f) (h : Tab K ci Tb (i + 1) r) : Tab K ci Tb i ((x, ps) :: r)
theorem Tab.get {K : PySem.W.Frag} {ci : CI} {Tb : List Fn} {hp : Heap} {mg : Str → Option Value} (X : K.In hp) (G : hp.Ns mainGlobals mg) : ∀ {l : List (Str × List Str)} {i j : Nat} {x : Str} {ps : List Str}, Tab K ci Tb i l → l[j]? = some (x, ps) → ∃ sm N f fd, Tx ci Tb sm (i + j) x ps N ∧ Fd K mg sm x f fd
  | _ :: _, i, 0, x, ps, .cons t d h, e => by
    cases e
    obtain ⟨f, d⟩ := d
    obtain ⟨fd, F⟩ := d.fd X G
    exact ⟨_, _, f, fd, t, F⟩
  | _ :: _, i, j + 1, x, ps, .cons t d h, e => by
    obtain ⟨sm, N, f, fd, q1, q2⟩ := Tab.get X G (j := j) h (by simpa using e)
    refine ⟨sm, N, f, fd, ?_, q2⟩
    rw [show i + (j + 1) = i + 1 + j by omega]
    exact q1
/-- the constants -/
inductive Glo (K : PySem.W.Frag) : List (Str × D) → Prop
  | nil : Glo K []
  | cons {x : Str} {n : Int} {t : Tok} {r : List (Str × D)} (h : PySem.W.nsIn K mainGlobals x = some (some (.int n t))) (g : Glo K r) : Glo K ((x, .int n) :: r)
theorem Glo.get {K : PySem.W.Frag} {hp : Heap} {mg : Str → Option Value} (X : K.In hp) (G : hp.Ns mainGlobals mg) : ∀ {l : List (Str × D)} {x : Str} {d : D}, Glo K l → l.lookup x = some d → d.scal = true ∧ ∃ u, mg x = some u ∧ RelV (vOf d) u
  | (y, .int n) :: r, x, d, .cons h g, e => by
    rw [List.lookup_cons] at e
    split at e
    · rename_i q
      cases e
      have : x = y := beq_iff_eq.mp q
      subst this
      exact ⟨rfl, _, PySem.W.mg_of X G h, ⟨_, rfl⟩⟩
    · exact Glo.get X G g e
inductive Blt (K : PySem.W.Frag) : List Str → Prop
  | nil : Blt K []
  | cons {x : Str} {r : List Str} (h : PySem.W.nsIn K mainGlobals x = some none) (g : Blt K r) : Blt K (x :: r)
theorem Blt.get {K : PySem.W.Frag} {hp : Heap} {mg : Str → Option Value} (X : K.In hp) (G : hp.Ns mainGlobals mg) : ∀ {l : List Str} {x : Str}, Blt K l → x ∈ l → mg x = none
  | y :: r, x, .cons h g, e => by
    rcases List.mem_cons.mp e with rfl | e
    · exact PySem.W.mg_none_of X G h
    · exact Blt.get X G g e
/-- the law's own def, over every base -/
theorem all_mk {Pg : Program} {w : World} {K : PySem.W.Frag} {h : Heap} {mg : Str → Option Value} {fa : Addr} {ci : CI} {Tb : List Fn} {k li : Nat} {lx sx : Str} (X : K.In h) (G : h.Ns mainGlobals mg) (hfa : mg lx = some (.ref fa)) (hl : ci.fs[li]? = some (lx, [sx]))
    (tab : Tab K ci Tb 0 ci.fs) (glo : Glo K ci.gl) (blt : Blt K bltNames) :
    ∃ fd : FuncData, (∀ (s : Shared) (u : Value), BindsTo s fd ⟨[u], []⟩ [(sx, u)]) ∧ ∀ base : Heap, K.In base → base.Ns mainGlobals mg → FnG Pg w K mg base (k + 1) fa fd [sx] (spC K (run Tb (k + 1)) li 1) := by
  obtain ⟨sm, N, f, fd, t, F⟩ := tab.get X G hl
  rw [Nat.zero_add] at t
  have e := hfa.symm.trans F.at_
  cases e
  have F0 := F
  obtain ⟨oc, od, kV, doc, pm, an, cdv, ct, osl, rfl, lk, hcd⟩ := F.ex
  refine ⟨_, fun s u => .of_eq (t.bd kV doc pm an cdv ct [u] rfl), fun base _ _ => ?_⟩
  have hD : ∀ i x ps, ci.fs[i]? = some (x, ps) → ∃ sm N f fd, Tx ci Tb sm i x ps N ∧ Fd K mg sm x f fd := fun i x ps h => by
    have := tab.get X G h
    rw [Nat.zero_add] at this
    exact this
  exact fnG_mk t F0 (fun x hx => blt.get X G hx) (fun x d h => glo.get X G h) (fns hD (fun x hx => blt.get X G hx) (fun x d h => glo.get X G h) k)
end IX
/-! IXx: runs of small bodies, in plain Lean. Own work. -/
namespace IX
open PySem

/-- asked by isinstance -/
def tyOk : D → Bool
  | .clo _ _ => false | .exc _ _ => false | .scr _ => false
  | _ => true
def isI : D → Bool
  | .int _ => true
  | _ => false
def isL : D → Bool
  | .lst _ => true | .cell _ => true
  | _ => false
def geI (d : D) (n : Int) : Bool := match d with
  | .int i => decide (n ≤ i)
  | _ => false
/-- 0 ≤ d < n -/
def below (d : D) (n : Int) : Bool := match d with
  | .int i => decide (0 ≤ i) && decide (i < n)
  | _ => false
theorem vis_in {vs : List Nat} {i : Nat} {x : DL} (h : vs.contains i = true) : visible vs i x = true := by simp only [visible, h, Bool.true_or]
theorem view_nil (vs : List Nat) (k : Nat) : viewGo vs k [] = [] := rfl
theorem view_some (vs : List Nat) (k : Nat) (x : DL) (r : SEnv) (h : vs.contains k = true) : viewGo vs k (some x :: r) = some x.1 :: viewGo vs (k + 1) r := by
  simp only [viewGo, vis_in h, if_true]
theorem view_none (vs : List Nat) (k : Nat) (r : SEnv) : viewGo vs k (none :: r) = none :: viewGo vs (k + 1) r := rfl
theorem isi_int {d : D} (h : tyOk d = true) : isTyD .int d = some (isI d || (match d with | .bl _ => true | _ => false)) := by cases d <;> first | rfl | cases h
theorem isi_bool {d : D} (h : tyOk d = true) : isTyD .bool d = some (match d with | .bl _ => true | _ => false) := by cases d <;> first | rfl | cases h
theorem isi_list {d : D} (h : tyOk d = true) : isTyD .list d = some (isL d) := by cases d <;> first | rfl | cases h

theorem run_ok {T : List Fn} {k i : Nat} {st : Sto} {fn : Fn} {xs : List D} {x : DL} (hT : T[i]? = some fn) (hl : xs.length = fn.np) (h : outOf (execSs (run T k) fn.body (startS fn xs) st) = .ok x st) : run T (k + 1) i xs st = .ok x st := by
  obtain ⟨d, l⟩ := x
  simp only [run, hT, hl, if_true, h]
theorem run_ret {T : List Fn} {k i np nl : Nat} {st : Sto} {e : E} {vs : List Nat} {xs : List D} {x : DL} (hT : T[i]? = some ⟨np, nl, .cons (.ret e vs) .nil⟩) (hl : xs.length = np) (ρ : Env) (hρ : view vs (startS ⟨np, nl, .cons (.ret e vs) .nil⟩ xs) = ρ)
    (h : evalE (run T k) e ρ st = .ok x st) : run T (k + 1) i xs st = .ok x st := by
  refine run_ok hT hl ?_
  simp only [execSs, execS, hρ, h, bind_ok, outOf]
section
variable {T : List Fn} {k i : Nat} {st : Sto}
theorem r_is_whole (hT : T[i]? = some ⟨1, 1, .cons (.ret (.and (.isi (.var 0) [.int]) (.not (.isi (.var 0) [.bool]))) [0, 0]) .nil⟩) {d : D} (h : tyOk d = true) : run T (k + 1) i [d] st = .ok (.bl (isI d), 2) st := by
  refine run_ok hT rfl ?_
  cases d <;> first | rfl | cases h
theorem r_is_count {c : Nat} (hT : T[i]? = some ⟨1, 1, .cons (.ret (.and (.call c (.cons (.var 0) .nil)) (.cmp .ge (.var 0) (.con (.int 0)))) [0, 0]) .nil⟩) {d : D} (hc : run T k c [d] st = .ok (.bl (isI d), 2) st) : run T (k + 1) i [d] st = .ok (.bl (geI d 0), 2) st := by
  refine run_ok hT rfl ?_
  simp [execSs, execS, evalE, evalEs, startS, view, viewGo, visible, lv0, hc, bool?, outOf]
  cases d <;> simp [isI, geI, cmpD]
theorem r_is_below {c : Nat} (hT : T[i]? = some ⟨2, 2, .cons (.ret (.and (.call c (.cons (.var 0) .nil)) (.cmp .lt (.var 0) (.var 1))) [0, 0, 1]) .nil⟩) {d : D} {n : Int} (hc : run T k c [d] st = .ok (.bl (geI d 0), 2) st) : run T (k + 1) i [d, .int n] st = .ok (.bl (below d n), 2) st := by
  refine run_ok hT rfl ?_
  simp [execSs, execS, evalE, evalEs, startS, view, viewGo, visible, lv0, hc, bool?, outOf]
  cases d <;> simp [below, geI, cmpD]
  rename_i j
  by_cases h : 0 ≤ j <;> simp [h]
end
/-! ### comprehensions -/
section
variable {t : Env → Sto → R Bool} {f : Env → Sto → R DL} {g : Tg} {ρ : Env} {st : Sto}
/-- turns that leave the cells alone -/
theorem lcGo_pure {p : D → Bool} {h : D → DL} : ∀ {ds : List D}, (∀ d ∈ ds, ∃ ρ', g.bind d ρ = some ρ' ∧ t ρ' st = .ok (p d) st ∧ (p d = true → f ρ' st = .ok (h d) st)) → lcGo t f g ρ ds st = .ok ((ds.filter p).map h) st
  | [], _ => rfl
  | d :: ds, H => by
    obtain ⟨ρ', h1, h2, h3⟩ := H d List.mem_cons_self
    have ih := lcGo_pure (ds := ds) fun e he => H e (List.mem_cons_of_mem _ he)
    simp only [lcGo, h1, h2, bind_ok]
    cases hp : p d with
    | true => simp [h3 hp, ih, List.filter_cons, hp]
    | false => simp [ih, List.filter_cons, hp]
end
section
variable {T : List Fn} {k i : Nat} {st : Sto}
def bLot : Ss := .cons (.ret (.lc (.var 2) (.tp [.nm 2, .nm 3]) (.enu (.var 0)) (.cons (.cmp .eq (.var 3) (.var 1)) .nil)) [2, 0, 3, 1]) .nil
end
end IX
/-! IXy: runs of the functions about wholes and lots. Own work. -/
namespace IX
open PySem

/-- a list of ints, a list of such lists, as values -/
def Ld (ws : List Int) : D := .lst (ws.map .int)
def Wd (W : List (List Int)) : D := .lst (W.map Ld)
theorem eqD_int (a b : Int) : eqD (.int a) (.int b) = some (a == b) := by
  have h : ∀ i : Int, SeqAt.shaped (PyData.int i) = true := fun i => by
    simp [SeqAt.shaped, PyData.canLay0, PyData.depth]
  simp [eqD, pyPair, D.py, h, PyData.eqv]
def lotGo : Nat → List Int → Int → List Int
  | _, [], _ => []
  | k, w :: r, h => if w = h then (k : Int) :: lotGo (k + 1) r h else lotGo (k + 1) r h
def lotsOf (n : Nat) (ws : List Int) : List (List Int) := (List.range n).map fun (h : Nat) => lotGo 0 ws h
def getI (row : List Int) (i : Int) : Int := row.getD i.toNat 0
def valI (row lot : List Int) : Int := (lot.map (getI row)).sum
theorem ints_map : ∀ ns : List Int, ints? (ns.map .int) = some ns
  | [] => rfl
  | n :: r => by simp [ints?, ints_map r]
theorem flat_ints : ∀ ns : List Int, D.flatL (ns.map .int) = true
  | [] => rfl
  | n :: r => by simp [D.flatL, D.flat, flat_ints r]
theorem lotGo_mem : ∀ {k : Nat} {ws : List Int} {h i : Int}, i ∈ lotGo k ws h → (k : Int) ≤ i ∧ i < k + ws.length
  | k, [], h, i, hm => by simp [lotGo] at hm
  | k, w :: r, h, i, hm => by
    simp only [lotGo] at hm
    split at hm
    · rcases List.mem_cons.mp hm with e | hm
      · subst e
        simp only [List.length_cons]
        omega
      · have := lotGo_mem hm
        simp only [List.length_cons]
        omega
    · have := lotGo_mem hm
      simp only [List.length_cons]
      omega
theorem atI_at {α : Type} {xs : List α} {i : Int} {x : α} (h0 : 0 ≤ i) (h : xs[i.toNat]? = some x) : L2.atI xs i = some x := by
  have e : i = (i.toNat : Int) := by omega
  rw [e]
  exact L2.atI_nat h
section
variable {T : List Fn} {k i : Nat} {st : Sto}
theorem enuD_mem : ∀ {xs : List D} {j : Nat} {d : D}, d ∈ enuD j xs → ∃ (i : Nat) (x : D), d = .tup [.int i, x] ∧ x ∈ xs ∧ j ≤ i ∧ xs[i - j]? = some x
  | [], _, _, h => by cases h
  | x :: xs, j, d, h => by
    rcases List.mem_cons.mp h with rfl | h
    · exact ⟨j, x, rfl, List.mem_cons_self, Nat.le_refl _, by simp⟩
    · obtain ⟨i, y, h1, h2, h3, h4⟩ := enuD_mem h
      refine ⟨i, y, h1, List.mem_cons_of_mem _ h2, by omega, ?_⟩
      rw [show i - j = (i - (j + 1)) + 1 by omega, List.getElem?_cons_succ]
      exact h4
def pLot (h : Int) : D → Bool
  | .tup [_, .int w] => w == h
  | _ => false
def hLot : D → DL
  | .tup [x, _] => (x, 2)
  | d => (d, 2)
theorem filt_lot (h : Int) : ∀ (ws : List Int) (j : Nat), ((enuD j (ws.map .int)).filter (pLot h)).map hLot = (lotGo j ws h).map fun i => (D.int i, 2)
  | [], j => rfl
  | w :: ws, j => by
    have ih := filt_lot h ws (j + 1)
    simp only [List.map_cons, enuD, List.filter_cons, lotGo]
    by_cases q : w = h
    · simp [pLot, q, hLot, ih]
    · simp [pLot, q, ih]
theorem enu_lot {call : Nat → List D → Sto → R DL} {d0 : D} {h : Int} (ws : List Int) :
    lcGo (fun ρ st => noEx (evalTs call (.cons (.cmp .eq (.var 3) (.var 1)) .nil) ρ st)) (fun ρ st => noEx (evalE call (.var 2) ρ st)) (.tp [.nm 2, .nm 3]) [some d0, some (.int h), none, none] (enuD 0 (ws.map .int)) st = .ok ((lotGo 0 ws h).map fun i => (D.int i, 2)) st := by
  rw [lcGo_pure (p := pLot h) (h := hLot), filt_lot]
  intro d hd
  obtain ⟨i, x, rfl, hx, _⟩ := enuD_mem hd
  obtain ⟨w, _, rfl⟩ := List.mem_map.mp hx
  refine ⟨[some d0, some (.int h), some (.int i), some (.int w)], rfl, ?_, fun _ => ?_⟩
  · simp [evalTs, evalE, lv0, D.flat, cmpD, eqD_int, noEx, bool?, pLot]
  · simp [evalE, lv0, D.flat, noEx, hLot]
theorem r_lot_of (hT : T[i]? = some ⟨2, 4, .cons (.ret (.lc (.var 2) (.tp [.nm 2, .nm 3]) (.enu (.var 0)) (.cons (.cmp .eq (.var 3) (.var 1)) .nil)) [2, 0, 3, 1]) .nil⟩) (ws : List Int) (h : Int) :
    run T (k + 1) i [Ld ws, .int h] st = .ok (Ld (lotGo 0 ws h), 2) st := by
  refine run_ret hT rfl [some (Ld ws), some (.int h), none, none] rfl ?_
  have q := enu_lot (call := run T k) (st := st) (d0 := Ld ws) (h := h) ws
  rw [evalE]
  simp only [evalSr]
  rw [show evalE (run T k) (.var 0) [some (Ld ws), some (.int h), none, none] st = .ok (lv0 (Ld ws)) st from rfl]
  simp only [bind_ok, lv0, Ld]
  rw [show wipeE [some (D.lst (ws.map .int)), some (.int h), none, none] (Tg.tp [.nm 2, .nm 3]).slots = [some (Ld ws), some (.int h), none, none] from rfl, q]
  simp [Ld, Function.comp_def]
theorem rng_mem {n : Nat} {d : D} (h : d ∈ rngD 0 n) : ∃ j : Nat, j < n ∧ d = .int j := by
  unfold rngD at h
  obtain ⟨j, hj, rfl⟩ := List.mem_map.mp h
  refine ⟨j, ?_, by simp⟩
  have := List.mem_range.mp hj
  omega
theorem rng_map {β : Type} (n : Nat) (f : D → β) : (rngD 0 n).map f = (List.range n).map fun (j : Nat) => f (.int j) := by
  unfold rngD
  rw [List.map_map, show ((n : Int) - 0).toNat = n by omega]
  refine List.map_congr_left fun j _ => ?_
  simp
/-- the comprehension over range(n), no test -/
theorem lc_rng {call : Nat → List D → Sto → R DL} {ρ ρ1 : Env} {a e : E} {v n : Nat} {f : Nat → DL} (ha : evalE call a ρ st = .ok (.int n, 2) st) (hn : n ≤ 1000) (hw : wipeE ρ [v] = ρ1) (he : ∀ j, j < n → evalE call e (ρ1.set v (some (.int j))) st = .ok (f j) st) :
    evalE call (.lc e (.nm v) (.rng1 a) .nil) ρ st = .ok (.lst ((List.range n).map fun j => (f j).1), if ((List.range n).map f).all (·.2 == 2) then 2 else 1) st := by
  rw [evalE]
  simp only [evalSr, ha, bind_ok]
  have hm : (most : Int) = 100000 := rfl
  rw [if_pos (by omega)]
  simp only [bind_ok, Tg.slots, hw]
  have g : ∀ d ∈ rngD 0 n, ∃ ρ', Tg.bind (.nm v) d ρ1 = some ρ' ∧ noEx (evalTs call .nil ρ' st) = .ok ((fun _ => true) d) st ∧ ((fun _ => true) d = true → noEx (evalE call e ρ' st) = .ok ((fun d => match d with | .int j => f j.toNat | _ => (d, 2)) d) st) := by
    intro d hd
    obtain ⟨j, hj, rfl⟩ := rng_mem hd
    refine ⟨ρ1.set v (some (.int j)), rfl, rfl, fun _ => ?_⟩
    rw [he j hj]
    simp [noEx]
  have fe : (rngD 0 n).filter (fun _ => true) = rngD 0 n := List.filter_eq_self.mpr fun _ _ => rfl
  have e1 : (rngD 0 n).map (fun d => match d with | .int j => f j.toNat | _ => (d, 2)) = (List.range n).map f := by
    rw [rng_map]
    simp
  rw [lcGo_pure g, fe, e1]
  simp only [bind_ok, List.map_map]
  rfl
theorem r_lots_in {c : Nat} (hT : T[i]? = some ⟨2, 3, .cons (.ret (.lc (.call c (.cons (.var 1) (.cons (.var 2) .nil))) (.nm 2) (.rng1 (.bi .len (.cons (.var 0) .nil))) .nil) [1, 2, 0]) .nil⟩) (W : List (List Int)) (ws : List Int) (hW : W.length ≤ 1000)
    (hc : ∀ h : Int, run T k c [Ld ws, .int h] st = .ok (Ld (lotGo 0 ws h), 2) st) : run T (k + 1) i [Wd W, Ld ws] st = .ok (Wd (lotsOf W.length ws), 2) st := by
  refine run_ret hT rfl [some (Wd W), some (Ld ws), none] rfl ?_
  rw [lc_rng (n := W.length) (ρ1 := [some (Wd W), some (Ld ws), none]) (f := fun j => (Ld (lotGo 0 ws (j : Int)), 2)) ?_ hW rfl ?_]
  · simp [Wd, lotsOf, Function.comp_def]
  · simp [evalE, evalEs, biD, lenD, lv0, Wd, items]
  · intro j hj
    simp [evalE, evalEs, lv0, D.flat, hc]
end
end IX
/-! IXz: runs of the functions about worths. Own work. -/
namespace IX
open PySem

section
variable {call : Nat → List D → Sto → R DL} {ρ ρ1 : Env} {a e c : E} {v : Nat} {ds : List D} {l : Nat} {st : Sto} {f : D → DL} {p : D → Bool}
/-- a list's comprehension, no test -/
theorem lc_seq (ha : evalE call a ρ st = .ok (.lst ds, l) st) (hw : wipeE ρ [v] = ρ1) (he : ∀ d ∈ ds, evalE call e (ρ1.set v (some d)) st = .ok (f d) st) :
    evalE call (.lc e (.nm v) (.seq a) .nil) ρ st = .ok (.lst (ds.map fun d => (f d).1), if (ds.map f).all (·.2 == 2) then 2 else 1) st := by
  rw [evalE]
  simp only [evalSr, ha, bind_ok, Tg.slots, hw]
  have g : ∀ d ∈ ds, ∃ ρ', Tg.bind (.nm v) d ρ1 = some ρ' ∧ noEx (evalTs call .nil ρ' st) = .ok ((fun _ => true) d) st ∧ ((fun _ => true) d = true → noEx (evalE call e ρ' st) = .ok (f d) st) := fun d hd =>
    ⟨ρ1.set v (some d), rfl, rfl, fun _ => by rw [he d hd]; rfl⟩
  have fe : ds.filter (fun _ => true) = ds := List.filter_eq_self.mpr fun _ _ => rfl
  rw [lcGo_pure g, fe]
  simp only [bind_ok, List.map_map]
  rfl
/-- .. with a test -/
theorem lc_seqT (ha : evalE call a ρ st = .ok (.lst ds, l) st) (hw : wipeE ρ [v] = ρ1) (hc : ∀ d ∈ ds, evalE call c (ρ1.set v (some d)) st = .ok (.bl (p d), 2) st) (he : ∀ d ∈ ds, p d = true → evalE call e (ρ1.set v (some d)) st = .ok (f d) st) :
    evalE call (.lc e (.nm v) (.seq a) (.cons c .nil)) ρ st = .ok (.lst ((ds.filter p).map fun d => (f d).1), if ((ds.filter p).map f).all (·.2 == 2) then 2 else 1) st := by
  rw [evalE]
  simp only [evalSr, ha, bind_ok, Tg.slots, hw]
  have g : ∀ d ∈ ds, ∃ ρ', Tg.bind (.nm v) d ρ1 = some ρ' ∧ noEx (evalTs call (.cons c .nil) ρ' st) = .ok (p d) st ∧ (p d = true → noEx (evalE call e ρ' st) = .ok (f d) st) := fun d hd => by
    refine ⟨ρ1.set v (some d), rfl, ?_, fun hp => by rw [he d hd hp]; rfl⟩
    simp only [evalTs, hc d hd, bind_ok, bool?, of_some, noEx]
  rw [lcGo_pure g]
  simp only [bind_ok, List.map_map]
  rfl
end
theorem eqD_of {a b : D} {p q : PyData} (h1 : a.py = some p) (h2 : b.py = some q) (s1 : SeqAt.shaped p = true) (s2 : SeqAt.shaped q = true) : eqD a b = some (PyData.eqv p q) := by
  simp only [eqD, pyPair, h1, h2, s1, s2, Bool.and_self, if_true, Option.map_some]
theorem shaped_nil : SeqAt.shaped (PyData.list []) = true := by simp [SeqAt.shaped, PyData.canLay0, PyData.canLayAll0, PyData.depth, PyData.depthAll]
/-- a comprehension that keeps nothing, compared with [] -/
theorem eq_nil {xs : List D} {ps : List PyData} (h : D.pyL xs = some ps) (hs : SeqAt.shaped (.list ps) = true) : eqD (.lst xs) (.lst []) = some xs.isEmpty := by
  have h1 : (D.lst xs).py = some (.list ps) := by simp only [D.py, h]; rfl
  rw [eqD_of h1 rfl hs shaped_nil]
  cases xs with
  | nil =>
    cases h
    simp [PyData.eqv, PyData.eqvAll]
  | cons x r =>
    cases ps with
    | nil =>
      simp only [D.pyL] at h
      split at h <;> cases h
    | cons q qs => simp [PyData.eqv, PyData.eqvAll]
theorem eq_nil0 : eqD (.lst []) (.lst []) = some true := eq_nil (ps := []) rfl shaped_nil

section
variable {T : List Fn} {k i : Nat} {st : Sto}
theorem ix_int {ws : List Int} {j : Int} (h0 : 0 ≤ j) (h1 : j < ws.length) : ixD st (Ld ws, 0) (.int j) = some (.int (getI ws j), 2) := by
  have hj : j.toNat < ws.length := by omega
  have e : L2.atI (ws.map D.int) j = some (.int (getI ws j)) := atI_at h0 (by
    rw [List.getElem?_map, List.getElem?_eq_getElem hj]
    simp [getI, List.getD_eq_getElem?_getD, List.getElem?_eq_getElem hj])
  simp [ixD, Ld, items, e, lvl, D.flat]
theorem r_value_of (hT : T[i]? = some ⟨2, 3, .cons (.ret (.bi .sum (.cons (.lc (.ix (.var 0) (.var 2)) (.nm 2) (.seq (.var 1)) .nil) .nil)) [0, 2, 1]) .nil⟩) {row lot : List Int} (h : ∀ j ∈ lot, 0 ≤ j ∧ j < row.length) :
    run T (k + 1) i [Ld row, Ld lot] st = .ok (.int (valI row lot), 2) st := by
  refine run_ret hT rfl [some (Ld row), some (Ld lot), none] rfl ?_
  have q := lc_seq (call := run T k) (ρ := [some (Ld row), some (Ld lot), none]) (ρ1 := [some (Ld row), some (Ld lot), none]) (a := .var 1) (e := .ix (.var 0) (.var 2)) (v := 2) (ds := lot.map .int) (l := 0) (st := st) (f := fun d => match d with | .int j => (.int (getI row j), 2) | _ => (d, 2)) rfl rfl (fun d hd => by
    obtain ⟨j, hj, rfl⟩ := List.mem_map.mp hd
    have := ix_int (st := st) (h j hj).1 (h j hj).2
    simp only [evalE, List.set, List.getElem?_cons_zero, List.getElem?_cons_succ, bind_ok, lv0, D.flat, if_true]
    rw [show (if (Ld row).flat = true then 2 else 0) = 0 from rfl, this]
    rfl)
  simp only [evalE, evalEs] at q ⊢
  rw [q]
  have e : (lot.map D.int).map (fun d => ((match d with | .int j => (.int (getI row j), 2) | _ => (d, 2)) : DL).1) = (lot.map (getI row)).map .int := by
    rw [List.map_map, List.map_map]
    rfl
  simp only [bind_ok, e, biD, sumD, ints_map, Option.map_some, of_some, valI]
end
end IX
/-! IYa: steps of bodies, in plain Lean. Own work. -/
namespace IX
open PySem

section
variable {call : Nat → List D → Sto → R DL} {ρ ρ' : SEnv} {st st' : Sto} {e c a b : E} {vs : List Nat} {x y : DL} {l : Nat} {p q r : Ss} {i j : Nat}
theorem ex_nil : execSs call .nil ρ st = .ok (.nx, ρ) st := rfl
theorem ex_ite_f (h : evalE call c (view vs ρ) st = .ok (.bl false, l) st') : execSs call (.cons (.ite c vs p .nil) r) ρ st = execSs call r ρ st' := by
  simp only [execSs, execS, evalC, h, bind_ok, bool?, of_some, Bool.false_eq_true, if_false]
theorem ex_ite_t {d : D} (h : evalE call c (view vs ρ) st = .ok (.bl true, l) st') {st'' : Sto} {m : Nat} {ρ2 : SEnv} (hp : execSs call p ρ st' = .ok (.ret d m, ρ2) st'') : execSs call (.cons (.ite c vs p q) r) ρ st = .ok (.ret d m, ρ2) st'' := by
  simp only [execSs, execS, evalC, h, bind_ok, bool?, of_some, if_true, hp]
theorem ex_ite_n (h : evalE call c (view vs ρ) st = .ok (.bl true, l) st') {st'' : Sto} {ρ2 : SEnv} (hp : execSs call p ρ st' = .ok (.nx, ρ2) st'') : execSs call (.cons (.ite c vs p q) r) ρ st = execSs call r ρ2 st'' := by
  simp only [execSs, execS, evalC, h, bind_ok, bool?, of_some, if_true, hp]
theorem ex_ret (h : evalE call e (view vs ρ) st = .ok x st') : execSs call (.cons (.ret e vs) r) ρ st = .ok (.ret x.1 x.2, ρ) st' := by
  simp only [execSs, execS, h, bind_ok]
theorem ex_retv {d : D} (h : ρ[i]? = some (some (d, l))) : execSs call (.cons (.retv i) r) ρ st = .ok (.ret d (lvl (if l = 3 then 0 else l) d).2, ρ) st := by
  simp only [execSs, execS, h, bind_ok]
theorem ex_asg (h : evalE call e (view vs ρ) st = .ok x st') (hs : setS (if x.2 = 2 then ρ else fz vs ρ) i x = some ρ') : execSs call (.cons (.asg i e vs) r) ρ st = execSs call r ρ' st' := by
  simp only [execSs, execS, evalB, h, bind_ok, hs, stoU]
theorem ex_asgT {t : Tg} (h : evalE call e (view vs ρ) st = .ok x st') (hs : t.bindS x (if x.2 = 2 then ρ else fz vs ρ) = some ρ') : execSs call (.cons (.asgT t e vs) r) ρ st = execSs call r ρ' st' := by
  simp only [execSs, execS, evalB, h, bind_ok, hs, stoU]
theorem ex_for {t : Tg} {s : Sr} {bd : Ss} {ds : List D} (h : evalSr call s (view vs ρ) st = .ok ds st') {st'' : Sto} {ρ2 : SEnv} (hb : forGo (fun ρ st => execSs call bd ρ st) t ds (fz vs ρ) st' = .ok (.nx, ρ2) st'') : execSs call (.cons (.for_ t s vs bd) r) ρ st = execSs call r ρ2 st'' := by
  simp only [execSs, execS, h, bind_ok, hb]
theorem ex_forR {t : Tg} {s : Sr} {bd : Ss} {ds : List D} {d : D} {m : Nat} (h : evalSr call s (view vs ρ) st = .ok ds st') {st'' : Sto} {ρ2 : SEnv} (hb : forGo (fun ρ st => execSs call bd ρ st) t ds (fz vs ρ) st' = .ok (.ret d m, ρ2) st'') : execSs call (.cons (.for_ t s vs bd) r) ρ st = .ok (.ret d m, ρ2) st'' := by
  simp only [execSs, execS, h, bind_ok, hb]
theorem ev_var {ρ : Env} {d : D} (h : ρ[i]? = some (some d)) : evalE call (.var i) ρ st = .ok (lv0 d) st := by simp only [evalE, h]
theorem ev_cmp {o : Co} {ρ : Env} {v : Bool} {st'' : Sto} (ha : evalE call a ρ st = .ok x st') (hb : evalE call b ρ st' = .ok y st'') (h : cmpD o x.1 y.1 = some v) : evalE call (.cmp o a b) ρ st = .ok (.bl v, 2) st'' := by
  simp only [evalE, ha, hb, bind_ok, h, Option.map_some, of_some]
theorem ev_or {ρ : Env} {u v : Bool} {l : Nat} (ha : evalE call a ρ st = .ok (.bl u, l) st') (hb : u = false → evalE call b ρ st' = .ok (.bl v, 2) st') : evalE call (.or a b) ρ st = .ok (.bl (u || v), 2) st' := by
  cases u with
  | true => simp only [evalE, ha, bind_ok, bool?, Bool.true_or]
  | false => simp only [evalE, ha, bind_ok, bool?, hb rfl, Bool.false_or]
theorem ev_and {ρ : Env} {u v : Bool} {l : Nat} (ha : evalE call a ρ st = .ok (.bl u, l) st') (hb : u = true → evalE call b ρ st' = .ok (.bl v, 2) st') : evalE call (.and a b) ρ st = .ok (.bl (u && v), 2) st' := by
  cases u with
  | false => simp only [evalE, ha, bind_ok, bool?, Bool.false_and]
  | true => simp only [evalE, ha, bind_ok, bool?, hb rfl, Bool.true_and]
theorem ev_not {ρ : Env} {u : Bool} {l : Nat} (ha : evalE call a ρ st = .ok (.bl u, l) st') : evalE call (.not a) ρ st = .ok (.bl (!u), 2) st' := by
  simp only [evalE, ha, bind_ok, bool?]
theorem run_of {T : List Fn} {k i : Nat} {fn : Fn} {xs : List D} {d : D} {l : Nat} {ρ2 : SEnv} (hT : T[i]? = some fn) (hl : xs.length = fn.np) (h : execSs (run T k) fn.body (startS fn xs) st = .ok (.ret d l, ρ2) st) : run T (k + 1) i xs st = .ok (d, l) st :=
  run_ok hT hl (by rw [h]; rfl)
theorem run_nx {T : List Fn} {k i : Nat} {fn : Fn} {xs : List D} {ρ2 : SEnv} (hT : T[i]? = some fn) (hl : xs.length = fn.np) (h : execSs (run T k) fn.body (startS fn xs) st = .ok (.nx, ρ2) st) : run T (k + 1) i xs st = .ok (.non, 2) st :=
  run_ok hT hl (by rw [h]; rfl)
end
/-! ### worths -/
structure Worths (W : List (List Int)) (n : Nat) : Prop where
  h1 : 1 ≤ W.length
  h2 : W.length ≤ 6
  n1 : 1 ≤ n
  n2 : n ≤ 8
  len : ∀ r ∈ W, r.length = n
  val : ∀ r ∈ W, ∀ v ∈ r, 0 ≤ v ∧ v ≤ 1000
section
variable {T : List Fn} {k i : Nat} {st : Sto}
theorem r_is_worth_row {c : Nat} (hT : T[i]? = some ⟨1, 2, .cons (.ite (.or (.not (.isi (.var 0) [.list])) (.not (.cmp2 .le .le (.con (.int 1)) (.bi .len (.cons (.var 0) .nil)) (.glo "MOST_THINGS" (.int 8))))) [0, 0] (.cons (.ret (.con (.bl false)) []) .nil) .nil)
      (.cons (.ret (.cmp .eq (.lc (.var 1) (.nm 1) (.seq (.var 0)) (.cons (.not (.call c (.cons (.var 1) (.cons (.bin .add (.glo "MOST_WORTH" (.int 1000)) (.con (.int 1))) .nil)))) .nil)) (.lst .nil)) [1, 0, 1]) .nil)⟩)
    {row : List Int} (h1 : 1 ≤ row.length) (h8 : row.length ≤ 8) (hc : ∀ v ∈ row, run T k c [.int v, .int 1001] st = .ok (.bl true, 2) st) : run T (k + 1) i [Ld row] st = .ok (.bl true, 2) st := by
  refine run_of hT rfl ((ex_ite_f (l := 2) (st' := st) ?_).trans (ex_ret (x := (.bl true, 2)) ?_))
  · have e1 : ¬ ((row.length : Int) < 1) := by omega
    have e2 : (1 : Int) ≤ row.length := by omega
    have e3 : (row.length : Int) ≤ 8 := by omega
    simp [evalE, evalEs, startS, view, viewGo, visible, lv0, Ld, isTyD, bool?, biD, lenD, items, cmpD, e2, e3]
  · have q := lc_seqT (call := run T k) (ρ := [some (Ld row), none]) (ρ1 := [some (Ld row), none]) (a := .var 0) (e := .var 1) (c := .not (.call c (.cons (.var 1) (.cons (.bin .add (.glo "MOST_WORTH" (.int 1000)) (.con (.int 1))) .nil)))) (v := 1) (ds := row.map .int) (l := 0) (st := st) (p := fun _ => false) (f := fun d => (d, 2)) rfl rfl (fun d hd => by
      obtain ⟨v, hv, rfl⟩ := List.mem_map.mp hd
      refine ev_not (u := true) (l := 2) ?_
      simp [evalE, evalEs, lv0, D.flat, binD, addD, hc v hv]) (fun d hd h => by cases h)
    refine ev_cmp (x := (.lst [], 2)) (y := (.lst [], 2)) (st' := st) ?_ (by simp [evalE, evalEs]) eq_nil0
    have hf : (row.map D.int).filter (fun _ => false) = [] := List.filter_eq_nil_iff.mpr fun _ _ h => by cases h
    rw [hf] at q
    exact q
end
end IX
/-! IYb: runs of the checks of worths. Own work. -/
namespace IX
open PySem

section
variable {T : List Fn} {k i : Nat} {st : Sto}
theorem filt_none {α : Type} (l : List α) : l.filter (fun _ => false) = [] := List.filter_eq_nil_iff.mpr fun _ _ h => by cases h
theorem Wd_get0 {W : List (List Int)} {r : List Int} (h : W[0]? = some r) : ixD st (Wd W, 0) (.int 0) = some (Ld r, 0) := by
  have e : L2.atI (W.map Ld) 0 = some (Ld r) := atI_at (by decide) (by rw [show (0 : Int).toNat = 0 from rfl, List.getElem?_map, h]; rfl)
  simp [ixD, Wd, items, e, lvl, Ld, D.flat]
theorem r_are_worths {c n : Nat} (hT : T[i]? = some ⟨1, 2, .cons (.ite (.or (.not (.isi (.var 0) [.list])) (.not (.cmp2 .le .le (.con (.int 1)) (.bi .len (.cons (.var 0) .nil)) (.glo "MOST_HEIRS" (.int 6))))) [0, 0] (.cons (.ret (.con (.bl false)) []) .nil) .nil)
      (.cons (.ite (.cmp .ne (.lc (.var 1) (.nm 1) (.seq (.var 0)) (.cons (.not (.call c (.cons (.var 1) .nil))) .nil)) (.lst .nil)) [1, 0, 1] (.cons (.ret (.con (.bl false)) []) .nil) .nil)
      (.cons (.ret (.cmp .eq (.lc (.var 1) (.nm 1) (.seq (.var 0)) (.cons (.cmp .ne (.bi .len (.cons (.var 1) .nil)) (.bi .len (.cons (.ix (.var 0) (.con (.int 0))) .nil))) .nil)) (.lst .nil)) [1, 0, 1, 0]) .nil))⟩)
    {W : List (List Int)} (hW : Worths W n) (hc : ∀ r ∈ W, run T k c [Ld r] st = .ok (.bl true, 2) st) : run T (k + 1) i [Wd W] st = .ok (.bl true, 2) st := by
  have q1 := lc_seqT (call := run T k) (ρ := [some (Wd W), none]) (ρ1 := [some (Wd W), none]) (a := .var 0) (e := .var 1) (c := .not (.call c (.cons (.var 1) .nil))) (v := 1) (ds := W.map Ld) (l := 0) (st := st) (p := fun _ => false) (f := fun d => (d, 0)) rfl rfl (fun d hd => by
    obtain ⟨r, hr, rfl⟩ := List.mem_map.mp hd
    refine ev_not (u := true) (l := 2) ?_
    simp [evalE, evalEs, lv0, hc r hr]) (fun d hd h => by cases h)
  rw [filt_none] at q1
  obtain ⟨r0, hr0⟩ : ∃ r, W[0]? = some r := ⟨W[0]'(by have := hW.h1; omega), List.getElem?_eq_getElem _⟩
  have m0 := List.mem_of_getElem? hr0
  have q2 := lc_seqT (call := run T k) (ρ := [some (Wd W), none]) (ρ1 := [some (Wd W), none]) (a := .var 0) (e := .var 1) (c := .cmp .ne (.bi .len (.cons (.var 1) .nil)) (.bi .len (.cons (.ix (.var 0) (.con (.int 0))) .nil))) (v := 1) (ds := W.map Ld) (l := 0) (st := st) (p := fun _ => false) (f := fun d => (d, 0)) rfl rfl (fun d hd => by
    obtain ⟨r, hr, rfl⟩ := List.mem_map.mp hd
    refine ev_cmp (x := (.int n, 2)) (y := (.int n, 2)) (st' := st) ?_ ?_ (by simp [cmpD, eqD_int])
    · simp [evalE, evalEs, lv0, biD, lenD, Ld, items, hW.len r hr]
    · have := Wd_get0 (st := st) hr0
      simp only [evalE, evalEs, List.set, List.getElem?_cons_zero, bind_ok, lv0, show (if (Wd W).flat = true then 2 else 0) = 0 from rfl, this, of_some, biD, lenD, Ld, items, Option.map_some, List.length_map, hW.len r0 m0]) (fun d hd h => by cases h)
  rw [filt_none] at q2
  refine run_of hT rfl ((ex_ite_f (l := 2) (st' := st) ?_).trans ((ex_ite_f (l := 2) (st' := st) ?_).trans (ex_ret (x := (.bl true, 2)) ?_)))
  · have e2 : (1 : Int) ≤ W.length := by have := hW.h1; omega
    have e3 : (W.length : Int) ≤ 6 := by have := hW.h2; omega
    simp [evalE, evalEs, startS, view, viewGo, visible, lv0, Wd, isTyD, bool?, biD, lenD, items, cmpD, e2, e3]
  · refine ev_cmp (x := (.lst [], 2)) (y := (.lst [], 2)) (st' := st) q1 (by simp [evalE, evalEs]) (by simp [cmpD, eq_nil0])
  · refine ev_cmp (x := (.lst [], 2)) (y := (.lst [], 2)) (st' := st) q2 (by simp [evalE, evalEs]) eq_nil0
theorem r_check {c : Nat} {as : Es} {np nl : Nat} {vs : List Nat} {xs : List D} (hT : T[i]? = some ⟨np, nl, .cons (.ite (.not (.call c as)) vs (.cons (.rais (.con .non)) .nil) .nil) .nil⟩) (hl : xs.length = np) (ρ : Env)
    (hρ : view vs (startS ⟨np, nl, .cons (.ite (.not (.call c as)) vs (.cons (.rais (.con .non)) .nil) .nil) .nil⟩ xs) = ρ) (h : evalE (run T k) (.call c as) ρ st = .ok (.bl true, 2) st) : run T (k + 1) i xs st = .ok (.non, 2) st := by
  refine run_nx hT hl (ρ2 := startS ⟨np, nl, .cons (.ite (.not (.call c as)) vs (.cons (.rais (.con .non)) .nil) .nil) .nil⟩ xs) ?_
  refine (ex_ite_f (l := 2) (st' := st) ?_).trans ex_nil
  rw [hρ]
  exact ev_not (u := true) h
theorem r_check_worths {c : Nat} (hT : T[i]? = some ⟨1, 1, .cons (.ite (.not (.call c (.cons (.var 0) .nil))) [0] (.cons (.rais (.con .non)) .nil) .nil) .nil⟩) {d : D} (hc : run T k c [d] st = .ok (.bl true, 2) st) : run T (k + 1) i [d] st = .ok (.non, 2) st := by
  refine r_check hT rfl [some d] rfl ?_
  simp [evalE, evalEs, lv0, hc]
theorem r_check_heir {c : Nat} (hT : T[i]? = some ⟨2, 2, .cons (.ite (.not (.call c (.cons (.var 1) (.cons (.bi .len (.cons (.var 0) .nil)) .nil)))) [1, 0] (.cons (.rais (.con .non)) .nil) .nil) .nil⟩) {W : List (List Int)} {d : D} (hc : run T k c [d, .int W.length] st = .ok (.bl true, 2) st) :
    run T (k + 1) i [Wd W, d] st = .ok (.non, 2) st := by
  refine r_check hT rfl [some (Wd W), some d] rfl ?_
  simp [evalE, evalEs, lv0, Wd, biD, lenD, items] at hc ⊢
  simp [hc]
end
end IX
/-! IYc: runs of the judges of takers. Own work. -/
namespace IX
open PySem

/-- None or an int -/
def ni : D → Bool
  | .non => true | .int _ => true
  | _ => false
theorem ni_py : ∀ {xs : List D}, xs.all ni = true → ∃ ps, D.pyL xs = some ps ∧ PyData.canLayAll0 ps = true ∧ PyData.depthAll ps = 0
  | [], _ => ⟨[], rfl, by simp [PyData.canLayAll0], by simp [PyData.depthAll]⟩
  | x :: xs, h => by
    simp only [List.all_cons, Bool.and_eq_true] at h
    obtain ⟨ps, h1, h2, h3⟩ := ni_py h.2
    cases x with
    | non => exact ⟨.none :: ps, by simp [D.pyL, D.py, h1], by simp [PyData.canLayAll0, PyData.canLay0, h2], by simp [PyData.depthAll, PyData.depth, h3]⟩
    | int i => exact ⟨.int i :: ps, by simp [D.pyL, D.py, h1], by simp [PyData.canLayAll0, PyData.canLay0, h2], by simp [PyData.depthAll, PyData.depth, h3]⟩
    | _ => cases h.1
theorem ni_nil {xs : List D} (h : xs.all ni = true) : eqD (.lst xs) (.lst []) = some xs.isEmpty := by
  obtain ⟨ps, h1, h2, h3⟩ := ni_py h
  exact eq_nil h1 (by simp [SeqAt.shaped, PyData.canLay0, PyData.depth, h2, h3])
def takersB (m n : Nat) : D → Bool
  | .lst xs => xs.length == n && xs.all fun d => below d m
  | _ => false
/-- a list of None and ints, or no list at all -/
def niD : D → Bool
  | .lst xs => xs.all ni
  | .non => true | .int _ => true | .tup _ => true | .fn _ => true
  | _ => false
theorem filt_empty {xs : List D} {p : D → Bool} : (xs.filter fun d => !p d).isEmpty = xs.all p := by
  induction xs with
  | nil => rfl
  | cons x r ih =>
    simp only [List.filter_cons, List.all_cons]
    cases hp : p x with
    | true => simp [ih]
    | false => simp
theorem all_filter {xs : List D} {p q : D → Bool} (h : xs.all q = true) : (xs.filter p).all q = true := by
  rw [List.all_eq_true] at h ⊢
  exact fun x hx => h x (List.mem_filter.mp hx).1
section
variable {T : List Fn} {k i : Nat} {st : Sto}
theorem r_is_whole_of {c n : Nat} (hT : T[i]? = some ⟨2, 3, .cons (.ite (.or (.not (.isi (.var 1) [.list])) (.cmp .ne (.bi .len (.cons (.var 1) .nil)) (.bi .len (.cons (.ix (.var 0) (.con (.int 0))) .nil)))) [1, 1, 0] (.cons (.ret (.con (.bl false)) []) .nil) .nil)
      (.cons (.ret (.cmp .eq (.lc (.var 2) (.nm 2) (.seq (.var 1)) (.cons (.not (.call c (.cons (.var 2) (.cons (.bi .len (.cons (.var 0) .nil)) .nil)))) .nil)) (.lst .nil)) [2, 1, 2, 0]) .nil)⟩)
    {W : List (List Int)} (hW : Worths W n) {d : D} (hd : niD d = true) (hc : ∀ x, ni x = true → run T k c [x, .int W.length] st = .ok (.bl (below x W.length), 2) st) : run T (k + 1) i [Wd W, d] st = .ok (.bl (takersB W.length n d), 2) st := by
  obtain ⟨r0, hr0⟩ : ∃ r, W[0]? = some r := ⟨W[0]'(by have := hW.h1; omega), List.getElem?_eq_getElem _⟩
  have m0 := List.mem_of_getElem? hr0
  have e0 := Wd_get0 (st := st) hr0
  have no : (∀ xs, d ≠ .lst xs) → run T (k + 1) i [Wd W, d] st = .ok (.bl (takersB W.length n d), 2) st := fun hx => by
    refine run_of hT rfl (ex_ite_t (d := .bl false) (l := 2) (m := 2) (st' := st) (st'' := st) ?_ (ex_ret (x := (.bl false, 2)) (by simp [evalE, lv0, D.flat]))) |>.trans ?_
    · refine ev_or (u := true) (v := true) (l := 2) (ev_not (u := false) (l := 2) ?_) (fun h => by cases h)
      cases d with
      | lst xs => exact absurd rfl (hx xs)
      | _ => first | rfl | (cases hd; done)
    · cases d with
      | lst xs => exact absurd rfl (hx xs)
      | _ => rfl
  cases d with
  | lst xs =>
    have hx : xs.all ni = true := hd
    have len : evalE (run T k) (.bi .len (.cons (.ix (.var 0) (.con (.int 0))) .nil)) [some (Wd W), some (.lst xs), none] st = .ok (.int n, 2) st := by
      simp only [evalE, evalEs, List.getElem?_cons_zero, bind_ok, lv0, show (if (Wd W).flat = true then 2 else 0) = 0 from rfl, e0, of_some, biD, lenD, Ld, items, Option.map_some, List.length_map, hW.len r0 m0]
    by_cases hl : xs.length = n
    · refine run_of hT rfl ((ex_ite_f (l := 2) (st' := st) ?_).trans (ex_ret (x := (.bl (takersB W.length n (.lst xs)), 2)) ?_))
      · refine ev_or (u := false) (v := false) (l := 2) (ev_not (u := true) (l := 2) rfl) fun _ => ?_
        refine ev_cmp (x := (.int n, 2)) (y := (.int n, 2)) (st' := st) ?_ len (by simp [cmpD, eqD_int])
        simp [evalE, evalEs, startS, view, viewGo, visible, lv0, biD, lenD, items, hl]
      · have q := lc_seqT (call := run T k) (ρ := [some (Wd W), some (.lst xs), none]) (ρ1 := [some (Wd W), some (.lst xs), none]) (a := .var 1) (e := .var 2) (c := .not (.call c (.cons (.var 2) (.cons (.bi .len (.cons (.var 0) .nil)) .nil)))) (v := 2) (ds := xs) (l := 0) (st := st) (p := fun x => !(below x W.length)) (f := fun x => (x, 2)) rfl rfl (fun x hm => by
          have hn := List.all_eq_true.mp hx x hm
          refine ev_not (l := 2) ?_
          have := hc x hn
          simp only [evalE, evalEs, List.set, List.getElem?_cons_zero, List.getElem?_cons_succ, bind_ok, lv0, biD, lenD, Wd, items, Option.map_some, List.length_map, of_some, List.map_cons, List.map_nil] at this ⊢
          exact this) (fun x hm _ => by
          have hn := List.all_eq_true.mp hx x hm
          simp only [evalE, List.set, List.getElem?_cons_zero, List.getElem?_cons_succ, lv0]
          cases x <;> first | rfl | cases hn)
        refine ev_cmp (st' := st) q (y := (.lst [], 2)) (by simp [evalE, evalEs]) ?_
        have e1 : (xs.filter fun x => !(below x W.length)).map (fun d => ((d, 2) : DL).1) = xs.filter fun x => !(below x W.length) := by simp
        simp only [cmpD, e1]
        rw [ni_nil (all_filter hx), filt_empty]
        simp [takersB, hl]
    · refine run_of hT rfl (ex_ite_t (d := .bl false) (l := 2) (m := 2) (st' := st) (st'' := st) ?_ (ex_ret (x := (.bl false, 2)) (by simp [evalE, lv0, D.flat]))) |>.trans ?_
      · refine ev_or (u := false) (v := true) (l := 2) (ev_not (u := true) (l := 2) rfl) fun _ => ?_
        refine ev_cmp (x := (.int xs.length, 2)) (y := (.int n, 2)) (st' := st) ?_ len (by simp [cmpD, eqD_int]; omega)
        simp [evalE, evalEs, startS, view, viewGo, visible, lv0, biD, lenD, items]
      · simp [takersB, hl]
  | _ => first | exact no (fun xs z => by cases z) | (cases hd; done)
end
end IX
/-! IYd: runs of the law's own judges. Own work. -/
namespace IX
open PySem

section
variable {T : List Fn} {k i : Nat} {st : Sto}
theorem q_is_below (hT : T[i]? = some ⟨2, 2, .cons (.ret (.and (.isi (.var 1) [.int]) (.and (.not (.isi (.var 1) [.bool])) (.cmp2 .le .lt (.con (.int 0)) (.var 1) (.var 0)))) [1, 1, 1, 0]) .nil⟩) {d : D} (hd : ni d = true) (n : Int) :
    run T (k + 1) i [.int n, d] st = .ok (.bl (below d n), 2) st := by
  refine run_ret hT rfl [some (.int n), some d] rfl ?_
  cases d with
  | non => rfl
  | int j =>
    by_cases h1 : (0 : Int) ≤ j
    · simp [evalE, lv0, D.flat, isTyD, bool?, cmpD, below, h1]
    · simp [evalE, lv0, D.flat, isTyD, bool?, cmpD, below, h1]
  | _ => cases hd
theorem q_are_takers {c : Nat} (hT : T[i]? = some ⟨3, 4, .cons (.ret (.and (.isi (.var 2) [.list]) (.and (.cmp .eq (.bi .len (.cons (.var 2) .nil)) (.var 1)) (.cmp .eq (.lc (.var 3) (.nm 3) (.seq (.var 2)) (.cons (.not (.call c (.cons (.var 0) (.cons (.var 3) .nil)))) .nil)) (.lst .nil)))) [2, 2, 1, 3, 2, 0, 3]) .nil⟩)
    {m n : Nat} {d : D} (hd : niD d = true) (hc : ∀ x, ni x = true → run T k c [.int m, x] st = .ok (.bl (below x m), 2) st) : run T (k + 1) i [.int m, .int n, d] st = .ok (.bl (takersB m n d), 2) st := by
  refine run_ret hT rfl [some (.int m), some (.int n), some d, none] rfl ?_
  have no : (∀ xs, d ≠ .lst xs) → takersB m n d = false := fun hx => by
    cases d with
    | lst xs => exact absurd rfl (hx xs)
    | _ => rfl
  cases d with
  | lst xs =>
    have hx : xs.all ni = true := hd
    have q := lc_seqT (call := run T k) (ρ := [some (.int m), some (.int n), some (.lst xs), none]) (ρ1 := [some (.int m), some (.int n), some (.lst xs), none]) (a := .var 2) (e := .var 3) (c := .not (.call c (.cons (.var 0) (.cons (.var 3) .nil)))) (v := 3) (ds := xs) (l := 0) (st := st) (p := fun x => !(below x m)) (f := fun x => (x, 2)) rfl rfl (fun x hm => by
      have hn := List.all_eq_true.mp hx x hm
      refine ev_not (l := 2) ?_
      have := hc x hn
      simp only [evalE, evalEs, List.set, List.getElem?_cons_zero, List.getElem?_cons_succ, bind_ok, lv0, List.map_cons, List.map_nil] at this ⊢
      exact this) (fun x hm _ => by
      have hn := List.all_eq_true.mp hx x hm
      simp only [evalE, List.set, List.getElem?_cons_zero, List.getElem?_cons_succ, lv0]
      cases x <;> first | rfl | cases hn)
    have e1 : (xs.filter fun x => !(below x m)).map (fun d => ((d, 2) : DL).1) = xs.filter fun x => !(below x m) := by simp
    have r : takersB m n (.lst xs) = (true && (((xs.length : Int) == n) && (xs.all fun d => below d m))) := by
      simp only [takersB, Bool.true_and]
      congr 1
      rw [Bool.eq_iff_iff]
      simp only [beq_iff_eq]
      omega
    rw [r]
    refine ev_and (l := 2) rfl fun _ => ?_
    refine ev_and (l := 2) ?_ fun _ => ?_
    · refine ev_cmp (x := (.int xs.length, 2)) (y := (.int n, 2)) (st' := st) ?_ (by simp [evalE, lv0, D.flat]) (by simp [cmpD, eqD_int])
      simp [evalE, evalEs, lv0, biD, lenD, items]
    · refine ev_cmp (st' := st) q (y := (.lst [], 2)) (by simp [evalE, evalEs]) ?_
      simp only [cmpD, e1]
      rw [ni_nil (all_filter hx), filt_empty]
  | _ => first | (rw [no fun xs z => by cases z]; exact ev_and (u := false) (v := false) (l := 2) rfl fun h => by cases h) | (cases hd; done)
theorem q_lots (hT : T[i]? = some ⟨2, 5, .cons (.ret (.lc (.lc (.var 3) (.tp [.nm 3, .nm 4]) (.enu (.var 1)) (.cons (.cmp .eq (.var 4) (.var 2)) .nil)) (.nm 2) (.rng1 (.bi .len (.cons (.var 0) .nil))) .nil) [3, 1, 4, 2, 0]) .nil⟩) {W : List (List Int)} {ws : List Int} (hW : W.length ≤ 1000) :
    run T (k + 1) i [Wd W, Ld ws] st = .ok (Wd (lotsOf W.length ws), 2) st := by
  refine run_ret hT rfl [some (Wd W), some (Ld ws), none, none, none] rfl ?_
  rw [lc_rng (n := W.length) (ρ1 := [some (Wd W), some (Ld ws), none, none, none]) (f := fun j => (Ld (lotGo 0 ws (j : Int)), 2)) ?_ hW rfl ?_]
  · simp [Wd, lotsOf, Function.comp_def]
  · simp [evalE, evalEs, biD, lenD, lv0, Wd, items]
  · intro j hj
    rw [evalE]
    simp only [evalSr, List.set, evalE, List.getElem?_cons_zero, List.getElem?_cons_succ, bind_ok, lv0, Ld]
    have q : lcGo (fun ρ st => noEx (evalTs (run T k) (.cons (.cmp .eq (.var 4) (.var 2)) .nil) ρ st)) (fun ρ st => noEx (evalE (run T k) (.var 3) ρ st)) (.tp [.nm 3, .nm 4]) [some (Wd W), some (.lst (ws.map .int)), some (.int j), none, none] (enuD 0 (ws.map .int)) st = .ok ((lotGo 0 ws j).map fun i => (D.int i, 2)) st := by
      rw [lcGo_pure (p := pLot j) (h := hLot), filt_lot]
      intro d hd
      obtain ⟨i, x, rfl, hx, _⟩ := enuD_mem hd
      obtain ⟨w, _, rfl⟩ := List.mem_map.mp hx
      refine ⟨[some (Wd W), some (.lst (ws.map .int)), some (.int j), some (.int i), some (.int w)], rfl, ?_, fun _ => ?_⟩
      · simp [evalTs, evalE, lv0, D.flat, cmpD, eqD_int, noEx, bool?, pLot]
      · simp [evalE, lv0, D.flat, noEx, hLot]
    rw [show wipeE [some (Wd W), some (D.lst (ws.map .int)), some (.int (j : Int)), none, none] (Tg.tp [.nm 3, .nm 4]).slots = [some (Wd W), some (.lst (ws.map .int)), some (.int j), none, none] from rfl]
    simp only [evalE, lv0] at q ⊢
    rw [q]
    simp [Function.comp_def]
end
end IX
/-! IYe: runs over all wholes. Own work. -/
namespace IX
open PySem

section
variable {body : SEnv → Sto → R (Fl × SEnv)} {t : Tg} {st : Sto}
/-- a loop that keeps a shape: J at what is left -/
theorem forGo_inv {α : Type} {J : List D → α → SEnv} {step : D → α → α} : ∀ {ds : List D} {a : α}, (∀ d r a, d ∈ ds → ∃ ρ1, t.bindS (lv0 d) (J (d :: r) a) = some ρ1 ∧ body ρ1 st = .ok (.nx, J r (step d a)) st) → ∃ b, b = ds.foldl (fun a d => step d a) a ∧ forGo body t ds (J ds a) st = .ok (.nx, J [] b) st
  | [], a, _ => ⟨a, rfl, rfl⟩
  | d :: ds, a, h => by
    obtain ⟨ρ1, h1, h2⟩ := h d ds a List.mem_cons_self
    obtain ⟨b, h3, h4⟩ := forGo_inv (ds := ds) (a := step d a) fun e r a he => h e r a (List.mem_cons_of_mem _ he)
    refine ⟨b, h3, ?_⟩
    simp only [forGo, h1, h2, bind_ok]
    exact h4
end
section
variable {body : SEnv → Sto → R (Fl × SEnv)} {t : Tg} {st : Sto}
/-- a loop by an invariant: I, what is done so far and the slots; all, the whole list -/
theorem forGo_rule {all : List D} {I : List D → SEnv → Prop} : ∀ {ds dn : List D} {ρ : SEnv}, dn ++ ds = all → I dn ρ → (∀ d dn r ρ, dn ++ d :: r = all → I dn ρ → ∃ ρ1 ρ2, t.bindS (lv0 d) ρ = some ρ1 ∧ (body ρ1 st = .ok (.nx, ρ2) st ∧ I (dn ++ [d]) ρ2)) → ∃ ρ2, forGo body t ds ρ st = .ok (.nx, ρ2) st ∧ I all ρ2
  | [], dn, ρ, e, h, _ => ⟨ρ, rfl, by rw [← e, List.append_nil]; exact h⟩
  | d :: ds, dn, ρ, e, h, H => by
    obtain ⟨ρ1, ρ2, h1, h2, h3⟩ := H d dn ds ρ e h
    obtain ⟨ρ3, h4, h5⟩ := forGo_rule (ds := ds) (dn := dn ++ [d]) (by rw [List.append_assoc]; exact e) h3 H
    refine ⟨ρ3, ?_, h5⟩
    simp only [forGo, h1, h2, bind_ok]
    exact h4
/-- a slot that a loop binds -/
def loose (o : Option DL) : Prop := ∀ d, o ≠ some (d, 3)
theorem loose_none : loose none := fun _ h => by cases h
theorem loose_lv0 (d : D) : loose (some (lv0 d)) := fun e h => by
  unfold lv0 at h
  split at h <;> cases h
theorem setS_of {ρ : SEnv} {i : Nat} {o : Option DL} {x : DL} (h : ρ[i]? = some o) (ho : loose o) : setS ρ i x = some (ρ.set i (some x)) := by
  unfold setS
  rw [h]
  split
  · rename_i d e
    exact absurd (Option.some.inj e) (ho d)
  · rfl
  · rename_i e
    cases e
end
/-- the wholes, in the order of both programs -/
def wholesOf (m : Nat) : Nat → List (List Int)
  | 0 => [[]]
  | n + 1 => ((wholesOf m n).map fun w => (List.range m).map fun (h : Nat) => w ++ [(h : Int)]).flatten
theorem wholes_len {m : Nat} : ∀ {n : Nat} {w : List Int}, w ∈ wholesOf m n → w.length = n
  | 0, w, h => by
    rw [List.mem_singleton.mp h]
    rfl
  | n + 1, w, h => by
    obtain ⟨l, h1, h2⟩ := List.mem_flatten.mp h
    obtain ⟨v, h3, rfl⟩ := List.mem_map.mp h1
    obtain ⟨j, h4, rfl⟩ := List.mem_map.mp h2
    rw [List.length_append, wholes_len h3]
    rfl
theorem wholes_mem {m : Nat} : ∀ {n : Nat} {w : List Int}, w.length = n → (∀ v ∈ w, 0 ≤ v ∧ v < m) → w ∈ wholesOf m n
  | 0, w, h, _ => by
    rw [List.length_eq_zero_iff.mp h]
    exact List.mem_singleton.mpr rfl
  | n + 1, w, h, hv => by
    have hw : w ≠ [] := fun z => by rw [z] at h; cases h
    have e := List.dropLast_concat_getLast hw
    refine List.mem_flatten.mpr ⟨_, List.mem_map.mpr ⟨w.dropLast, wholes_mem (by rw [List.length_dropLast]; omega) fun v hm => hv v (List.dropLast_subset w hm), rfl⟩, ?_⟩
    have hl := hv (w.getLast hw) (List.getLast_mem hw)
    refine List.mem_map.mpr ⟨(w.getLast hw).toNat, List.mem_range.mpr (by omega), ?_⟩
    rw [show (((w.getLast hw).toNat : Nat) : Int) = w.getLast hw by omega]
    exact e
end IX
/-! IYf: the run of check_few. Own work. -/
namespace IX
open PySem

section
variable {T : List Fn} {k i : Nat} {st : Sto}
theorem r_check_few {n : Nat} (hT : T[i]? = some ⟨1, 3, .cons (.asg 1 (.con (.int 1)) []) (.cons (.for_ (.nm 2) (.seq (.ix (.var 0) (.con (.int 0)))) [0] (.cons (.asg 1 (.bin .mul (.var 1) (.bi .len (.cons (.var 0) .nil))) [1, 0]) .nil)) (.cons (.ite (.cmp .gt (.var 1) (.glo "MOST_WHOLES" (.int 5000))) [1] (.cons (.rais (.con .non)) .nil) .nil) .nil))⟩)
    {W : List (List Int)} (hW : Worths W n) (few : W.length ^ n ≤ 5000) : run T (k + 1) i [Wd W] st = .ok (.non, 2) st := by
  obtain ⟨r0, hr0⟩ : ∃ r, W[0]? = some r := ⟨W[0]'(by have := hW.h1; omega), List.getElem?_eq_getElem _⟩
  have l0 := hW.len r0 (List.mem_of_getElem? hr0)
  have e0 := Wd_get0 (st := st) hr0
  obtain ⟨ρ2, h1, o, hρ, ho⟩ := forGo_rule (body := fun ρ st => execSs (run T k) (.cons (.asg 1 (.bin .mul (.var 1) (.bi .len (.cons (.var 0) .nil))) [1, 0]) .nil) ρ st) (t := .nm 2) (st := st) (all := r0.map .int) (ds := r0.map .int) (dn := []) (ρ := [some (Wd W, 0), some (.int 1, 2), none])
    (I := fun dn ρ => ∃ o, ρ = [some (Wd W, 0), some (.int ((W.length ^ dn.length : Nat) : Int), 2), o] ∧ loose o) rfl ⟨none, rfl, loose_none⟩ (by
      rintro d dn r ρ hd ⟨o, rfl, ho⟩
      have hl : dn.length < n := by
        have := congrArg List.length hd
        rw [List.length_append, List.length_cons, List.length_map, l0] at this
        omega
      have hb : W.length ^ dn.length ≤ 5000 := Nat.le_trans (Nat.pow_le_pow_right hW.h1 (Nat.le_of_lt hl)) few
      have h6 := hW.h2
      have ok : mulOk ((W.length ^ dn.length : Nat) : Int) (W.length : Int) = true := by
        have g1 : Nat.log2 (W.length ^ dn.length) ≤ 5000 := Nat.le_trans (Nat.log2_le_self _) hb
        have g2 : Nat.log2 W.length ≤ 6 := Nat.le_trans (Nat.log2_le_self _) h6
        simp only [mulOk, Int.natAbs_natCast, decide_eq_true_eq]
        omega
      refine ⟨_, [some (Wd W, 0), some (.int ((W.length ^ (dn ++ [d]).length : Nat) : Int), 2), some (lv0 d)], setS_of rfl ho, ?_, _, rfl, loose_lv0 d⟩
      refine (ex_asg (x := (.int ((W.length ^ dn.length : Nat) * (W.length : Int)), 2)) (st' := st) ?_ ?_).trans ex_nil
      · simp [evalE, evalEs, view, viewGo, visible, lv0, biD, lenD, items, Wd, D.flat, binD, mulD]
        rw [Int.natCast_pow] at ok
        rw [if_pos ok]
        rfl
      · rw [List.length_append, List.length_singleton, Nat.pow_succ]
        simp [setS])
  subst hρ
  have len : (r0.map D.int).length = n := by rw [List.length_map, l0]
  refine run_nx hT rfl (ρ2 := [some (Wd W, 0), some (.int ((W.length ^ (r0.map D.int).length : Nat) : Int), 2), o]) ?_
  refine (ex_asg (x := (.int 1, 2)) (st' := st) (ρ' := [some (Wd W, 0), some (.int 1, 2), none]) rfl rfl).trans ?_
  refine (ex_for (ds := r0.map .int) (st' := st) (st'' := st) (ρ2 := [some (Wd W, 0), some (.int ((W.length ^ (r0.map D.int).length : Nat) : Int), 2), o]) ?_ h1).trans ?_
  · have hv : view [0] ([some (Wd W, 0), some (D.int 1, 2), none] : SEnv) = [some (Wd W), some (D.int 1), none] := rfl
    rw [hv]
    simp only [evalSr, evalE, List.getElem?_cons_zero]
    simp only [bind_ok, lv0, show (if (Wd W).flat = true then 2 else 0) = 0 from rfl, e0, of_some, Ld]
  · refine (ex_ite_f (l := 2) (st' := st) ?_).trans ex_nil
    have nb : ¬ (5000 : Int) < ((W.length ^ (r0.map D.int).length : Nat) : Int) := by
      rw [len]
      omega
    refine ev_cmp (x := (.int ((W.length ^ (r0.map D.int).length : Nat) : Int), 2)) (y := (.int 5000, 2)) (st' := st) rfl rfl ?_
    simp only [cmpD, nb, decide_false]
end
end IX
/-! JA: what an expression reads: its slots alone. Own work. -/
namespace IX
open PySem

theorem bind_inv {α β : Type} {r : R α} {f : α → Sto → R β} {x : β} {s : Sto} (h : r.bind f = .ok x s) : ∃ a s1, r = .ok a s1 ∧ f a s1 = .ok x s := by
  cases r with
  | ok a s1 => exact ⟨a, s1, rfl, h⟩
  | ex c x s => cases h
  | no => cases h
theorem noEx_inv {α : Type} {r : R α} {x : α} {s : Sto} (h : noEx r = .ok x s) : r = .ok x s := by
  cases r with
  | ok a s1 => exact h
  | ex c x s => cases h
  | no => cases h
structure Le (vs : List Nat) (η η' : Env) : Prop where
  len : η.length = η'.length
  get : ∀ i ∈ vs, ∀ d, η[i]? = some (some d) → η'[i]? = some (some d)
section
variable {vs : List Nat} {η η' : Env}
theorem Le.set (h : Le vs η η') (i : Nat) (o : Option D) : Le vs (η.set i o) (η'.set i o) := by
  refine ⟨by simp [h.len], fun j hj d hd => ?_⟩
  rw [List.getElem?_set] at hd ⊢
  rw [← h.len]
  split
  · rename_i e
    rw [if_pos e] at hd
    exact hd
  · rename_i e
    rw [if_neg e] at hd
    exact h.get j hj d hd
theorem Le.wipe (h : Le vs η η') : ∀ ws : List Nat, Le vs (wipeE η ws) (wipeE η' ws)
  | [] => h
  | w :: ws => (Le.wipe h ws).set w none
mutual
theorem Le.bind : ∀ (t : Tg) {d : D} {η η' ρ : Env}, Le vs η η' → t.bind d η = some ρ → ∃ ρ', t.bind d η' = some ρ' ∧ Le vs ρ ρ'
  | .nm i, d, η, η', ρ, h, e => by
    simp only [Tg.bind] at e ⊢
    cases e
    exact ⟨_, rfl, h.set i _⟩
  | .tp ts, d, η, η', ρ, h, e => by
    cases d with
    | tup xs =>
      simp only [Tg.bind] at e ⊢
      exact Le.bindL ts h e
    | _ => simp [Tg.bind] at e
theorem Le.bindL : ∀ (ts : List Tg) {xs : List D} {η η' ρ : Env}, Le vs η η' → Tg.bindL ts xs η = some ρ → ∃ ρ', Tg.bindL ts xs η' = some ρ' ∧ Le vs ρ ρ'
  | [], xs, η, η', ρ, h, e => by
    cases xs with
    | nil =>
      simp only [Tg.bindL] at e ⊢
      cases e
      exact ⟨_, rfl, h⟩
    | cons x r => simp [Tg.bindL] at e
  | t :: ts, xs, η, η', ρ, h, e => by
    cases xs with
    | nil => simp [Tg.bindL] at e
    | cons x r =>
      simp only [Tg.bindL] at e ⊢
      cases hb : t.bind x η with
      | none => simp [hb] at e
      | some ρ1 =>
        rw [hb] at e
        obtain ⟨ρ2, h1, h2⟩ := Le.bind t h hb
        rw [h1]
        exact Le.bindL ts h2 e
end
end
theorem lcGo_cong {vs : List Nat} {t : Env → Sto → R Bool} {f : Env → Sto → R DL} {g : Tg} (ht : ∀ (η η' : Env) (st st' : Sto) (x : Bool), Le vs η η' → t η st = .ok x st' → t η' st = .ok x st')
    (hf : ∀ (η η' : Env) (st st' : Sto) (x : DL), Le vs η η' → f η st = .ok x st' → f η' st = .ok x st') {η η' : Env} (hl : Le vs η η') : ∀ {ds : List D} {st st' : Sto} {xs : List DL}, lcGo t f g η ds st = .ok xs st' → lcGo t f g η' ds st = .ok xs st'
  | [], st, st', xs, h => h
  | d :: ds, st, st', xs, h => by
    simp only [lcGo] at h ⊢
    cases hb : g.bind d η with
    | none => simp [hb] at h
    | some ρ1 =>
      rw [hb] at h
      obtain ⟨ρ2, e2, l2⟩ := hl.bind g hb
      rw [e2]
      obtain ⟨b, s1, h1, h⟩ := bind_inv h
      simp only [ht _ _ _ _ _ l2 h1, bind_ok]
      cases b with
      | false =>
        simp only [Bool.false_eq_true, if_false] at h ⊢
        exact lcGo_cong ht hf hl h
      | true =>
        simp only [if_true] at h ⊢
        obtain ⟨y, s2, h2, h⟩ := bind_inv h
        simp only [hf _ _ _ _ _ l2 h2, bind_ok]
        obtain ⟨ys, s3, h3, h⟩ := bind_inv h
        simp only [lcGo_cong ht hf hl h3, bind_ok]
        exact h
theorem fold_cong {α : Type} {F F' : Option α → D → Option α} (hF : ∀ o o' y, (∀ p, o = some p → o' = some p) → ∀ p, F o y = some p → F' o' y = some p) : ∀ (ys : List D) (o o' : Option α) (r : α), (∀ p, o = some p → o' = some p) → ys.foldl F o = some r → ys.foldl F' o' = some r
  | [], o, o', r, ho, e => ho r e
  | y :: ys, o, o', r, ho, e => fold_cong hF ys _ _ r (hF o o' y ho) e
theorem minKey_cong {k k' : D → Sto → Option (List Int)} (h : ∀ d st x, k d st = some x → k' d st = some x) {st : Sto} : ∀ {xs : List D} {d : D}, minKey k st xs = some d → minKey k' st xs = some d
  | [], d, e => by cases e
  | x :: xs, d, e => by
    simp only [minKey] at e ⊢
    obtain ⟨r, hr, hd⟩ := Option.map_eq_some_iff.mp e
    refine Option.map_eq_some_iff.mpr ⟨r, fold_cong (fun o o' y ho p hp => ?_) xs _ _ r (fun p hp => ?_) hr, hd⟩
    · cases o with
      | none => simp at hp
      | some q =>
        rw [ho q rfl]
        simp only at hp ⊢
        cases hk : k y st with
        | none => simp [hk] at hp
        | some ky =>
          rw [h _ _ _ hk]
          simp only [hk] at hp
          exact hp
    · cases hk : k x st with
      | none => simp [hk] at hp
      | some kx =>
        rw [hk] at hp
        rw [h _ _ _ hk]
        exact hp
theorem keysOf_cong {k k' : D → Option (List Int)} (h : ∀ d x, k d = some x → k' d = some x) : ∀ {xs : List D} {r : List (List Int × D)}, keysOf k xs = some r → keysOf k' xs = some r
  | [], r, e => e
  | x :: xs, r, e => by
    simp only [keysOf] at e ⊢
    cases h1 : k x with
    | none => simp [h1] at e
    | some a =>
      cases h2 : keysOf k xs with
      | none => simp [h1, h2] at e
      | some b =>
        rw [h _ _ h1, keysOf_cong h h2]
        simp only [h1, h2] at e
        exact e
theorem of_inv {α : Type} {o : Option α} {s s' : Sto} {x : α} (h : R.of o s = .ok x s') : o = some x ∧ s = s' := by
  cases o with
  | none => cases h
  | some a =>
    cases h
    exact ⟨rfl, rfl⟩
theorem mink_aux {k k' : D → Sto → Option (List Int)} {st st' : Sto} {xs : List D} {g : D → DL} {x : DL} (h : ∀ d st x, k d st = some x → k' d st = some x) (e : R.of ((minKey k st xs).map g) st = .ok x st') : R.of ((minKey k' st xs).map g) st = .ok x st' := by
  obtain ⟨e1, rfl⟩ := of_inv e
  obtain ⟨d, hd, hx⟩ := Option.map_eq_some_iff.mp e1
  rw [minKey_cong h hd, Option.map_some, hx, of_some]
theorem srtk_aux {k k' : D → Option (List Int)} {st st' : Sto} {xs : List D} {g : List D → DL} {x : DL} (h : ∀ d x, k d = some x → k' d = some x) (e : R.of ((srtKey k xs).map g) st = .ok x st') : R.of ((srtKey k' xs).map g) st = .ok x st' := by
  obtain ⟨e1, rfl⟩ := of_inv e
  obtain ⟨d, hd, hx⟩ := Option.map_eq_some_iff.mp e1
  obtain ⟨kx, h1, h2⟩ := Option.map_eq_some_iff.mp hd
  have : srtKey k' xs = some d := Option.map_eq_some_iff.mpr ⟨kx, keysOf_cong h h1, h2⟩
  rw [this, Option.map_some, hx, of_some]
section
variable {call : Nat → List D → Sto → R DL} {vs : List Nat}
theorem memL {a b c : List Nat} (h : ∀ i ∈ a ++ b, i ∈ c) : (∀ i ∈ a, i ∈ c) ∧ ∀ i ∈ b, i ∈ c := ⟨fun i hi => h i (List.mem_append_left _ hi), fun i hi => h i (List.mem_append_right _ hi)⟩
mutual
theorem congE : ∀ (e : E) {η η' : Env} {st st' : Sto} {x : DL}, (∀ i ∈ e.vs, i ∈ vs) → Le vs η η' → evalE call e η st = .ok x st' → evalE call e η' st = .ok x st'
  | .var i, η, η', st, st', x, hv, hl, h => by
    simp only [evalE] at h ⊢
    split at h
    · rename_i d e
      rw [hl.get i (hv i (by simp [E.vs])) d e]
      exact h
    · cases h
  | .con d, η, η', st, st', x, hv, hl, h => by
    simp only [evalE] at h ⊢
    exact h
  | .glo _ d, η, η', st, st', x, hv, hl, h => by
    simp only [evalE] at h ⊢
    exact h
  | .emp, η, η', st, st', x, hv, hl, h => by
    simp only [evalE] at h ⊢
    exact h
  | .lst es, η, η', st, st', x, hv, hl, h => by
    simp only [evalE] at h ⊢
    obtain ⟨y, s1, h1, h⟩ := bind_inv h
    simp only [congEs es hv hl h1, bind_ok]
    exact h
  | .tup es, η, η', st, st', x, hv, hl, h => by
    simp only [evalE] at h ⊢
    obtain ⟨y, s1, h1, h⟩ := bind_inv h
    simp only [congEs es hv hl h1, bind_ok]
    exact h
  | .neg a, η, η', st, st', x, hv, hl, h => by
    simp only [evalE] at h ⊢
    obtain ⟨y, s1, h1, h⟩ := bind_inv h
    simp only [congE a hv hl h1, bind_ok]
    exact h
  | .not a, η, η', st, st', x, hv, hl, h => by
    simp only [evalE] at h ⊢
    obtain ⟨y, s1, h1, h⟩ := bind_inv h
    simp only [congE a hv hl h1, bind_ok]
    exact h
  | .bin o a b, η, η', st, st', x, hv, hl, h => by
    simp only [evalE] at h ⊢
    obtain ⟨y, s1, h1, h⟩ := bind_inv h
    obtain ⟨z, s2, h2, h⟩ := bind_inv h
    simp only [congE a (memL hv).1 hl h1, congE b (memL hv).2 hl h2, bind_ok]
    exact h
  | .cmp o a b, η, η', st, st', x, hv, hl, h => by
    simp only [evalE] at h ⊢
    obtain ⟨y, s1, h1, h⟩ := bind_inv h
    obtain ⟨z, s2, h2, h⟩ := bind_inv h
    simp only [congE a (memL hv).1 hl h1, congE b (memL hv).2 hl h2, bind_ok]
    exact h
  | .cmp2 o p a b c, η, η', st, st', x, hv, hl, h => by
    simp only [evalE] at h ⊢
    obtain ⟨y, s1, h1, h⟩ := bind_inv h
    obtain ⟨z, s2, h2, h⟩ := bind_inv h
    simp only [congE a (memL (memL hv).1).1 hl h1, congE b (memL (memL hv).1).2 hl h2, bind_ok]
    cases hc : cmpD o y.1 z.1 with
    | none => simp [hc] at h
    | some q =>
      cases q with
      | false =>
        simp only [hc] at h ⊢
        exact h
      | true =>
        simp only [hc] at h ⊢
        obtain ⟨w, s3, h3, h⟩ := bind_inv h
        simp only [congE c (memL hv).2 hl h3, bind_ok]
        exact h
  | .and a b, η, η', st, st', x, hv, hl, h => by
    simp only [evalE] at h ⊢
    obtain ⟨y, s1, h1, h⟩ := bind_inv h
    simp only [congE a (memL hv).1 hl h1, bind_ok]
    cases hc : bool? y with
    | none => simp [hc] at h
    | some q =>
      cases q with
      | false =>
        simp only [hc] at h ⊢
        exact h
      | true =>
        simp only [hc] at h ⊢
        exact congE b (memL hv).2 hl h
  | .or a b, η, η', st, st', x, hv, hl, h => by
    simp only [evalE] at h ⊢
    obtain ⟨y, s1, h1, h⟩ := bind_inv h
    simp only [congE a (memL hv).1 hl h1, bind_ok]
    cases hc : bool? y with
    | none => simp [hc] at h
    | some q =>
      cases q with
      | true =>
        simp only [hc] at h ⊢
        exact h
      | false =>
        simp only [hc] at h ⊢
        exact congE b (memL hv).2 hl h
  | .ife c a b, η, η', st, st', x, hv, hl, h => by
    simp only [evalE] at h ⊢
    obtain ⟨y, s1, h1, h⟩ := bind_inv h
    simp only [congE c (memL (memL hv).1).1 hl h1, bind_ok]
    cases hc : bool? y with
    | none => simp [hc] at h
    | some q =>
      cases q with
      | true =>
        simp only [hc] at h ⊢
        exact congE a (memL (memL hv).1).2 hl h
      | false =>
        simp only [hc] at h ⊢
        exact congE b (memL hv).2 hl h
  | .ix a b, η, η', st, st', x, hv, hl, h => by
    simp only [evalE] at h ⊢
    obtain ⟨y, s1, h1, h⟩ := bind_inv h
    obtain ⟨z, s2, h2, h⟩ := bind_inv h
    simp only [congE a (memL hv).1 hl h1, congE b (memL hv).2 hl h2, bind_ok]
    exact h
  | .sl a lo hi, η, η', st, st', x, hv, hl, h => by
    simp only [evalE] at h ⊢
    obtain ⟨y, s1, h1, h⟩ := bind_inv h
    obtain ⟨z, s2, h2, h⟩ := bind_inv h
    obtain ⟨w, s3, h3, h⟩ := bind_inv h
    simp only [congE a (memL (memL hv).1).1 hl h1, congEs lo (memL (memL hv).1).2 hl h2, congEs hi (memL hv).2 hl h3, bind_ok]
    exact h
  | .rev a, η, η', st, st', x, hv, hl, h => by
    simp only [evalE] at h ⊢
    obtain ⟨y, s1, h1, h⟩ := bind_inv h
    simp only [congE a hv hl h1, bind_ok]
    exact h
  | .lc v t s c, η, η', st, st', x, hv, hl, h => by
    simp only [evalE] at h ⊢
    obtain ⟨y, s1, h1, h⟩ := bind_inv h
    obtain ⟨z, s2, h2, h⟩ := bind_inv h
    simp only [congSr s (memL (memL hv).1).2 hl h1, bind_ok]
    rw [lcGo_cong (vs := vs) (fun _ _ _ _ _ l e => by rw [congTs c (memL hv).2 l (noEx_inv e)]; rfl) (fun _ _ _ _ _ l e => by rw [congE v (memL (memL hv).1).1 l (noEx_inv e)]; rfl) (hl.wipe t.slots) h2]
    exact h
  | .lsr s, η, η', st, st', x, hv, hl, h => by
    simp only [evalE] at h ⊢
    obtain ⟨y, s1, h1, h⟩ := bind_inv h
    simp only [congSr s hv hl h1, bind_ok]
    exact h
  | .call f as, η, η', st, st', x, hv, hl, h => by
    simp only [evalE] at h ⊢
    obtain ⟨y, s1, h1, h⟩ := bind_inv h
    simp only [congEs as hv hl h1, bind_ok]
    exact h
  | .callk f pm as ks, η, η', st, st', x, hv, hl, h => by
    simp only [evalE] at h ⊢
    obtain ⟨y, s1, h1, h⟩ := bind_inv h
    obtain ⟨z, s2, h2, h⟩ := bind_inv h
    simp only [congEs as (memL hv).1 hl h1, congEs ks (memL hv).2 hl h2, bind_ok]
    exact h
  | .bi b as, η, η', st, st', x, hv, hl, h => by
    simp only [evalE] at h ⊢
    obtain ⟨y, s1, h1, h⟩ := bind_inv h
    simp only [congEs as hv hl h1, bind_ok]
    exact h
  | .isi a ts, η, η', st, st', x, hv, hl, h => by
    simp only [evalE] at h ⊢
    obtain ⟨y, s1, h1, h⟩ := bind_inv h
    simp only [congE a hv hl h1, bind_ok]
    exact h
  | .mink a i v, η, η', st, st', x, hv, hl, h => by
    simp only [evalE] at h ⊢
    obtain ⟨y, s1, h1, h⟩ := bind_inv h
    simp only [congE a (memL hv).1 hl h1, bind_ok]
    split at h
    · rename_i xs l
      refine mink_aux (fun d st x hk => ?_) h
      try simp only at hk ⊢
      cases hr : evalE call v (η.set i (some d)) st with
      | no => simp [hr] at hk
      | ex c z s => simp [hr] at hk
      | ok r s =>
        rw [congE v (memL hv).2 (hl.set i _) hr]
        simp only [hr] at hk
        exact hk
    · cases h
  | .srtk s i v, η, η', st, st', x, hv, hl, h => by
    simp only [evalE] at h ⊢
    obtain ⟨y, s1, h1, h⟩ := bind_inv h
    simp only [congSr s (memL hv).1 hl h1, bind_ok]
    refine srtk_aux (fun d x hk => ?_) h
    try simp only at hk ⊢
    cases hr : evalE call v (η.set i (some d)) s1 with
    | no => simp [hr] at hk
    | ex c z s => simp [hr] at hk
    | ok r s =>
      rw [congE v (memL hv).2 (hl.set i _) hr]
      simp only [hr] at hk
      exact hk
theorem congEs : ∀ (es : Es) {η η' : Env} {st st' : Sto} {x : List DL}, (∀ i ∈ es.vs, i ∈ vs) → Le vs η η' → evalEs call es η st = .ok x st' → evalEs call es η' st = .ok x st'
  | .nil, η, η', st, st', x, hv, hl, h => by
    simp only [evalEs] at h ⊢
    exact h
  | .cons e es, η, η', st, st', x, hv, hl, h => by
    simp only [evalEs] at h ⊢
    obtain ⟨y, s1, h1, h⟩ := bind_inv h
    obtain ⟨z, s2, h2, h⟩ := bind_inv h
    simp only [congE e (memL hv).1 hl h1, congEs es (memL hv).2 hl h2, bind_ok]
    exact h
theorem congTs : ∀ (es : Es) {η η' : Env} {st st' : Sto} {x : Bool}, (∀ i ∈ es.vs, i ∈ vs) → Le vs η η' → evalTs call es η st = .ok x st' → evalTs call es η' st = .ok x st'
  | .nil, η, η', st, st', x, hv, hl, h => by
    simp only [evalTs] at h ⊢
    exact h
  | .cons e .nil, η, η', st, st', x, hv, hl, h => by
    simp only [evalTs] at h ⊢
    obtain ⟨y, s1, h1, h⟩ := bind_inv h
    simp only [congE e (memL hv).1 hl h1, bind_ok]
    exact h
  | .cons _ (.cons _ _), η, η', st, st', x, hv, hl, h => by
    simp only [evalTs] at h
    cases h
theorem congSr : ∀ (s : Sr) {η η' : Env} {st st' : Sto} {x : List D}, (∀ i ∈ s.vs, i ∈ vs) → Le vs η η' → evalSr call s η st = .ok x st' → evalSr call s η' st = .ok x st'
  | .seq e, η, η', st, st', x, hv, hl, h => by
    simp only [evalSr] at h ⊢
    obtain ⟨y, s1, h1, h⟩ := bind_inv h
    simp only [congE e hv hl h1, bind_ok]
    exact h
  | .rng1 e, η, η', st, st', x, hv, hl, h => by
    simp only [evalSr] at h ⊢
    obtain ⟨y, s1, h1, h⟩ := bind_inv h
    simp only [congE e hv hl h1, bind_ok]
    exact h
  | .rng2 a b, η, η', st, st', x, hv, hl, h => by
    simp only [evalSr] at h ⊢
    obtain ⟨y, s1, h1, h⟩ := bind_inv h
    obtain ⟨z, s2, h2, h⟩ := bind_inv h
    simp only [congE a (memL hv).1 hl h1, congE b (memL hv).2 hl h2, bind_ok]
    exact h
  | .enu e, η, η', st, st', x, hv, hl, h => by
    simp only [evalSr] at h ⊢
    obtain ⟨y, s1, h1, h⟩ := bind_inv h
    simp only [congE e hv hl h1, bind_ok]
    exact h
  | .zip a b, η, η', st, st', x, hv, hl, h => by
    simp only [evalSr] at h ⊢
    obtain ⟨y, s1, h1, h⟩ := bind_inv h
    obtain ⟨z, s2, h2, h⟩ := bind_inv h
    simp only [congE a (memL hv).1 hl h1, congE b (memL hv).2 hl h2, bind_ok]
    exact h
end
end
end IX
/-! JB: what an expression's value is, in plain values. Own work. -/
namespace IX
open PySem

def Ev (call : Nat → List D → Sto → R DL) (e : E) (η : Env) (st : Sto) (d : D) (m : Nat) (st' : Sto) : Prop := ∃ l, evalE call e η st = .ok (d, l) st' ∧ m ≤ l ∧ l ≤ 2
def Cl (call : Nat → List D → Sto → R DL) (f : Nat) (ds : List D) (st : Sto) (d : D) (m : Nat) (st' : Sto) : Prop := ∃ l, call f ds st = .ok (d, l) st' ∧ m ≤ l ∧ l ≤ 2
def EvL (call : Nat → List D → Sto → R DL) (es : Es) (η : Env) (st : Sto) (ds : List D) (m : Nat) (st' : Sto) : Prop := ∃ xs : List DL, evalEs call es η st = .ok xs st' ∧ xs.map (·.1) = ds ∧ ∀ x ∈ xs, m ≤ x.2 ∧ x.2 ≤ 2
def EvSr (call : Nat → List D → Sto → R DL) (s : Sr) (η : Env) (st : Sto) (ds : List D) (st' : Sto) : Prop := evalSr call s η st = .ok ds st'
def EvT (call : Nat → List D → Sto → R DL) (es : Es) (η : Env) (st : Sto) (b : Bool) (st' : Sto) : Prop := evalTs call es η st = .ok b st'
def EvO (call : Nat → List D → Sto → R DL) (es : Es) (η : Env) (st : Sto) (o : Option Int) (st' : Sto) : Prop := ∃ xs, evalEs call es η st = .ok xs st' ∧ oneI xs = some o

/-! ### encodings -/
def Lx {α : Type} (f : α → D) (xs : List α) : D := .lst (xs.map f)
def Tx2 {α β : Type} (f : α → D) (g : β → D) (p : α × β) : D := .tup [f p.1, g p.2]
def Tx3 {α β γ : Type} (f : α → D) (g : β → D) (h : γ → D) (p : α × β × γ) : D := .tup [f p.1, g p.2.1, h p.2.2]
def Ox {α : Type} (f : α → D) : Option α → D
  | none => .non
  | some x => f x
def Nx (_ : Unit) : D := .non
def rngI (lo hi : Int) : List Int := (List.range (hi - lo).toNat).map fun (i : Nat) => lo + (i : Int)
def enuI {α : Type} : Int → List α → List (Int × α)
  | _, [] => []
  | i, x :: xs => (i, x) :: enuI (i + 1) xs
def getL {α : Type} [Inhabited α] (xs : List α) (i : Int) : α := xs.getD i.toNat default
def inb {α : Type} (xs : List α) (i : Int) : Prop := 0 ≤ i ∧ i < xs.length
def mxI (xs : List Int) : Int := (maxL xs).getD 0
def mnI (xs : List Int) : Int := (minL xs).getD 0

section
variable {call : Nat → List D → Sto → R DL} {η : Env} {st st1 st2 st3 : Sto} {e a b c : E} {d d1 d2 : D} {m m1 m2 m3 : Nat} {i j : Nat} {es : Es}

theorem Ev.weak (h : Ev call e η st d m st1) (hm : m1 ≤ m) : Ev call e η st d m1 st1 := by
  obtain ⟨l, h1, h2, h3⟩ := h
  exact ⟨l, h1, Nat.le_trans hm h2, h3⟩
theorem Ev.to (h : Ev call e η st d m st1) (hd : d = d1) : Ev call e η st d1 m st1 := hd ▸ h
theorem lv0_le (d : D) : (lv0 d).2 ≤ 2 := by
  unfold lv0
  split <;> simp
theorem v_var (h : η[i]? = some (some d)) : Ev call (.var i) η st d 0 st := ⟨(lv0 d).2, by simp only [evalE, h, lv0], Nat.zero_le _, lv0_le d⟩
theorem v_varF (h : η[i]? = some (some d)) (hf : d.flat = true) : Ev call (.var i) η st d 2 st := ⟨2, by simp only [evalE, h, lv0, hf, if_true], Nat.le_refl _, Nat.le_refl _⟩
theorem v_con (hf : d.flat = true) : Ev call (.con d) η st d 2 st := ⟨2, by simp only [evalE, lv0, hf, if_true], Nat.le_refl _, Nat.le_refl _⟩
theorem v_glo {x : Str} (hf : d.flat = true) : Ev call (.glo x d) η st d 2 st := ⟨2, by simp only [evalE, lv0, hf, if_true], Nat.le_refl _, Nat.le_refl _⟩
theorem v_emp : Ev call .emp η st (.fn 0) 2 st := ⟨2, by simp only [evalE], Nat.le_refl _, Nat.le_refl _⟩
theorem vl_n : EvL call .nil η st [] 2 st := ⟨[], by simp only [evalEs], rfl, fun x h => by cases h⟩
theorem vl_c (h : Ev call e η st d m st1) {ds : List D} (hs : EvL call es η st1 ds m1 st2) : EvL call (.cons e es) η st (d :: ds) 0 st2 := by
  obtain ⟨l, h1, h2, h3⟩ := h
  obtain ⟨xs, g1, g2, g3⟩ := hs
  refine ⟨(d, l) :: xs, by simp only [evalEs, h1, g1, bind_ok], by simp [g2], fun x hx => ?_⟩
  rcases List.mem_cons.mp hx with rfl | hx
  · exact ⟨Nat.zero_le _, h3⟩
  · exact ⟨Nat.zero_le _, (g3 x hx).2⟩
theorem vl_c2 (h : Ev call e η st d 2 st1) {ds : List D} (hs : EvL call es η st1 ds 2 st2) : EvL call (.cons e es) η st (d :: ds) 2 st2 := by
  obtain ⟨l, h1, h2, h3⟩ := h
  obtain ⟨xs, g1, g2, g3⟩ := hs
  refine ⟨(d, l) :: xs, by simp only [evalEs, h1, g1, bind_ok], by simp [g2], fun x hx => ?_⟩
  rcases List.mem_cons.mp hx with rfl | hx
  · exact ⟨h2, h3⟩
  · exact g3 x hx
theorem all2 {xs : List DL} (h : ∀ x ∈ xs, 2 ≤ x.2 ∧ x.2 ≤ 2) : xs.all (·.2 == 2) = true := by
  rw [List.all_eq_true]
  intro x hx
  have := h x hx
  simp only [beq_iff_eq]
  omega
theorem v_lst {ds : List D} (h : EvL call es η st ds m st1) : Ev call (.lst es) η st (.lst ds) 1 st1 := by
  obtain ⟨xs, g1, g2, g3⟩ := h
  refine ⟨_, by simp only [evalE, g1, bind_ok, g2]; rfl, ?_, ?_⟩ <;> split <;> simp
theorem v_lst2 {ds : List D} (h : EvL call es η st ds 2 st1) : Ev call (.lst es) η st (.lst ds) 2 st1 := by
  obtain ⟨xs, g1, g2, g3⟩ := h
  exact ⟨2, by simp only [evalE, g1, bind_ok, g2, all2 g3, if_true], Nat.le_refl _, Nat.le_refl _⟩
theorem v_tup {ds : List D} (h : EvL call es η st ds m st1) : Ev call (.tup es) η st (.tup ds) 0 st1 := by
  obtain ⟨xs, g1, g2, g3⟩ := h
  refine ⟨_, by simp only [evalE, g1, bind_ok, g2, lvl]; rfl, Nat.zero_le _, ?_⟩
  split
  · simp
  · split <;> simp
theorem v_tup2 {ds : List D} (h : EvL call es η st ds 2 st1) : Ev call (.tup es) η st (.tup ds) 2 st1 := by
  obtain ⟨xs, g1, g2, g3⟩ := h
  refine ⟨2, ?_, Nat.le_refl _, Nat.le_refl _⟩
  simp only [evalE, g1, bind_ok, g2, all2 g3, if_true, lvl, ite_self]
theorem v_neg {x : Int} (h : Ev call a η st (.int x) m st1) : Ev call (.neg a) η st (.int (-x)) 2 st1 := by
  obtain ⟨l, h1, h2, h3⟩ := h
  exact ⟨2, by simp only [evalE, h1, bind_ok], Nat.le_refl _, Nat.le_refl _⟩
theorem evnot {u : Bool} (h : Ev call a η st (.bl u) m st1) : Ev call (.not a) η st (.bl (!u)) 2 st1 := by
  obtain ⟨l, h1, h2, h3⟩ := h
  exact ⟨2, by simp only [evalE, h1, bind_ok, bool?], Nat.le_refl _, Nat.le_refl _⟩
section
variable {x y : Int}
theorem v_add (h : Ev call a η st (.int x) m st1) (g : Ev call b η st1 (.int y) m1 st2) : Ev call (.bin .add a b) η st (.int (x + y)) 2 st2 := by
  obtain ⟨l, h1, h2, h3⟩ := h
  obtain ⟨l2, g1, g2, g3⟩ := g
  exact ⟨2, by simp only [evalE, h1, g1, bind_ok, binD, addD, of_some], Nat.le_refl _, Nat.le_refl _⟩
theorem v_sub (h : Ev call a η st (.int x) m st1) (g : Ev call b η st1 (.int y) m1 st2) : Ev call (.bin .sub a b) η st (.int (x - y)) 2 st2 := by
  obtain ⟨l, h1, h2, h3⟩ := h
  obtain ⟨l2, g1, g2, g3⟩ := g
  exact ⟨2, by simp only [evalE, h1, g1, bind_ok, binD, subD, of_some], Nat.le_refl _, Nat.le_refl _⟩
theorem v_mul (h : Ev call a η st (.int x) m st1) (g : Ev call b η st1 (.int y) m1 st2) (ok : mulOk x y = true) : Ev call (.bin .mul a b) η st (.int (x * y)) 2 st2 := by
  obtain ⟨l, h1, h2, h3⟩ := h
  obtain ⟨l2, g1, g2, g3⟩ := g
  exact ⟨2, by simp only [evalE, h1, g1, bind_ok, binD, mulD, ok, if_true, of_some], Nat.le_refl _, Nat.le_refl _⟩
theorem v_fdiv (h : Ev call a η st (.int x) m st1) (g : Ev call b η st1 (.int y) m1 st2) (ok : divOk y = true) : Ev call (.bin .fdiv a b) η st (.int (x.fdiv y)) 2 st2 := by
  obtain ⟨l, h1, h2, h3⟩ := h
  obtain ⟨l2, g1, g2, g3⟩ := g
  exact ⟨2, by simp only [evalE, h1, g1, bind_ok, binD, fdivD, ok, if_true, of_some], Nat.le_refl _, Nat.le_refl _⟩
theorem v_mod (h : Ev call a η st (.int x) m st1) (g : Ev call b η st1 (.int y) m1 st2) (ok : y ≠ 0) : Ev call (.bin .mod a b) η st (.int (x.fmod y)) 2 st2 := by
  obtain ⟨l, h1, h2, h3⟩ := h
  obtain ⟨l2, g1, g2, g3⟩ := g
  exact ⟨2, by simp only [evalE, h1, g1, bind_ok, binD, modD, ne_eq, ok, not_false_eq_true, if_true, of_some], Nat.le_refl _, Nat.le_refl _⟩
theorem v_pow (h : Ev call a η st (.int x) m st1) (g : Ev call b η st1 (.int y) m1 st2) (ok : 0 ≤ y ∧ (Builtin.Int.intBits x : Int) * y ≤ 2 ^ 27) : Ev call (.bin .pow a b) η st (.int (x ^ y.toNat)) 2 st2 := by
  obtain ⟨l, h1, h2, h3⟩ := h
  obtain ⟨l2, g1, g2, g3⟩ := g
  exact ⟨2, by simp only [evalE, h1, g1, bind_ok, binD, powD, if_pos ok, of_some], Nat.le_refl _, Nat.le_refl _⟩
theorem evcmp {o : Co} {v : Bool} (h : Ev call a η st d1 m st1) (g : Ev call b η st1 d2 m1 st2) (ok : cmpD o d1 d2 = some v) : Ev call (.cmp o a b) η st (.bl v) 2 st2 := by
  obtain ⟨l, h1, h2, h3⟩ := h
  obtain ⟨l2, g1, g2, g3⟩ := g
  exact ⟨2, by simp only [evalE, h1, g1, bind_ok, ok, Option.map_some, of_some], Nat.le_refl _, Nat.le_refl _⟩
theorem evcmp2 {o p : Co} {u v : Bool} {d3 : D} (h : Ev call a η st d1 m st1) (g : Ev call b η st1 d2 m1 st2) (k : Ev call c η st2 d3 m2 st2) (ok : cmpD o d1 d2 = some u) (ok2 : cmpD p d2 d3 = some v) : Ev call (.cmp2 o p a b c) η st (.bl (u && v)) 2 st2 := by
  obtain ⟨l, h1, h2, h3⟩ := h
  obtain ⟨l2, g1, g2, g3⟩ := g
  obtain ⟨l3, k1, k2, k3⟩ := k
  refine ⟨2, ?_, Nat.le_refl _, Nat.le_refl _⟩
  simp only [evalE, h1, g1, bind_ok, ok]
  cases u with
  | false => rfl
  | true => simp only [k1, bind_ok, ok2, Option.map_some, of_some, Bool.true_and]
theorem v_lt (h : Ev call a η st (.int x) m st1) (g : Ev call b η st1 (.int y) m1 st2) : Ev call (.cmp .lt a b) η st (.bl (decide (x < y))) 2 st2 := evcmp h g rfl
theorem v_le (h : Ev call a η st (.int x) m st1) (g : Ev call b η st1 (.int y) m1 st2) : Ev call (.cmp .le a b) η st (.bl (decide (x ≤ y))) 2 st2 := evcmp h g rfl
theorem v_gt (h : Ev call a η st (.int x) m st1) (g : Ev call b η st1 (.int y) m1 st2) : Ev call (.cmp .gt a b) η st (.bl (decide (y < x))) 2 st2 := evcmp h g rfl
theorem v_ge (h : Ev call a η st (.int x) m st1) (g : Ev call b η st1 (.int y) m1 st2) : Ev call (.cmp .ge a b) η st (.bl (decide (y ≤ x))) 2 st2 := evcmp h g rfl
end
def EqOf {α : Type} [BEq α] (f : α → D) : Prop := ∀ x y, eqD (f x) (f y) = some (x == y)
theorem eq_int : EqOf D.int := eqD_int
theorem v_eq {α : Type} [BEq α] {f : α → D} {x y : α} (hf : EqOf f) (h : Ev call a η st (f x) m st1) (g : Ev call b η st1 (f y) m1 st2) : Ev call (.cmp .eq a b) η st (.bl (x == y)) 2 st2 := evcmp h g (hf x y)
theorem v_ne {α : Type} [BEq α] {f : α → D} {x y : α} (hf : EqOf f) (h : Ev call a η st (f x) m st1) (g : Ev call b η st1 (f y) m1 st2) : Ev call (.cmp .ne a b) η st (.bl (!(x == y))) 2 st2 := evcmp h g (by simp only [cmpD, hf x y, Option.map_some])
/-- compared with [] -/
theorem v_eqN {α : Type} {f : α → D} {xs : List α} (hf : eqD (Lx f xs) (.lst []) = some xs.isEmpty) (h : Ev call a η st (Lx f xs) m st1) : Ev call (.cmp .eq a (.lst .nil)) η st (.bl xs.isEmpty) 2 st1 := evcmp h (v_lst2 vl_n) hf
theorem v_neN {α : Type} {f : α → D} {xs : List α} (hf : eqD (Lx f xs) (.lst []) = some xs.isEmpty) (h : Ev call a η st (Lx f xs) m st1) : Ev call (.cmp .ne a (.lst .nil)) η st (.bl (!xs.isEmpty)) 2 st1 := evcmp h (v_lst2 vl_n) (by simp only [cmpD, hf, Option.map_some])
theorem evand {u v : Bool} (h : Ev call a η st (.bl u) m st1) (g : u = true → Ev call b η st1 (.bl v) 2 st1) : Ev call (.and a b) η st (.bl (u && v)) 2 st1 := by
  obtain ⟨l, h1, h2, h3⟩ := h
  cases u with
  | false => exact ⟨2, by simp only [evalE, h1, bind_ok, bool?, Bool.false_and], Nat.le_refl _, Nat.le_refl _⟩
  | true =>
    obtain ⟨l2, g1, g2, g3⟩ := g rfl
    exact ⟨l2, by simp only [evalE, h1, bind_ok, bool?, Bool.true_and, g1], g2, g3⟩
theorem evor {u v : Bool} (h : Ev call a η st (.bl u) m st1) (g : u = false → Ev call b η st1 (.bl v) 2 st1) : Ev call (.or a b) η st (.bl (u || v)) 2 st1 := by
  obtain ⟨l, h1, h2, h3⟩ := h
  cases u with
  | true => exact ⟨2, by simp only [evalE, h1, bind_ok, bool?, Bool.true_or], Nat.le_refl _, Nat.le_refl _⟩
  | false =>
    obtain ⟨l2, g1, g2, g3⟩ := g rfl
    exact ⟨l2, by simp only [evalE, h1, bind_ok, bool?, Bool.false_or, g1], g2, g3⟩
theorem v_ife {α : Type} {f : α → D} {u : Bool} {x y : α} (h : Ev call c η st (.bl u) m st1) (g : u = true → Ev call a η st1 (f x) m1 st1) (k : u = false → Ev call b η st1 (f y) m1 st1) : Ev call (.ife c a b) η st (f (cond u x y)) m1 st1 := by
  obtain ⟨l, h1, h2, h3⟩ := h
  cases u with
  | true =>
    obtain ⟨l2, g1, g2, g3⟩ := g rfl
    exact ⟨l2, by simp only [evalE, h1, bind_ok, bool?, g1, cond_true], g2, g3⟩
  | false =>
    obtain ⟨l2, g1, g2, g3⟩ := k rfl
    exact ⟨l2, by simp only [evalE, h1, bind_ok, bool?, g1, cond_false], g2, g3⟩
theorem atI_getL {α : Type} [Inhabited α] {f : α → D} {xs : List α} {x : Int} (h : inb xs x) : L2.atI (xs.map f) x = some (f (getL xs x)) := by
  obtain ⟨h0, h1⟩ := h
  have hj : x.toNat < xs.length := by omega
  refine atI_at h0 ?_
  rw [List.getElem?_map, List.getElem?_eq_getElem hj]
  simp [getL, List.getD_eq_getElem?_getD, List.getElem?_eq_getElem hj]
theorem lvl_le (l : Nat) (d : D) (h : l ≤ 2) : (lvl l d).2 ≤ 2 := by
  unfold lvl
  split <;> simp [h]
theorem v_ix {α : Type} [Inhabited α] {f : α → D} {xs : List α} {x : Int} (h : Ev call a η st (Lx f xs) m st1) (g : Ev call b η st1 (.int x) m1 st2) (ok : inb xs x) : Ev call (.ix a b) η st (f (getL xs x)) 0 st2 := by
  obtain ⟨l, h1, h2, h3⟩ := h
  obtain ⟨l2, g1, g2, g3⟩ := g
  refine ⟨_, by simp only [evalE, h1, g1, bind_ok, ixD, Lx, items, Option.bind_some, atI_getL ok, Option.map_some, of_some, lvl]; rfl, Nat.zero_le _, ?_⟩
  exact lvl_le _ _ (by split <;> simp)
theorem v_ixF {α : Type} [Inhabited α] {f : α → D} {xs : List α} {x : Int} (h : Ev call a η st (Lx f xs) m st1) (g : Ev call b η st1 (.int x) m1 st2) (ok : inb xs x) (hf : ∀ y, (f y).flat = true) : Ev call (.ix a b) η st (f (getL xs x)) 2 st2 := by
  obtain ⟨l, h1, h2, h3⟩ := h
  obtain ⟨l2, g1, g2, g3⟩ := g
  exact ⟨2, by simp only [evalE, h1, g1, bind_ok, ixD, Lx, items, Option.bind_some, atI_getL ok, Option.map_some, of_some, lvl, hf, if_true], Nat.le_refl _, Nat.le_refl _⟩
theorem v_ixT {ds : List D} {x : Int} (h : Ev call a η st (.tup ds) m st1) (g : Ev call b η st1 (.int x) m1 st2) (ok : L2.atI ds x = some d) : Ev call (.ix a b) η st d 0 st2 := by
  obtain ⟨l, h1, h2, h3⟩ := h
  obtain ⟨l2, g1, g2, g3⟩ := g
  refine ⟨_, by simp only [evalE, h1, g1, bind_ok, ixD, items, Option.bind_some, ok, Option.map_some, of_some, lvl]; rfl, Nat.zero_le _, ?_⟩
  exact lvl_le _ _ (by split <;> simp)
theorem v_ixTF {ds : List D} {x : Int} (h : Ev call a η st (.tup ds) m st1) (g : Ev call b η st1 (.int x) m1 st2) (ok : L2.atI ds x = some d) (hf : d.flat = true) : Ev call (.ix a b) η st d 2 st2 := by
  obtain ⟨l, h1, h2, h3⟩ := h
  obtain ⟨l2, g1, g2, g3⟩ := g
  exact ⟨2, by simp only [evalE, h1, g1, bind_ok, ixD, items, Option.bind_some, ok, Option.map_some, of_some, lvl, hf, if_true], Nat.le_refl _, Nat.le_refl _⟩
theorem lvItems_le (l : Nat) (xs : List D) : 1 ≤ lvItems l xs ∧ lvItems l xs ≤ 2 := by
  unfold lvItems
  split <;> simp
theorem v_addL {α : Type} {f : α → D} {xs ys : List α} (h : Ev call a η st (Lx f xs) m st1) (g : Ev call b η st1 (Lx f ys) m1 st2) (ok : xs.length + ys.length ≤ 100000) : Ev call (.bin .add a b) η st (Lx f (xs ++ ys)) 1 st2 := by
  obtain ⟨l, h1, h2, h3⟩ := h
  obtain ⟨l2, g1, g2, g3⟩ := g
  have ok' : (xs.map f).length + (ys.map f).length ≤ most := by simpa [most] using ok
  refine ⟨_, by simp only [evalE, h1, g1, bind_ok, binD, addD, Lx, if_pos ok', of_some, List.map_append]; rfl, ?_, ?_⟩ <;> split <;> simp
theorem v_addL2 {α : Type} {f : α → D} {xs ys : List α} (h : Ev call a η st (Lx f xs) m st1) (g : Ev call b η st1 (Lx f ys) m1 st2) (ok : xs.length + ys.length ≤ 100000) (hf : ∀ y, (f y).flat = true) : Ev call (.bin .add a b) η st (Lx f (xs ++ ys)) 2 st2 := by
  obtain ⟨l, h1, h2, h3⟩ := h
  obtain ⟨l2, g1, g2, g3⟩ := g
  have ok' : (xs.map f).length + (ys.map f).length ≤ most := by simpa [most] using ok
  have fl : ∀ zs : List α, D.flatL (zs.map f) = true := fun zs => by
    induction zs with
    | nil => rfl
    | cons z r ih => simp [D.flatL, hf, ih]
  exact ⟨2, by simp only [evalE, h1, g1, bind_ok, binD, addD, Lx, if_pos ok', of_some, List.map_append, fl, or_true, and_self, if_true], Nat.le_refl _, Nat.le_refl _⟩
theorem cutL_mp {α β : Type} (f : α → β) (xs : List α) (lo hi : Option Int) : cutL (xs.map f) lo hi = (cutL xs lo hi).map f := by
  simp [cutL, List.map_take, List.map_drop]
theorem vo_n : EvO call .nil η st none st := ⟨[], by simp only [evalEs], rfl⟩
theorem vo_s {x : Int} (h : Ev call e η st (.int x) m st1) : EvO call (.cons e .nil) η st (some x) st1 := by
  obtain ⟨l, h1, h2, h3⟩ := h
  exact ⟨[(.int x, l)], by simp only [evalEs, h1, bind_ok], rfl⟩
theorem v_sl {α : Type} {f : α → D} {xs : List α} {lo hi : Es} {x y : Option Int} (h : Ev call a η st (Lx f xs) m st1) (g : EvO call lo η st1 x st2) (k : EvO call hi η st2 y st3) : Ev call (.sl a lo hi) η st (Lx f (cutL xs x y)) 1 st3 := by
  obtain ⟨l, h1, h2, h3⟩ := h
  obtain ⟨l2, g1, g2⟩ := g
  obtain ⟨l3, k1, k2⟩ := k
  refine ⟨_, by simp only [evalE, h1, g1, k1, bind_ok, g2, k2, slD, Lx, of_some, cutL_mp]; rfl, ?_, ?_⟩
  · exact (lvItems_le _ _).1
  · exact (lvItems_le _ _).2
theorem v_rev {α : Type} {f : α → D} {xs : List α} (h : Ev call a η st (Lx f xs) m st1) : Ev call (.rev a) η st (Lx f xs.reverse) 1 st1 := by
  obtain ⟨l, h1, h2, h3⟩ := h
  refine ⟨_, by simp only [evalE, h1, bind_ok, Lx, List.map_reverse]; rfl, ?_, ?_⟩
  · exact (lvItems_le _ _).1
  · exact (lvItems_le _ _).2
theorem v_call {f : Nat} {as : Es} {ds : List D} (h : EvL call as η st ds m st1) (g : Cl call f ds st1 d m1 st2) : Ev call (.call f as) η st d m1 st2 := by
  obtain ⟨xs, h1, h2, h3⟩ := h
  obtain ⟨l, g1, g2, g3⟩ := g
  exact ⟨l, by simp only [evalE, h1, bind_ok, h2, g1], g2, g3⟩
theorem permV_map {α β : Type} (f : α → β) : ∀ {pm : List Nat} {xs : List α}, permV pm (xs.map f) = (permV pm xs).map (·.map f)
  | [], _ => rfl
  | i :: r, xs => by
    simp only [permV, List.getElem?_map, permV_map f]
    cases xs[i]? with
    | none => rfl
    | some x =>
      cases permV r xs with
      | none => rfl
      | some y => rfl
theorem v_callk {f : Nat} {pm : List Nat} {as ks : Es} {ds es ds' : List D} (h : EvL call as η st ds m st1) (k : EvL call ks η st1 es m2 st2) (hp : permV pm (ds ++ es) = some ds') (g : Cl call f ds' st2 d m1 st3) : Ev call (.callk f pm as ks) η st d m1 st3 := by
  obtain ⟨xs, h1, h2, h3⟩ := h
  obtain ⟨ys, k1, k2, k3⟩ := k
  obtain ⟨l, g1, g2, g3⟩ := g
  rw [← h2, ← k2, ← List.map_append, permV_map] at hp
  obtain ⟨zs, e1, e2⟩ := Option.map_eq_some_iff.mp hp
  exact ⟨l, by simp only [evalE, h1, k1, bind_ok, permD, e1, e2, g1], g2, g3⟩
/-! built-ins -/
theorem v_bi1 {bb : Bi} (h : Ev call a η st d m st1) (ok : ∀ l, biD st1 bb [(d, l)] = some (d1, 2)) : Ev call (.bi bb (.cons a .nil)) η st d1 2 st1 := by
  obtain ⟨l, h1, h2, h3⟩ := h
  exact ⟨2, by simp only [evalE, evalEs, h1, bind_ok, ok, of_some], Nat.le_refl _, Nat.le_refl _⟩
theorem v_len {α : Type} {f : α → D} {xs : List α} (h : Ev call a η st (Lx f xs) m st1) : Ev call (.bi .len (.cons a .nil)) η st (.int xs.length) 2 st1 := v_bi1 h fun l => by simp [biD, lenD, Lx, items]
theorem v_sum {xs : List Int} (h : Ev call a η st (Lx .int xs) m st1) : Ev call (.bi .sum (.cons a .nil)) η st (.int xs.sum) 2 st1 := v_bi1 h fun l => by simp [biD, sumD, Lx, ints_map]
theorem maxL_some : ∀ {xs : List Int}, xs ≠ [] → maxL xs = some (mxI xs)
  | [], h => absurd rfl h
  | x :: r, _ => rfl
theorem minL_some : ∀ {xs : List Int}, xs ≠ [] → minL xs = some (mnI xs)
  | [], h => absurd rfl h
  | x :: r, _ => rfl
theorem v_max {xs : List Int} (h : Ev call a η st (Lx .int xs) m st1) (ok : xs ≠ []) : Ev call (.bi .max (.cons a .nil)) η st (.int (mxI xs)) 2 st1 := v_bi1 h fun l => by simp [biD, maxD, Lx, ints_map, maxL_some ok]
theorem v_min {xs : List Int} (h : Ev call a η st (Lx .int xs) m st1) (ok : xs ≠ []) : Ev call (.bi .min (.cons a .nil)) η st (.int (mnI xs)) 2 st1 := v_bi1 h fun l => by simp [biD, minD, Lx, ints_map, minL_some ok]
theorem v_abs {x : Int} (h : Ev call a η st (.int x) m st1) : Ev call (.bi .abs (.cons a .nil)) η st (.int (if x < 0 then -x else x)) 2 st1 := v_bi1 h fun l => rfl
theorem v_int {x : Int} (h : Ev call a η st (.int x) m st1) : Ev call (.bi .int (.cons a .nil)) η st (.int x) 2 st1 := v_bi1 h fun l => rfl
theorem v_sorted {xs : List Int} (h : Ev call a η st (Lx .int xs) m st1) : Ev call (.bi .sorted (.cons a .nil)) η st (Lx .int (sortI xs)) 2 st1 := v_bi1 h fun l => by simp [biD, sortedD, Lx, ints_map]
theorem v_bits {x : Int} (h : Ev call a η st (.int x) m st1) : Ev call (.bi .bits (.cons a .nil)) η st (.int (Builtin.Int.intBits x : Nat)) 2 st1 := v_bi1 h fun l => rfl
theorem v_list {α : Type} {f : α → D} {xs : List α} (h : Ev call a η st (Lx f xs) m st1) : Ev call (.bi .list (.cons a .nil)) η st (Lx f xs) 1 st1 := by
  obtain ⟨l, h1, h2, h3⟩ := h
  exact ⟨_, by simp only [evalE, evalEs, h1, bind_ok, biD, listD, Lx, of_some]; rfl, (lvItems_le _ _).1, (lvItems_le _ _).2⟩
theorem v_tuple {α : Type} {f : α → D} {xs : List α} (h : Ev call a η st (Lx f xs) m st1) : Ev call (.bi .tuple (.cons a .nil)) η st (.tup (xs.map f)) 0 st1 := by
  obtain ⟨l, h1, h2, h3⟩ := h
  refine ⟨_, by simp only [evalE, evalEs, h1, bind_ok, biD, tupleD, Lx, of_some, lvl]; rfl, Nat.zero_le _, ?_⟩
  exact lvl_le _ _ (by split <;> simp)
theorem v_repr {p : PyData} (h : Ev call a η st d m st1) (hp : d.py = some p) (ok : reprOk p = true) : Ev call (.bi .repr (.cons a .nil)) η st (.str p.shown) 2 st1 := v_bi1 h fun l => by simp [biD, reprD, hp, ok]
theorem v_bi2 {bb : Bi} (h : Ev call a η st d m st1) (g : Ev call b η st1 d1 m1 st2) (ok : ∀ l k, biD st2 bb [(d, l), (d1, k)] = some (d2, 2)) : Ev call (.bi bb (.cons a (.cons b .nil))) η st d2 2 st2 := by
  obtain ⟨l, h1, h2, h3⟩ := h
  obtain ⟨l2, g1, g2, g3⟩ := g
  exact ⟨2, by simp only [evalE, evalEs, h1, g1, bind_ok, ok, of_some], Nat.le_refl _, Nat.le_refl _⟩
theorem v_max2 {x y : Int} (h : Ev call a η st (.int x) m st1) (g : Ev call b η st1 (.int y) m1 st2) : Ev call (.bi .max2 (.cons a (.cons b .nil))) η st (.int (if y > x then y else x)) 2 st2 := v_bi2 h g fun l k => rfl
theorem v_min2 {x y : Int} (h : Ev call a η st (.int x) m st1) (g : Ev call b η st1 (.int y) m1 st2) : Ev call (.bi .min2 (.cons a (.cons b .nil))) η st (.int (if y < x then y else x)) 2 st2 := v_bi2 h g fun l k => rfl
theorem v_cnt {xs : List Int} {x : Int} (h : Ev call a η st (Lx .int xs) m st1) (g : Ev call b η st1 (.int x) m1 st2) : Ev call (.bi .cnt (.cons a (.cons b .nil))) η st (.int (xs.count x : Nat)) 2 st2 := v_bi2 h g fun l k => by simp [biD, cntD, Lx, ints_map]
theorem flats_map {α : Type} (f : α → D) : ∀ xss : List (List α), flats? (xss.map (Lx f)) = some (xss.flatten.map f)
  | [] => rfl
  | xs :: r => by
    have := flats_map f r
    simp [flats?, Lx] at this ⊢
    simp [this]
theorem v_sumf {α : Type} {f : α → D} {xss : List (List α)} (h : Ev call a η st (Lx (Lx f) xss) m st1) (ok : xss.flatten.length ≤ 100000) : Ev call (.bi .sumf (.cons a (.cons (.lst .nil) .nil))) η st (Lx f xss.flatten) 1 st1 := by
  obtain ⟨l, h1, h2, h3⟩ := h
  have ok' : (xss.flatten.map f).length ≤ most := by rw [List.length_map]; exact ok
  have q : biD st1 .sumf [(D.lst (xss.map (Lx f)), l), (D.lst [], 2)] = some (Lx f xss.flatten, if D.flatL (xss.flatten.map f) then 2 else 1) := by
    simp only [biD, sumfD, flats_map, Option.bind_some, if_pos ok']
    rfl
  refine ⟨_, by simp only [evalE, evalEs, h1, bind_ok, List.map_nil, List.all_nil, if_true]; exact congrArg (R.of · st1) q, ?_, ?_⟩ <;> split <;> simp
theorem v_isi {ts : List Ty} {v : Bool} (h : Ev call a η st d m st1) (ok : (ts.foldr (fun t r => match isTyD t d, r with
      | some b, some c => some (b || c)
      | _, _ => none) (some false)) = some v) : Ev call (.isi a ts) η st (.bl v) 2 st1 := by
  obtain ⟨l, h1, h2, h3⟩ := h
  exact ⟨2, by simp only [evalE, h1, bind_ok]; exact congrArg (fun o => R.of (Option.map (fun c => (D.bl c, 2)) o) st1) ok, Nat.le_refl _, Nat.le_refl _⟩
theorem v_in {α : Type} [BEq α] {f : α → D} {x : α} {xs : List α} (hf : inD (f x) (Lx f xs) = some (xs.elem x)) (h : Ev call a η st (f x) m st1) (g : Ev call b η st1 (Lx f xs) m1 st2) : Ev call (.cmp .in_ a b) η st (.bl (xs.elem x)) 2 st2 := evcmp h g hf
theorem v_nin {α : Type} [BEq α] {f : α → D} {x : α} {xs : List α} (hf : inD (f x) (Lx f xs) = some (xs.elem x)) (h : Ev call a η st (f x) m st1) (g : Ev call b η st1 (Lx f xs) m1 st2) : Ev call (.cmp .nin a b) η st (.bl (!xs.elem x)) 2 st2 := evcmp h g (by simp only [cmpD, hf, Option.map_some])
theorem isD_non {α : Type} {f : α → D} (hf : ∀ x, isD (f x) .non = some false) : ∀ o : Option α, isD (Ox f o) .non = some o.isNone
  | none => rfl
  | some x => hf x
theorem v_isN {α : Type} {f : α → D} {o : Option α} (hf : ∀ x, isD (f x) .non = some false) (h : Ev call a η st (Ox f o) m st1) : Ev call (.cmp .is_ a (.con .non)) η st (.bl o.isNone) 2 st1 := evcmp h (v_con rfl) (isD_non hf o)
theorem v_isnN {α : Type} {f : α → D} {o : Option α} (hf : ∀ x, isD (f x) .non = some false) (h : Ev call a η st (Ox f o) m st1) : Ev call (.cmp .isn a (.con .non)) η st (.bl (!o.isNone)) 2 st1 := evcmp h (v_con rfl) (by simp only [cmpD, isD_non hf o, Option.map_some])
/-- an Option that is there -/
theorem v_get {α : Type} [Inhabited α] {f : α → D} {o : Option α} (h : Ev call a η st (Ox f o) m st1) (ok : o.isSome = true) : Ev call a η st (f (o.getD default)) m st1 := by
  cases o with
  | none => cases ok
  | some x => exact h
/-! what is gone over -/
theorem rngD_eq (lo hi : Int) : rngD lo hi = (rngI lo hi).map .int := by simp [rngD, rngI, Function.comp_def]
theorem enuD_eq {α : Type} (f : α → D) : ∀ (k : Nat) (xs : List α), enuD k (xs.map f) = (enuI (k : Int) xs).map (Tx2 .int f)
  | _, [] => rfl
  | k, x :: xs => by
    have := enuD_eq f (k + 1) xs
    simp [enuD, enuI, Tx2] at this ⊢
    exact this
theorem zipD_eq {α β : Type} (f : α → D) (g : β → D) : ∀ (xs : List α) (ys : List β), zipD (xs.map f) (ys.map g) = (xs.zip ys).map (Tx2 f g)
  | [], _ => rfl
  | _ :: _, [] => rfl
  | x :: xs, y :: ys => by simp [zipD, zipD_eq f g xs ys, Tx2]
theorem sr_seq {α : Type} {f : α → D} {xs : List α} (h : Ev call e η st (Lx f xs) m st1) : EvSr call (.seq e) η st (xs.map f) st1 := by
  obtain ⟨l, h1, h2, h3⟩ := h
  simp only [EvSr, evalSr, h1, bind_ok, Lx]
theorem sr_tup {ds : List D} (h : Ev call e η st (.tup ds) m st1) : EvSr call (.seq e) η st ds st1 := by
  obtain ⟨l, h1, h2, h3⟩ := h
  simp only [EvSr, evalSr, h1, bind_ok]
theorem sr_rng1 {x : Int} (h : Ev call e η st (.int x) m st1) (ok : -100000 ≤ x ∧ x ≤ 100000) : EvSr call (.rng1 e) η st ((rngI 0 x).map .int) st1 := by
  obtain ⟨l, h1, h2, h3⟩ := h
  simp only [EvSr, evalSr, h1, bind_ok]
  rw [if_pos (by simpa [most] using ok), rngD_eq]
theorem sr_rng2 {x y : Int} (h : Ev call a η st (.int x) m st1) (g : Ev call b η st1 (.int y) m1 st2) (ok : -100000 ≤ x ∧ x ≤ 100000 ∧ -100000 ≤ y ∧ y ≤ 100000) : EvSr call (.rng2 a b) η st ((rngI x y).map .int) st2 := by
  obtain ⟨l, h1, h2, h3⟩ := h
  obtain ⟨l2, g1, g2, g3⟩ := g
  simp only [EvSr, evalSr, h1, g1, bind_ok]
  rw [if_pos (by simpa [most] using ok), rngD_eq]
theorem sr_enu {α : Type} {f : α → D} {xs : List α} (h : Ev call e η st (Lx f xs) m st1) : EvSr call (.enu e) η st ((enuI 0 xs).map (Tx2 .int f)) st1 := by
  obtain ⟨l, h1, h2, h3⟩ := h
  simp only [EvSr, evalSr, h1, bind_ok, Lx]
  exact congrArg (R.ok · st1) (enuD_eq f 0 xs)
theorem sr_zip {α β : Type} {f : α → D} {g : β → D} {xs : List α} {ys : List β} (h : Ev call a η st (Lx f xs) m st1) (k : Ev call b η st1 (Lx g ys) m1 st2) : EvSr call (.zip a b) η st ((xs.zip ys).map (Tx2 f g)) st2 := by
  obtain ⟨l, h1, h2, h3⟩ := h
  obtain ⟨l2, g1, g2, g3⟩ := k
  simp only [EvSr, evalSr, h1, g1, bind_ok, Lx, zipD_eq]
theorem v_lsr {s : Sr} {xs : List Int} (h : EvSr call s η st (xs.map .int) st1) : Ev call (.lsr s) η st (Lx .int xs) 2 st1 := ⟨2, by simp only [evalE, show evalSr call s η st = _ from h, bind_ok, flat_ints, if_true, Lx], Nat.le_refl _, Nat.le_refl _⟩
theorem vt_n : EvT call .nil η st true st := by simp only [EvT, evalTs]
theorem vt_c {v : Bool} (h : Ev call e η st (.bl v) m st1) : EvT call (.cons e .nil) η st v st1 := by
  obtain ⟨l, h1, h2, h3⟩ := h
  simp only [EvT, evalTs, h1, bind_ok, bool?, of_some]
/-! comprehensions that leave the cells alone -/
theorem lcGo_ev {α : Type} {t : Tg} {v : E} {c : Es} {g : α → D} {hd : α → D} {p : α → Bool} {η0 : Env} {η1 : α → Env} : ∀ {xs : List α}, (∀ x ∈ xs, t.bind (g x) η0 = some (η1 x) ∧ EvT call c (η1 x) st (p x) st ∧ (p x = true → Ev call v (η1 x) st (hd x) m st)) →
    ∃ ys : List DL, lcGo (fun ρ st => noEx (evalTs call c ρ st)) (fun ρ st => noEx (evalE call v ρ st)) t η0 (xs.map g) st = .ok ys st ∧ ys.map (·.1) = (xs.filter p).map hd ∧ ∀ y ∈ ys, m ≤ y.2 ∧ y.2 ≤ 2
  | [], _ => ⟨[], rfl, rfl, fun y h => by cases h⟩
  | x :: xs, H => by
    obtain ⟨ys, h1, h2, h3⟩ := lcGo_ev (xs := xs) fun e he => H e (List.mem_cons_of_mem _ he)
    obtain ⟨k1, k2, k3⟩ := H x List.mem_cons_self
    have k2 : evalTs call c (η1 x) st = .ok (p x) st := k2
    simp only [List.map_cons, lcGo, k1, k2, noEx, bind_ok]
    cases hp : p x with
    | false =>
      simp only [Bool.false_eq_true, if_false]
      exact ⟨ys, h1, by rw [List.filter_cons_of_neg (by simp [hp])]; exact h2, h3⟩
    | true =>
      obtain ⟨l, q1, q2, q3⟩ := k3 hp
      simp only [if_true, q1, bind_ok]
      simp only [noEx] at h1
      refine ⟨(hd x, l) :: ys, by rw [h1]; rfl, by rw [List.filter_cons_of_pos (by simp [hp])]; simp [h2], fun y hy => ?_⟩
      rcases List.mem_cons.mp hy with rfl | hy
      · exact ⟨q2, q3⟩
      · exact h3 y hy
theorem v_lcT {α β : Type} {t : Tg} {v : E} {s : Sr} {c : Es} {g : α → D} {f : β → D} {hd : α → β} {p : α → Bool} {η1 : α → Env} {xs : List α} (hs : EvSr call s η st (xs.map g) st1) (hb : ∀ x ∈ xs, t.bind (g x) (wipeE η t.slots) = some (η1 x)) (hc : ∀ x ∈ xs, EvT call c (η1 x) st1 (p x) st1)
    (hv : ∀ x ∈ xs, p x = true → Ev call v (η1 x) st1 (f (hd x)) m st1) : Ev call (.lc v t s c) η st (Lx f ((xs.filter p).map hd)) 1 st1 := by
  obtain ⟨ys, h1, h2, h3⟩ := lcGo_ev (hd := fun x => f (hd x)) fun x hx => ⟨hb x hx, hc x hx, hv x hx⟩
  refine ⟨_, by simp only [evalE, show evalSr call s η st = _ from hs, bind_ok, h1, h2, Lx, List.map_map]; rfl, ?_, ?_⟩ <;> split <;> simp
theorem v_lcT2 {α β : Type} {t : Tg} {v : E} {s : Sr} {c : Es} {g : α → D} {f : β → D} {hd : α → β} {p : α → Bool} {η1 : α → Env} {xs : List α} (hs : EvSr call s η st (xs.map g) st1) (hb : ∀ x ∈ xs, t.bind (g x) (wipeE η t.slots) = some (η1 x)) (hc : ∀ x ∈ xs, EvT call c (η1 x) st1 (p x) st1)
    (hv : ∀ x ∈ xs, p x = true → Ev call v (η1 x) st1 (f (hd x)) 2 st1) : Ev call (.lc v t s c) η st (Lx f ((xs.filter p).map hd)) 2 st1 := by
  obtain ⟨ys, h1, h2, h3⟩ := lcGo_ev (hd := fun x => f (hd x)) fun x hx => ⟨hb x hx, hc x hx, hv x hx⟩
  exact ⟨2, by simp only [evalE, show evalSr call s η st = _ from hs, bind_ok, h1, h2, all2 h3, if_true, Lx, List.map_map]; rfl, Nat.le_refl _, Nat.le_refl _⟩
theorem filt_true {α : Type} (xs : List α) : xs.filter (fun _ => true) = xs := List.filter_eq_self.mpr fun _ _ => rfl
theorem v_lc {α β : Type} {t : Tg} {v : E} {s : Sr} {g : α → D} {f : β → D} {hd : α → β} {η1 : α → Env} {xs : List α} (hs : EvSr call s η st (xs.map g) st1) (hb : ∀ x ∈ xs, t.bind (g x) (wipeE η t.slots) = some (η1 x))
    (hv : ∀ x ∈ xs, Ev call v (η1 x) st1 (f (hd x)) m st1) : Ev call (.lc v t s .nil) η st (Lx f (xs.map hd)) 1 st1 := by
  have := v_lcT (p := fun _ => true) (f := f) (hd := hd) hs hb (fun x _ => vt_n) fun x hx _ => hv x hx
  rwa [filt_true] at this
theorem v_lc2 {α β : Type} {t : Tg} {v : E} {s : Sr} {g : α → D} {f : β → D} {hd : α → β} {η1 : α → Env} {xs : List α} (hs : EvSr call s η st (xs.map g) st1) (hb : ∀ x ∈ xs, t.bind (g x) (wipeE η t.slots) = some (η1 x))
    (hv : ∀ x ∈ xs, Ev call v (η1 x) st1 (f (hd x)) 2 st1) : Ev call (.lc v t s .nil) η st (Lx f (xs.map hd)) 2 st1 := by
  have := v_lcT2 (p := fun _ => true) (f := f) (hd := hd) hs hb (fun x _ => vt_n) fun x hx _ => hv x hx
  rwa [filt_true] at this
end
end IX
/-! JC: what a body does, in plain values. Own work. -/
namespace IX
open PySem

/-! ### slots: nothing known (and not lent), or a value with a least level -/
abbrev SA := Option (D × Nat)
/-- levels of a slot: 0, 1, 2 at least; 3 lent; 4 nothing known at all; 5 known to others -/
def SOk : SA → Option DL → Prop
  | none, o => loose o
  | some (d, m), o => m = 4 ∨ ∃ l, o = some (d, l) ∧ (m = 3 ∧ l = 3 ∨ m = 5 ∧ l = 0 ∨ m ≤ l ∧ l ≤ 2)
def okA : SA → Bool
  | none => true
  | some (_, m) => Nat.ble m 2
def Sat : List SA → SEnv → Prop
  | [], [] => True
  | a :: A, o :: ρ => SOk a o ∧ Sat A ρ
  | _, _ => False
def keepA : D × Nat → Option D
  | (_, 4) => none
  | (d, _) => some d
def envA (A : List SA) : IX.Env := A.map fun a => a.bind keepA
def okFz (vs : List Nat) : Nat → List SA → Bool
  | _, [] => true
  | k, a :: A => (match a with
    | some (_, m) => m == 0 || m == 3 || m == 4 || m == 5 || !vs.contains k
    | none => true) && okFz vs (k + 1) A
theorem keepA_some {p : D × Nat} {d : D} (h : keepA p = some d) : p.2 ≠ 4 ∧ p.1 = d := by
  obtain ⟨e, m⟩ := p
  by_cases q : m = 4
  · subst q
    cases h
  · refine ⟨q, ?_⟩
    match m, q, h with
    | 0, _, h => exact Option.some.inj h
    | 1, _, h => exact Option.some.inj h
    | 2, _, h => exact Option.some.inj h
    | 3, _, h => exact Option.some.inj h
    | m + 5, _, h => exact Option.some.inj h
section
variable {A : List SA} {ρ : SEnv} {vs : List Nat}
theorem SOk.loose : ∀ {a : SA} {o : Option DL}, SOk a o → okA a = true → IX.loose o
  | none, o, h, _ => h
  | some (d, m), o, h, ok => fun e he => by
    have hm : m ≤ 2 := Nat.le_of_ble_eq_true ok
    rcases h with h | ⟨l, h1, h2⟩
    · omega
    · rw [h1] at he
      cases he
      omega
theorem SOk.low {d : D} {m : Nat} {o : Option DL} (h : SOk (some (d, m)) o) (hm : m ≤ 2) : ∃ l, o = some (d, l) ∧ m ≤ l ∧ l ≤ 2 := by
  rcases h with h | ⟨l, h1, h2⟩
  · omega
  · exact ⟨l, h1, by omega, by omega⟩
theorem SOk.mk {d : D} {m l : Nat} (h1 : m ≤ l) (h2 : l ≤ 2) : SOk (some (d, m)) (some (d, l)) := .inr ⟨l, rfl, .inr (.inr ⟨h1, h2⟩)⟩
theorem Sat.len : ∀ {A : List SA} {ρ : SEnv}, Sat A ρ → A.length = ρ.length
  | [], [], _ => rfl
  | a :: A, o :: ρ, h => by simp [Sat.len h.2]
  | [], _ :: _, h => h.elim
  | _ :: _, [], h => h.elim
theorem Sat.get : ∀ {A : List SA} {ρ : SEnv} {i : Nat} {a : SA}, Sat A ρ → A[i]? = some a → ∃ o, ρ[i]? = some o ∧ SOk a o
  | [], ρ, i, a, _, e => by simp at e
  | b :: A, [], i, a, h, _ => h.elim
  | b :: A, o :: ρ, 0, a, h, e => by
    simp at e
    subst e
    exact ⟨o, rfl, h.1⟩
  | b :: A, o :: ρ, i + 1, a, h, e => by
    simp at e ⊢
    exact Sat.get h.2 e
theorem Sat.set : ∀ {A : List SA} {ρ : SEnv} {a : SA} {o : Option DL} (i : Nat), Sat A ρ → SOk a o → Sat (A.set i a) (ρ.set i o)
  | [], [], a, o, i, _, _ => trivial
  | b :: A, p :: ρ, a, o, 0, h, e => ⟨e, h.2⟩
  | b :: A, p :: ρ, a, o, i + 1, h, e => ⟨h.1, Sat.set i h.2 e⟩
  | [], _ :: _, _, _, _, h, _ => h.elim
  | _ :: _, [], _, _, _, h, _ => h.elim
theorem Sat.fzGo : ∀ {A : List SA} {ρ : SEnv} (k : Nat), Sat A ρ → okFz vs k A = true → Sat A (IX.fzGo vs k ρ)
  | [], [], k, _, _ => trivial
  | a :: A, o :: ρ, k, h, e => by
    simp only [okFz, Bool.and_eq_true] at e
    refine ⟨?_, Sat.fzGo (k + 1) h.2 e.2⟩
    cases a with
    | none =>
      intro d hd
      cases o with
      | none => cases hd
      | some x =>
        simp only [Option.map_some, fz1] at hd
        split at hd
        · cases hd
        · exact h.1 d hd
    | some p =>
      obtain ⟨d, m⟩ := p
      rcases h.1 with h1 | ⟨l, h1, h2⟩
      · exact .inl h1
      subst h1
      simp only [Option.map_some, fz1]
      split
      · rename_i q
        have e1 := e.1
        simp only [Bool.and_eq_true] at q
        simp only [q.1.1, Bool.not_true, Bool.or_false, Bool.or_eq_true, beq_iff_eq] at e1
        have l3 : l ≠ 3 := by simpa using q.2
        rcases e1 with ((e1 | e1) | e1) | e1
        · exact .inr ⟨0, rfl, .inr (.inr ⟨by omega, by omega⟩)⟩
        · omega
        · exact .inl e1
        · exact .inr ⟨0, rfl, .inr (.inl ⟨e1, rfl⟩)⟩
      · exact .inr ⟨l, rfl, h2⟩
  | [], _ :: _, _, h, _ => h.elim
  | _ :: _, [], _, h, _ => h.elim
theorem Sat.fz (h : Sat A ρ) (e : okFz vs 0 A = true) : Sat A (IX.fz vs ρ) := Sat.fzGo 0 h e
theorem viewGo_gt (vs : List Nat) : ∀ (ρ : SEnv) (k i : Nat), (viewGo vs k ρ)[i]? = (ρ[i]?).map fun o => o.bind fun x => if visible vs (k + i) x then some x.1 else none
  | [], k, i => by simp [viewGo]
  | none :: ρ, k, 0 => by simp [viewGo]
  | some x :: ρ, k, 0 => by
    simp only [viewGo, List.getElem?_cons_zero, Option.map_some, Option.bind_some, Nat.add_zero]
  | none :: ρ, k, i + 1 => by
    simp only [viewGo, List.getElem?_cons_succ]
    rw [viewGo_gt vs ρ (k + 1) i, show k + 1 + i = k + (i + 1) by omega]
  | some x :: ρ, k, i + 1 => by
    simp only [viewGo, List.getElem?_cons_succ]
    rw [viewGo_gt vs ρ (k + 1) i, show k + 1 + i = k + (i + 1) by omega]
theorem viewGo_ln (vs : List Nat) : ∀ (ρ : SEnv) (k : Nat), (viewGo vs k ρ).length = ρ.length
  | [], k => rfl
  | none :: ρ, k => by simp [viewGo, viewGo_ln vs ρ]
  | some x :: ρ, k => by simp [viewGo, viewGo_ln vs ρ]
theorem Sat.view (h : Sat A ρ) (vs : List Nat) : Le vs (envA A) (IX.view vs ρ) := by
  refine ⟨by simp [envA, IX.view, viewGo_ln, h.len], fun i hi d e => ?_⟩
  simp only [envA, List.getElem?_map] at e
  cases ha : A[i]? with
  | none => simp [ha] at e
  | some a =>
    obtain ⟨o, h1, h2⟩ := h.get ha
    cases a with
    | none => simp [ha] at e
    | some p =>
      obtain ⟨d1, m⟩ := p
      simp only [ha, Option.map_some, Option.bind_some, Option.some.injEq] at e
      obtain ⟨m4, rfl⟩ := keepA_some e
      rcases h2 with h2 | ⟨l, rfl, h3⟩
      · exact absurd h2 m4
      simp only [IX.view, viewGo_gt, h1, Option.map_some, Option.bind_some]
      rw [vis_in (by simpa using hi), if_pos rfl]
/-- an index: flat slots alone -/
def keepF : D × Nat → Option D
  | (_, 4) => none
  | (d, 5) => some d
  | (d, _) => if d.flat then some d else none
def envF (A : List SA) : IX.Env := A.map fun a => a.bind keepF
theorem keepF_some {p : D × Nat} {d : D} (h : keepF p = some d) : p.2 ≠ 4 ∧ p.1 = d ∧ (p.2 = 5 ∨ p.1.flat = true) := by
  obtain ⟨e, m⟩ := p
  have aux : (if e.flat then some e else none) = some d → e = d ∧ e.flat = true := fun h => by
    split at h
    · rename_i q
      exact ⟨Option.some.inj h, q⟩
    · cases h
  by_cases q : m = 4
  · subst q
    cases h
  · refine ⟨q, ?_⟩
    match m, q, h with
    | 0, _, h => exact ⟨(aux h).1, .inr (aux h).2⟩
    | 1, _, h => exact ⟨(aux h).1, .inr (aux h).2⟩
    | 2, _, h => exact ⟨(aux h).1, .inr (aux h).2⟩
    | 3, _, h => exact ⟨(aux h).1, .inr (aux h).2⟩
    | 5, _, h => exact ⟨Option.some.inj h, .inl rfl⟩
    | m + 6, _, h => exact ⟨(aux h).1, .inr (aux h).2⟩
theorem Sat.viewF (h : Sat A ρ) (vs : List Nat) : Le vs (envF A) (IX.view [] ρ) := by
  refine ⟨by simp [envF, IX.view, viewGo_ln, h.len], fun i hi d e => ?_⟩
  simp only [envF, List.getElem?_map] at e
  cases ha : A[i]? with
  | none => simp [ha] at e
  | some a =>
    obtain ⟨o, h1, h2⟩ := h.get ha
    cases a with
    | none => simp [ha] at e
    | some p =>
      obtain ⟨d1, m⟩ := p
      simp only [ha, Option.map_some, Option.bind_some, Option.some.injEq] at e
      obtain ⟨m4, rfl, e5⟩ := keepF_some e
      rcases h2 with h2 | ⟨l, rfl, h3⟩
      · exact absurd h2 m4
      simp only [IX.view, viewGo_gt, h1, Option.map_some, Option.bind_some]
      have vis : visible [] (0 + i) (d1, l) = true := by
        rcases e5 with e5 | e5
        · have l0 : l = 0 := by simp only at e5; omega
          simp [visible, l0]
        · simp only at e5
          simp [visible, e5]
      rw [vis, if_pos rfl]
end
/-! ### statements -/
def Ss.app : Ss → Ss → Ss
  | .nil, r => r
  | .cons s a, r => .cons s (a.app r)
  | .prot w b a, r => .prot w b (a.app r)
def Ex (call : Nat → List D → Sto → R DL) (ss : Ss) (A : List SA) (st : Sto) (Q : Fl → SEnv → Sto → Prop) : Prop := ∀ ρ, Sat A ρ → ∃ f ρ' st', execSs call ss ρ st = .ok (f, ρ') st' ∧ Q f ρ' st'
/-- a def's word -/
def PFn {τ : Type} (g : τ → D) (m : Nat) (st : Sto) (v : τ) : Fl → SEnv → Sto → Prop := fun f _ st' => st' = st ∧ ((∃ l, f = .ret (g v) l ∧ m ≤ l ∧ l ≤ 2) ∨ (f = .nx ∧ g v = .non ∧ m ≤ 2))
inductive Ctl (σ β : Type) where
  | nx (s : σ) | brk (s : σ) | ret (b : β)
def Ctl.run {σ β γ : Type} (c : Ctl σ β) (k : σ → γ) (r : β → γ) : γ := match c with
  | .nx s => k s
  | .brk s => k s
  | .ret b => r b
/-- a turn's word -/
def PCtl {σ β : Type} (AA : σ → List SA) (g : β → D) (m : Nat) (st : Sto) : Ctl σ β → Fl → SEnv → Sto → Prop
  | .nx s => fun f ρ st' => st' = st ∧ (f = .nx ∨ f = .cnt) ∧ Sat (AA s) ρ
  | .brk s => fun f ρ st' => st' = st ∧ f = .brk ∧ Sat (AA s) ρ
  | .ret b => fun f ρ st' => st' = st ∧ ∃ l, f = .ret (g b) l ∧ m ≤ l ∧ l ≤ 2
def PNx {σ : Type} (AA : σ → List SA) (st : Sto) (s : σ) : Fl → SEnv → Sto → Prop := fun f ρ st' => st' = st ∧ (f = .nx ∨ f = .cnt) ∧ Sat (AA s) ρ
def forT {α σ β : Type} (step : σ → α → Ctl σ β) : List α → σ → Ctl σ β
  | [], s => .nx s
  | x :: xs, s => match step s x with
    | .nx s' => forT step xs s'
    | .brk s' => .nx s'
    | .ret b => .ret b
def forS {α σ β : Type} (safe : σ → α → Prop) (step : σ → α → Ctl σ β) : List α → σ → Prop
  | [], _ => True
  | x :: xs, s => safe s x ∧ match step s x with
    | .nx s' => forS safe step xs s'
    | _ => True
def foldS {α σ : Type} (safe : σ → α → Prop) (step : σ → α → σ) : List α → σ → Prop
  | [], _ => True
  | x :: xs, s => safe s x ∧ foldS safe step xs (step s x)
def bindA (t : Tg) (d : D) (A : List SA) : Option (List SA) := match t, d with
  | .nm i, d => some (A.set i (some (d, 0)))
  | .tp [.nm i, .nm j], .tup [x, y] => some ((A.set i (some (x, 0))).set j (some (y, 0)))
  | .tp [.nm i, .nm j, .nm k], .tup [x, y, z] => some (((A.set i (some (x, 0))).set j (some (y, 0))).set k (some (z, 0)))
  | _, _ => none
section
variable {call : Nat → List D → Sto → R DL} {A A1 A2 : List SA} {ρ : SEnv} {vs : List Nat} {st st1 st2 st3 : Sto} {e a b c x : E} {d d1 d2 : D} {m m1 m2 mo : Nat} {i j : Nat} {p q r : Ss} {Q : Fl → SEnv → Sto → Prop}
theorem setS_set {o : SA} {x : DL} (h : Sat A ρ) (hi : A[i]? = some o ∧ okA o = true) : setS ρ i x = some (ρ.set i (some x)) := by
  obtain ⟨p, h1, h2⟩ := h.get hi.1
  exact setS_of h1 (h2.loose hi.2)
theorem set_mem {B : List SA} {i j : Nat} {d : D} (h : ∃ o, B[j]? = some o ∧ okA o = true) : ∃ o, (B.set i (some (d, 0)))[j]? = some o ∧ okA o = true := by
  obtain ⟨o, ho, ok⟩ := h
  by_cases e : i = j
  · subst e
    exact ⟨_, by rw [List.getElem?_set_self (List.getElem?_eq_some_iff.mp ho).1], rfl⟩
  · exact ⟨o, by rw [List.getElem?_set_ne e]; exact ho, ok⟩
theorem bindA_ok : ∀ {t : Tg} {d : D} {A A1 : List SA} {ρ : SEnv} {l : Nat}, bindA t d A = some A1 → Sat A ρ → (∀ i ∈ t.slots, ∃ o, A[i]? = some o ∧ okA o = true) → l ≤ 2 → ∃ ρ1, t.bindS (d, l) ρ = some ρ1 ∧ Sat A1 ρ1 := by
  intro t d A A1 ρ l hb hs hi hl
  have lv : ∀ x : D, (lvl (if l = 2 then 2 else 0) x).2 ≤ 2 := fun x => lvl_le _ _ (by split <;> simp)
  have pt : ∀ (B : List SA) (τ : SEnv) (i : Nat) (x : D), Sat B τ → Sat (B.set i (some (x, 0))) (τ.set i (some (lvl (if l = 2 then 2 else 0) x))) := fun B τ i x h => h.set i (SOk.mk (Nat.zero_le _) (lv x))
  unfold bindA at hb
  split at hb
  · rename_i i
    cases hb
    obtain ⟨o, ho⟩ := hi i (by simp [Tg.slots])
    simp only [Tg.bindS]
    exact ⟨_, setS_set hs ho, hs.set i (SOk.mk (Nat.zero_le _) hl)⟩
  · rename_i i j x y
    cases hb
    obtain ⟨o, ho⟩ := hi i (by simp [Tg.slots, Tg.slotsL])
    obtain ⟨o3, ho3⟩ := set_mem (i := i) (d := x) (hi j (by simp [Tg.slots, Tg.slotsL]))
    have s1 := pt _ _ i x hs
    simp only [Tg.bindS, Tg.bindSL, setS_set hs ho, setS_set s1 ho3]
    exact ⟨_, rfl, pt _ _ j y s1⟩
  · rename_i i j k x y z
    cases hb
    obtain ⟨o, ho⟩ := hi i (by simp [Tg.slots, Tg.slotsL])
    obtain ⟨o3, ho3⟩ := set_mem (i := i) (d := x) (hi j (by simp [Tg.slots, Tg.slotsL]))
    obtain ⟨o5, ho5⟩ := set_mem (i := j) (d := y) (set_mem (i := i) (d := x) (hi k (by simp [Tg.slots, Tg.slotsL])))
    have s1 := pt _ _ i x hs
    have s2 := pt _ _ j y s1
    simp only [Tg.bindS, Tg.bindSL, setS_set hs ho, setS_set s1 ho3, setS_set s2 ho5]
    exact ⟨_, rfl, pt _ _ k z s2⟩
  · cases hb
theorem evE (h : Ev call e (envA A) st d m st1) (hv : (e.vs.all vs.contains) = true) (hs : Sat A ρ) : ∃ l, evalE call e (view vs ρ) st = .ok (d, l) st1 ∧ m ≤ l ∧ l ≤ 2 := by
  obtain ⟨l, h1, h2, h3⟩ := h
  exact ⟨l, congE e (fun i hi => by simpa using List.all_eq_true.mp hv i hi) (hs.view vs) h1, h2, h3⟩
theorem evR {s : Sr} {ds : List D} (h : EvSr call s (envA A) st ds st1) (hv : (s.vs.all vs.contains) = true) (hs : Sat A ρ) : evalSr call s (view vs ρ) st = .ok ds st1 :=
  congSr s (fun i hi => by simpa using List.all_eq_true.mp hv i hi) (hs.view vs) h
theorem evF (h : Ev call e (envF A) st d m st1) (hs : Sat A ρ) : ∃ l, evalE call e (view [] ρ) st = .ok (d, l) st1 ∧ m ≤ l ∧ l ≤ 2 := by
  obtain ⟨l, h1, h2, h3⟩ := h
  exact ⟨l, congE e (vs := e.vs) (fun i hi => hi) (hs.viewF e.vs) h1, h2, h3⟩
theorem evB (h : Ev call e (envA A) st d m st1) (hv : (e.vs.all vs.contains) = true) (hz : okFz vs 0 A = true ∨ m = 2) (hs : Sat A ρ) : ∃ l ρ', evalB call e vs ρ st = .ok ((d, l), ρ') st1 ∧ m ≤ l ∧ l ≤ 2 ∧ Sat A ρ' := by
  obtain ⟨l, h1, h2, h3⟩ := evE h hv hs
  refine ⟨l, _, by simp only [evalB, h1, bind_ok]; rfl, h2, h3, ?_⟩
  by_cases q : l = 2
  · rw [if_pos q]; exact hs
  · rw [if_neg q]
    rcases hz with hz | hz
    · exact hs.fz hz
    · omega
theorem x_nil (h : ∀ ρ, Sat A ρ → Q .nx ρ st) : Ex call .nil A st Q := fun ρ hs => ⟨.nx, ρ, st, rfl, h ρ hs⟩
theorem x_asg (h : Ev call e (envA A) st d m st1) (hv : (e.vs.all vs.contains) = true) (hz : okFz vs 0 A = true ∨ m = 2) {o : SA} (hi : A[i]? = some o ∧ okA o = true) (hm : mo ≤ m) (k : Ex call r (A.set i (some (d, mo))) st1 Q) : Ex call (.cons (.asg i e vs) r) A st Q := fun ρ hs => by
  obtain ⟨l, ρ', h1, h2, h3, h4⟩ := evB h hv hz hs
  obtain ⟨f, ρ2, st2, g1, g2⟩ := k _ (h4.set i (SOk.mk (Nat.le_trans hm h2) h3))
  exact ⟨f, ρ2, st2, by simp only [execSs, execS, h1, bind_ok, setS_set h4 hi, stoU, g1], g2⟩
theorem x_asgT {t : Tg} (h : Ev call e (envA A) st d m st1) (hv : (e.vs.all vs.contains) = true) (hz : okFz vs 0 A = true ∨ m = 2) (hb : bindA t d A = some A1) (hi : ∀ i ∈ t.slots, ∃ o, A[i]? = some o ∧ okA o = true) (k : Ex call r A1 st1 Q) : Ex call (.cons (.asgT t e vs) r) A st Q := fun ρ hs => by
  obtain ⟨l, ρ', h1, h2, h3, h4⟩ := evB h hv hz hs
  obtain ⟨ρ3, b1, b2⟩ := bindA_ok hb h4 hi h3
  obtain ⟨f, ρ2, st2, g1, g2⟩ := k _ b2
  exact ⟨f, ρ2, st2, by simp only [execSs, execS, h1, bind_ok, b1, stoU, g1], g2⟩
theorem x_par (h : Ev call a (envA A) st d m st1) (g : Ev call b (envA A) st1 d1 m1 st2) (hva : (a.vs.all vs.contains) = true) (hvb : (b.vs.all vs.contains) = true) (hz : okFz vs 0 A = true ∨ (m = 2 ∧ m1 = 2)) {o o1 : SA} (hi : A[i]? = some o ∧ okA o = true) (hj : A[j]? = some o1 ∧ okA o1 = true) (hij : i ≠ j) {m' m1' : Nat} (hm : m' ≤ m) (hm1 : m1' ≤ m1)
    (k : Ex call r ((A.set i (some (d, m'))).set j (some (d1, m1'))) st2 Q) : Ex call (.cons (.par i j a b vs) r) A st Q := fun ρ hs => by
  have hz1 : okFz vs 0 A = true ∨ m = 2 := hz.imp id And.left
  have hz2 : okFz vs 0 A = true ∨ m1 = 2 := hz.imp id And.right
  obtain ⟨l, ρ', h1, h2, h3, h4⟩ := evB h hva hz1 hs
  obtain ⟨l1, ρ1, g1, g2, g3, g4⟩ := evB g hvb hz2 hs
  have s0 : Sat A (if l = 2 ∧ l1 = 2 then ρ else fz vs ρ) := by
    split
    · exact hs
    · rename_i q
      rcases hz with hz | hz
      · exact hs.fz hz
      · omega
  have s1 := s0.set (o := some (d, l)) (a := some (d, m')) i (SOk.mk (Nat.le_trans hm h2) h3)
  have hj' : (A.set i (some (d, m')))[j]? = some o1 ∧ okA o1 = true := ⟨by rw [List.getElem?_set_ne hij]; exact hj.1, hj.2⟩
  have s2 := s1.set (o := some (d1, l1)) (a := some (d1, m1')) j (SOk.mk (Nat.le_trans hm1 g2) g3)
  obtain ⟨f, ρ2, st2, k1, k2⟩ := k _ s2
  refine ⟨f, ρ2, st2, ?_, k2⟩
  simp only [execSs, execS, h1, g1, bind_ok, if_neg hij, setS_set s0 hi, Option.bind_some, setS_set s1 hj', stoU, k1]
theorem app_exec : ∀ (p r : Ss) (ρ : SEnv) (st : Sto), execSs call (p.app r) ρ st = (execSs call p ρ st).bind fun f st1 => match f with
    | (.nx, ρ1) => execSs call r ρ1 st1
    | (f, ρ1) => .ok (f, ρ1) st1
  | .nil, r, ρ, st => by simp only [Ss.app, execSs, bind_ok]
  | .cons s a, r, ρ, st => by
    simp only [Ss.app, execSs]
    cases h : execS call s ρ st with
    | no => rfl
    | ex c x s => rfl
    | ok f st1 =>
      obtain ⟨f, ρ1⟩ := f
      cases f with
      | nx => simp only [bind_ok]; exact app_exec a r ρ1 st1
      | _ => rfl
  | .prot w b a, r, ρ, st => by
    simp only [Ss.app, execSs]
    cases h : execSs call b (protGo w 0 ρ) st with
    | no => rfl
    | ex c x s => rfl
    | ok f st1 =>
      obtain ⟨f, ρ1⟩ := f
      cases f with
      | nx => simp only [bind_ok]; exact app_exec a r _ st1
      | _ => rfl
theorem ite_exec {v : Bool} {l : Nat} (h : evalE call c (view vs ρ) st = .ok (.bl v, l) st1) : execSs call (.cons (.ite c vs p q) r) ρ st = execSs call (cond v (p.app r) (q.app r)) ρ st1 := by
  simp only [execSs, execS, evalC, h, bind_ok, bool?, of_some]
  cases v with
  | true =>
    simp only [if_true, cond_true, app_exec] <;> rfl
  | false =>
    simp only [Bool.false_eq_true, if_false, cond_false, app_exec] <;> rfl
/-- if: both ways, with what stands behind -/
theorem x_ite {τ : Type} {Q : τ → Fl → SEnv → Sto → Prop} {v : Bool} {y z : τ} (h : Ev call c (envA A) st (.bl v) m st1) (hv : (c.vs.all vs.contains) = true) (k1 : v = true → Ex call (p.app r) A st1 (Q y)) (k2 : v = false → Ex call (q.app r) A st1 (Q z)) : Ex call (.cons (.ite c vs p q) r) A st (Q (cond v y z)) := fun ρ hs => by
  obtain ⟨l, h1, h2, h3⟩ := evE h hv hs
  rw [ite_exec h1]
  cases v with
  | true => exact k1 rfl ρ hs
  | false => exact k2 rfl ρ hs
/-- if: a way that is known -/
theorem x_iteT (h : Ev call c (envA A) st (.bl true) m st1) (hv : (c.vs.all vs.contains) = true) (k1 : Ex call (p.app r) A st1 Q) : Ex call (.cons (.ite c vs p q) r) A st Q := fun ρ hs => by
  obtain ⟨l, h1, h2, h3⟩ := evE h hv hs
  rw [ite_exec h1]
  exact k1 ρ hs
theorem x_iteF (h : Ev call c (envA A) st (.bl false) m st1) (hv : (c.vs.all vs.contains) = true) (k1 : Ex call (q.app r) A st1 Q) : Ex call (.cons (.ite c vs p q) r) A st Q := fun ρ hs => by
  obtain ⟨l, h1, h2, h3⟩ := evE h hv hs
  rw [ite_exec h1]
  exact k1 ρ hs
theorem x_ret0 (h : Ev call e (envA A) st d m st1) (hv : (e.vs.all vs.contains) = true) (k : ∀ l ρ, m ≤ l → l ≤ 2 → Q (.ret d l) ρ st1) : Ex call (.cons (.ret e vs) r) A st Q := fun ρ hs => by
  obtain ⟨l, h1, h2, h3⟩ := evE h hv hs
  exact ⟨.ret d l, ρ, st1, by simp only [execSs, execS, h1, bind_ok], k l ρ h2 h3⟩
theorem x_ret {τ : Type} {g : τ → D} {v : τ} (h : Ev call e (envA A) st (g v) m st) (hv : (e.vs.all vs.contains) = true) (hm : mo ≤ m) : Ex call (.cons (.ret e vs) r) A st (PFn g mo st v) :=
  x_ret0 h hv fun l ρ h1 h2 => ⟨rfl, .inl ⟨l, rfl, Nat.le_trans hm h1, h2⟩⟩
theorem x_retC {σ τ : Type} {AA : σ → List SA} {g : τ → D} {v : τ} (h : Ev call e (envA A) st (g v) m st) (hv : (e.vs.all vs.contains) = true) (hm : mo ≤ m) : Ex call (.cons (.ret e vs) r) A st (PCtl AA g mo st (.ret v)) :=
  x_ret0 h hv fun l ρ h1 h2 => ⟨rfl, l, rfl, Nat.le_trans hm h1, h2⟩
theorem x_retv0 (hi : A[i]? = some (some (d, m))) (hm2 : m ≤ 2) (k : ∀ l ρ, (d.flat = true → l = 2) → (d.flat = false → m ≤ l) → m ≤ 2 → l ≤ 2 → Q (.ret d l) ρ st) : Ex call (.cons (.retv i) r) A st Q := fun ρ hs => by
  obtain ⟨o, h1, hh⟩ := hs.get hi
  obtain ⟨l, h2, h3, h4⟩ := hh.low hm2
  subst h2
  refine ⟨.ret d (lvl (if l = 3 then 0 else l) d).2, ρ, st, by simp only [execSs, execS, h1, bind_ok], k _ ρ (fun q => by simp [lvl, q]) (fun q => ?_) (Nat.le_trans h3 h4) ?_⟩
  · simp only [lvl, q, Bool.false_eq_true, if_false]
    rw [if_neg (show ¬ l = 3 by omega)]
    exact h3
  · rw [if_neg (show ¬ l = 3 by omega)]
    exact lvl_le _ _ h4
theorem retv_le {l : Nat} (hm : mo ≤ m ∨ (d.flat = true ∧ mo ≤ 2)) (h1 : d.flat = true → l = 2) (h2 : d.flat = false → m ≤ l) (h3 : m ≤ 2) : mo ≤ l := by
  cases q : d.flat with
  | true =>
    have := h1 q
    rcases hm with hm | hm <;> omega
  | false =>
    have := h2 q
    rcases hm with hm | hm
    · omega
    · rw [q] at hm
      cases hm.1
theorem x_retv {τ : Type} {g : τ → D} {v : τ} (hi : A[i]? = some (some (g v, m))) (hm2 : m ≤ 2) (hm : mo ≤ m ∨ ((g v).flat = true ∧ mo ≤ 2)) : Ex call (.cons (.retv i) r) A st (PFn g mo st v) :=
  x_retv0 hi hm2 fun l ρ h1 h2 h3 h4 => ⟨rfl, .inl ⟨l, rfl, retv_le hm h1 h2 h3, h4⟩⟩
theorem x_retvC {σ τ : Type} {AA : σ → List SA} {g : τ → D} {v : τ} (hi : A[i]? = some (some (g v, m))) (hm2 : m ≤ 2) (hm : mo ≤ m ∨ ((g v).flat = true ∧ mo ≤ 2)) : Ex call (.cons (.retv i) r) A st (PCtl AA g mo st (.ret v)) :=
  x_retv0 hi hm2 fun l ρ h1 h2 h3 h4 => ⟨rfl, l, rfl, retv_le hm h1 h2 h3, h4⟩
theorem x_retNC {σ τ : Type} {AA : σ → List SA} {g : τ → D} {v : τ} (hg : g v = .non) (hm : mo ≤ 2) : Ex call (.cons .retN r) A st (PCtl AA g mo st (.ret v)) := fun ρ hs => ⟨.ret .non 2, ρ, st, by simp only [execSs, execS, bind_ok], rfl, 2, by rw [hg], hm, Nat.le_refl _⟩
theorem x_retN {τ : Type} {g : τ → D} {v : τ} (hg : g v = .non) (hm : mo ≤ 2) : Ex call (.cons .retN r) A st (PFn g mo st v) := fun ρ hs => ⟨.ret .non 2, ρ, st, by simp only [execSs, execS, bind_ok], rfl, .inl ⟨2, by rw [hg], hm, Nat.le_refl _⟩⟩
theorem x_end {τ : Type} {g : τ → D} {v : τ} (hg : g v = .non) (hm : mo ≤ 2) : Ex call .nil A st (PFn g mo st v) := x_nil fun ρ hs => ⟨rfl, .inr ⟨rfl, hg, hm⟩⟩
/-- weaker slots -/
def WkA : List SA → List SA → Prop
  | [], [] => True
  | a :: A, b :: B => ((b = none ∧ okA a = true) ∨ (∃ d m m', a = some (d, m) ∧ b = some (d, m') ∧ (m' = m ∨ m' ≤ m ∧ m ≤ 2)) ∨ ∃ d, b = some (d, 4)) ∧ WkA A B
  | _, _ => False
theorem WkA.sat : ∀ {A B : List SA} {ρ : SEnv}, WkA A B → Sat A ρ → Sat B ρ
  | [], [], [], _, _ => trivial
  | a :: A, b :: B, o :: ρ, h, hs => by
    refine ⟨?_, h.2.sat hs.2⟩
    rcases h.1 with ⟨e, ok⟩ | ⟨d, m, m', rfl, rfl, hm⟩ | ⟨d, e⟩
    · subst e
      exact hs.1.loose ok
    · rcases hm with rfl | hm
      · exact hs.1
      · obtain ⟨l, h1, h2, h3⟩ := hs.1.low hm.2
        rw [h1]
        exact SOk.mk (Nat.le_trans hm.1 h2) h3
    · subst e
      exact .inl rfl
  | [], [], _ :: _, _, hs => hs.elim
  | _ :: _, _ :: _, [], _, hs => hs.elim
  | [], _ :: _, _, h, _ => h.elim
  | _ :: _, [], _, h, _ => h.elim
theorem x_weak (w : WkA A A1) (k : Ex call p A1 st Q) : Ex call p A st Q := fun ρ hs => k ρ (w.sat hs)
theorem x_endC {σ τ : Type} {AA : σ → List SA} {g : τ → D} {s : σ} (w : WkA A (AA s)) : Ex call .nil A st (PCtl AA g mo st (.nx s)) := x_nil fun ρ hs => ⟨rfl, .inl rfl, w.sat hs⟩
theorem x_endN {σ : Type} {AA : σ → List SA} {s : σ} (w : WkA A (AA s)) : Ex call .nil A st (PNx AA st s) := x_nil fun ρ hs => ⟨rfl, .inl rfl, w.sat hs⟩
theorem x_brk {σ τ : Type} {AA : σ → List SA} {g : τ → D} {s : σ} (w : WkA A (AA s)) : Ex call (.cons .brk r) A st (PCtl AA g mo st (.brk s)) := fun ρ hs => ⟨.brk, ρ, st, by simp only [execSs, execS, bind_ok], rfl, rfl, w.sat hs⟩
theorem x_cntC {σ τ : Type} {AA : σ → List SA} {g : τ → D} {s : σ} (w : WkA A (AA s)) : Ex call (.cons .cnt r) A st (PCtl AA g mo st (.nx s)) := fun ρ hs => ⟨.cnt, ρ, st, by simp only [execSs, execS, bind_ok], rfl, .inr rfl, w.sat hs⟩
theorem x_cntN {σ : Type} {AA : σ → List SA} {s : σ} (w : WkA A (AA s)) : Ex call (.cons .cnt r) A st (PNx AA st s) := fun ρ hs => ⟨.cnt, ρ, st, by simp only [execSs, execS, bind_ok], rfl, .inr rfl, w.sat hs⟩
theorem x_pass (k : Ex call r A st Q) : Ex call (.cons .pass r) A st Q := fun ρ hs => by
  obtain ⟨f, ρ2, st2, g1, g2⟩ := k ρ hs
  exact ⟨f, ρ2, st2, by simp only [execSs, execS, bind_ok, g1], g2⟩
theorem x_expr (h : Ev call e (envA A) st d m st1) (hv : (e.vs.all vs.contains) = true) (k : Ex call r A st1 Q) : Ex call (.cons (.expr e vs) r) A st Q := fun ρ hs => by
  obtain ⟨l, h1, h2, h3⟩ := evE h hv hs
  obtain ⟨f, ρ2, st2, g1, g2⟩ := k ρ hs
  exact ⟨f, ρ2, st2, by simp only [execSs, execS, h1, bind_ok, g1], g2⟩
theorem ownL_of {xs : List D} {ρ : SEnv} {o : Option DL} (ho : ρ[i]? = some o) (hs : SOk (some (.lst xs, m)) o) (hm : 1 ≤ m ∧ m ≤ 2) : ∃ l, ownL ρ i = some (xs, l) ∧ m ≤ l ∧ l ≤ 2 := by
  obtain ⟨l, h1, h2, h3⟩ := hs.low hm.2
  subst h1
  exact ⟨l, by simp only [ownL, ho]; rw [if_pos (by omega)], h2, h3⟩
/-- a list of one's own grows; the list's least level is the lesser one -/
theorem x_app {α : Type} {f : α → D} {xs : List α} {y : α} (hi : A[i]? = some (some (Lx f xs, mo))) (ho : 1 ≤ mo ∧ mo ≤ 2) (h : Ev call e (envA A) st (f y) m st1) (hv : (e.vs.all vs.contains) = true) (hz : okFz vs 0 A = true ∨ m = 2) (hl : xs.length < 100000) (k : Ex call r (A.set i (some (Lx f (xs ++ [y]), 1))) st1 Q) : Ex call (.cons (.app i e vs) r) A st Q := fun ρ hs => by
  obtain ⟨l, ρ', h1, h2, h3, h4⟩ := evB h hv hz hs
  obtain ⟨o, o1, o2⟩ := h4.get hi
  obtain ⟨l2, w1, w2, w3⟩ := ownL_of o1 o2 ho
  have lo : 1 ≤ minLv l2 l ∧ minLv l2 l ≤ 2 := by unfold minLv; split <;> simp
  obtain ⟨f', ρ2, st2, g1, g2⟩ := k _ (h4.set (o := some (.lst (xs.map f ++ [f y]), minLv l2 l)) i (.inr ⟨minLv l2 l, by simp [Lx], .inr (.inr ⟨lo.1, lo.2⟩)⟩))
  refine ⟨f', ρ2, st2, ?_, g2⟩
  simp only [execSs, execS, h1, bind_ok, w1]
  rw [if_pos (by simpa [most] using hl)]
  simp only [bind_ok, g1]
theorem x_set1 {α : Type} {f : α → D} {xs : List α} {y : α} {n : Int} (hi : A[i]? = some (some (Lx f xs, mo))) (ho : 1 ≤ mo ∧ mo ≤ 2) (h : Ev call e (envA A) st (f y) m st1) (hv : (e.vs.all vs.contains) = true) (hz : okFz vs 0 A = true ∨ m = 2) (hx : Ev call x (envF A) st1 (.int n) m1 st2) (hn : inb xs n) (k : Ex call r (A.set i (some (Lx f (xs.set n.toNat y), 1))) st2 Q) : Ex call (.cons (.set1 i x e vs) r) A st Q := fun ρ hs => by
  obtain ⟨l, ρ', h1, h2, h3, h4⟩ := evB h hv hz hs
  obtain ⟨l3, k1, k2, k3⟩ := evF hx h4
  obtain ⟨o, o1, o2⟩ := h4.get hi
  obtain ⟨l2, w1, w2, w3⟩ := ownL_of o1 o2 ho
  have lo : 1 ≤ minLv l2 l ∧ minLv l2 l ≤ 2 := by unfold minLv; split <;> simp
  have ix : L2.ixN (xs.map f).length n = some n.toNat := by
    obtain ⟨n0, n1⟩ := hn
    unfold L2.ixN
    simp only [List.length_map]
    rw [if_pos (by omega), if_pos n1]
  obtain ⟨f', ρ2, st2, g1, g2⟩ := k _ (h4.set (o := some (.lst ((xs.map f).set n.toNat (f y)), minLv l2 l)) i (.inr ⟨minLv l2 l, by simp [Lx, List.map_set], .inr (.inr ⟨lo.1, lo.2⟩)⟩))
  refine ⟨f', ρ2, st2, ?_, g2⟩
  simp only [execSs, execS, h1, k1, bind_ok, w1, ix, g1]
/-! loops -/
theorem forGo_T {α σ β : Type} {AA : σ → List SA} {g : β → D} {f : α → D} {t : Tg} {bd : Ss} {step : σ → α → Ctl σ β} {safe : σ → α → Prop} : ∀ {xs : List α} {s : σ} {ρ : SEnv}, (∀ s i, i ∈ t.slots → ∃ o, (AA s)[i]? = some o ∧ okA o = true) → (∀ x ∈ xs, ∀ s, safe s x → ∃ A1, bindA t (f x) (AA s) = some A1 ∧ Ex call bd A1 st (PCtl AA g mo st (step s x))) → forS safe step xs s → Sat (AA s) ρ →
    ∃ fl ρ', forGo (fun ρ st => execSs call bd ρ st) t (xs.map f) ρ st = .ok (fl, ρ') st ∧ (match forT step xs s with
      | .nx s' => fl = .nx ∧ Sat (AA s') ρ'
      | .brk _ => False
      | .ret b => ∃ l, fl = .ret (g b) l ∧ mo ≤ l ∧ l ≤ 2)
  | [], s, ρ, _, _, _, hs => ⟨.nx, ρ, rfl, rfl, hs⟩
  | x :: xs, s, ρ, hi, H, hf, hs => by
    obtain ⟨A1, b1, b2⟩ := H x List.mem_cons_self s hf.1
    obtain ⟨ρ1, c1, c2⟩ := bindA_ok (l := (lv0 (f x)).2) b1 hs (hi s) (lv0_le _)
    obtain ⟨fl, ρ2, st2, d1, d2⟩ := b2 ρ1 c2
    have hf2 := hf.2
    have c1' : t.bindS (lv0 (f x)) ρ = some ρ1 := c1
    have e1 : st2 = st := by
      cases hst : step s x with
      | nx s' => rw [hst] at d2; exact d2.1
      | brk s' => rw [hst] at d2; exact d2.1
      | ret b => rw [hst] at d2; exact d2.1
    rw [e1] at d1 d2
    simp only [List.map_cons, forGo, c1', d1, bind_ok]
    simp only [forT]
    cases hst : step s x with
    | nx s' =>
      rw [hst] at d2 hf2
      obtain ⟨_, e2, e3⟩ := d2
      obtain ⟨fl2, ρ3, k1, k2⟩ := forGo_T (xs := xs) hi (fun y hy => H y (List.mem_cons_of_mem _ hy)) hf2 e3
      rcases e2 with rfl | rfl
      · exact ⟨fl2, ρ3, k1, k2⟩
      · exact ⟨fl2, ρ3, k1, k2⟩
    | brk s' =>
      rw [hst] at d2
      obtain ⟨_, rfl, e3⟩ := d2
      exact ⟨.nx, ρ2, rfl, rfl, e3⟩
    | ret b =>
      rw [hst] at d2
      obtain ⟨_, l, rfl, e3, e4⟩ := d2
      exact ⟨_, ρ2, rfl, l, rfl, e3, e4⟩
theorem x_for {α σ β γ : Type} {AA : σ → List SA} {g : β → D} {f : α → D} {t : Tg} {bd : Ss} {step : σ → α → Ctl σ β} {safe : σ → α → Prop} {xs : List α} {s0 : σ} {sr : Sr} {Q : γ → Fl → SEnv → Sto → Prop} {k : σ → γ} {rr : β → γ}
    (hs : EvSr call sr (envA A) st (xs.map f) st) (hv : (sr.vs.all vs.contains) = true) (w : WkA A (AA s0)) (hz : okFz vs 0 (AA s0) = true) (hi : ∀ s i, i ∈ t.slots → ∃ o, (AA s)[i]? = some o ∧ okA o = true)
    (hb : ∀ x ∈ xs, ∀ s, safe s x → ∃ A1, bindA t (f x) (AA s) = some A1 ∧ Ex call bd A1 st (PCtl AA g mo st (step s x))) (sf : forS safe step xs s0)
    (k1 : ∀ s, forT step xs s0 = .nx s → Ex call r (AA s) st (Q (k s))) (k2 : ∀ b l ρ, forT step xs s0 = .ret b → mo ≤ l → l ≤ 2 → Q (rr b) (.ret (g b) l) ρ st) : Ex call (.cons (.for_ t sr vs bd) r) A st (Q ((forT step xs s0).run k rr)) := fun ρ hsat => by
  obtain ⟨fl, ρ', h1, h2⟩ := forGo_T (mo := mo) hi hb sf ((w.sat hsat).fz hz)
  have h0 := evR hs hv hsat
  cases hT : forT step xs s0 with
  | nx s =>
    rw [hT] at h2
    obtain ⟨rfl, h2⟩ := h2
    obtain ⟨f', ρ2, st2, g1, g2⟩ := k1 s hT ρ' h2
    exact ⟨f', ρ2, st2, by simp only [execSs, execS, h0, bind_ok, h1, g1], g2⟩
  | brk s =>
    rw [hT] at h2
    exact h2.elim
  | ret b =>
    rw [hT] at h2
    obtain ⟨l, rfl, e1, e2⟩ := h2
    exact ⟨_, ρ', st, by simp only [execSs, execS, h0, bind_ok, h1], k2 b l ρ' hT e1 e2⟩
theorem forT_nx {α σ : Type} {step : σ → α → σ} : ∀ {xs : List α} {s : σ}, forT (β := Empty) (fun s x => .nx (step s x)) xs s = .nx (xs.foldl step s)
  | [], s => rfl
  | x :: xs, s => by simp only [forT, List.foldl_cons]; exact forT_nx
theorem forS_fold {α σ : Type} {step : σ → α → σ} {safe : σ → α → Prop} : ∀ {xs : List α} {s : σ}, foldS safe step xs s → forS (β := Empty) safe (fun s x => .nx (step s x)) xs s
  | [], s, _ => trivial
  | x :: xs, s, h => ⟨h.1, forS_fold h.2⟩
theorem x_fold {α σ : Type} {AA : σ → List SA} {f : α → D} {t : Tg} {bd : Ss} {step : σ → α → σ} {safe : σ → α → Prop} {xs : List α} {s0 : σ} {sr : Sr}
    (hs : EvSr call sr (envA A) st (xs.map f) st) (hv : (sr.vs.all vs.contains) = true) (w : WkA A (AA s0)) (hz : okFz vs 0 (AA s0) = true) (hi : ∀ s i, i ∈ t.slots → ∃ o, (AA s)[i]? = some o ∧ okA o = true)
    (hb : ∀ x ∈ xs, ∀ s, safe s x → ∃ A1, bindA t (f x) (AA s) = some A1 ∧ Ex call bd A1 st (PNx AA st (step s x))) (sf : foldS safe step xs s0)
    (k1 : Ex call r (AA (xs.foldl step s0)) st Q) : Ex call (.cons (.for_ t sr vs bd) r) A st Q := by
  have := x_for (call := call) (A := A) (st := st) (vs := vs) (r := r) (mo := 0) (γ := Unit) (Q := fun _ => Q) (k := fun _ => ()) (rr := fun _ => ()) (g := fun (z : Empty) => nomatch z) (step := fun s x => .nx (step s x)) (safe := safe) (s0 := s0) (AA := AA) (bd := bd) (t := t) (f := f) (xs := xs) hs hv w hz hi (fun x hx s sf => hb x hx s sf) (forS_fold sf)
    (fun s e => by rw [forT_nx] at e; cases e; exact k1) (fun b => nomatch b)
  exact this
/-! defs -/
def startA (nl : Nat) (xs : List D) : List SA := (xs.map fun d => some (d, 0)) ++ List.replicate (nl - xs.length) none
theorem sat_none : ∀ n : Nat, Sat (List.replicate n none) (List.replicate n none)
  | 0 => trivial
  | n + 1 => ⟨loose_none, sat_none n⟩
theorem sat_start : ∀ (xs : List D) (n : Nat), Sat ((xs.map fun d => some (d, 0)) ++ List.replicate n none) ((xs.map fun d => some (lv0 d)) ++ List.replicate n none)
  | [], n => sat_none n
  | x :: xs, n => ⟨SOk.mk (Nat.zero_le _) (lv0_le x), sat_start xs n⟩
theorem rn_mk {τ : Type} {T : List Fn} {k f np nl : Nat} {bd : Ss} {xs : List D} {g : τ → D} {v : τ} (hT : T[f]? = some ⟨np, nl, bd⟩) (hl : xs.length = np) (h : Ex (run T k) bd (startA nl xs) st (PFn g m st v)) : Cl (run T (k + 1)) f xs st (g v) m st := by
  have s0 := sat_start xs (nl - np)
  rw [← hl] at s0
  obtain ⟨fl, ρ', st', h1, rfl, h2⟩ := h _ s0
  have e : startS ⟨np, nl, bd⟩ xs = (xs.map fun d => some (lv0 d)) ++ List.replicate (nl - xs.length) none := by simp only [startS, hl]
  rcases h2 with ⟨l, rfl, h3, h4⟩ | ⟨rfl, h3, h4⟩
  · exact ⟨l, run_of hT hl (by rw [e]; exact h1), h3, h4⟩
  · rw [h3]
    exact ⟨2, run_nx hT hl (by rw [e]; exact h1), h4, Nat.le_refl _⟩
theorem Cl.of {call : Nat → List D → Sto → R DL} {f : Nat} {xs : List D} {l : Nat} (h : call f xs st = .ok (d, l) st1) (hm : m ≤ l) (hl : l ≤ 2) : Cl call f xs st d m st1 := ⟨l, h, hm, hl⟩
end
end IX
/-! JD: equality of plain values; loops' safety. Own work. -/
namespace IX
open PySem

structure EqE {α : Type} [BEq α] (f : α → D) (n : Nat) where
  p : α → PyData
  py : ∀ x, (f x).py = some (p x)
  lay : ∀ x, (p x).canLay0 = true
  dep : ∀ x, (p x).depth ≤ n
  eqv : ∀ x y, PyData.eqv (p x) (p y) = (x == y)
def EqE.int : EqE D.int 0 where
  p := .int
  py := fun x => rfl
  lay := fun x => by simp [PyData.canLay0]
  dep := fun x => by simp [PyData.depth]
  eqv := fun x y => by simp [PyData.eqv]
def EqE.bl : EqE D.bl 0 where
  p := .bool
  py := fun x => rfl
  lay := fun x => by simp [PyData.canLay0]
  dep := fun x => by simp [PyData.depth]
  eqv := fun x y => by simp [PyData.eqv]
section
variable {α β : Type} [BEq α] [BEq β] {f : α → D} {g : β → D} {n m : Nat}
theorem EqE.pyL (h : EqE f n) : ∀ xs : List α, D.pyL (xs.map f) = some (xs.map h.p)
  | [] => rfl
  | x :: xs => by simp [D.pyL, h.py, EqE.pyL h xs]
theorem EqE.layL (h : EqE f n) : ∀ xs : List α, PyData.canLayAll0 (xs.map h.p) = true
  | [] => by simp [PyData.canLayAll0]
  | x :: xs => by simp [PyData.canLayAll0, h.lay, EqE.layL h xs]
theorem EqE.depL (h : EqE f n) : ∀ xs : List α, PyData.depthAll (xs.map h.p) ≤ n
  | [] => by simp [PyData.depthAll]
  | x :: xs => by
    have h1 := h.dep x
    have h2 := EqE.depL h xs
    simp only [List.map_cons, PyData.depthAll]
    omega
theorem EqE.eqvL (h : EqE f n) : ∀ xs ys : List α, PyData.eqvAll (xs.map h.p) (ys.map h.p) = (xs == ys)
  | [], [] => by simp [PyData.eqvAll]
  | x :: xs, y :: ys => by simp [PyData.eqvAll, h.eqv, EqE.eqvL h xs ys, List.cons_beq_cons]
  | [], y :: ys => by simp [PyData.eqvAll]
  | x :: xs, [] => by simp [PyData.eqvAll]
def EqE.lst (h : EqE f n) : EqE (Lx f) (n + 1) where
  p := fun xs => .list (xs.map h.p)
  py := fun xs => by simp [Lx, D.py, h.pyL]
  lay := fun xs => by simp [PyData.canLay0, h.layL]
  dep := fun xs => by
    have := h.depL xs
    simp only [PyData.depth]
    omega
  eqv := fun xs ys => by simp only [PyData.eqv, h.eqvL]
def EqE.tup2 (h : EqE f n) (k : EqE g n) : EqE (Tx2 f g) (n + 1) where
  p := fun x => .tuple [h.p x.1, k.p x.2]
  py := fun x => by simp [Tx2, D.py, D.pyL, h.py, k.py]
  lay := fun x => by simp [PyData.canLay0, PyData.canLayAll0, h.lay, k.lay]
  dep := fun x => by
    have h1 := h.dep x.1
    have h2 := k.dep x.2
    simp only [PyData.depth, PyData.depthAll]
    omega
  eqv := fun x y => by
    obtain ⟨a, b⟩ := x
    obtain ⟨c, d⟩ := y
    simp [PyData.eqv, PyData.eqvAll, h.eqv, k.eqv]
    rfl
theorem EqE.shp (h : EqE f n) (hn : n ≤ 64) (x : α) : SeqAt.shaped (h.p x) = true := by
  have := h.dep x
  simp only [SeqAt.shaped, h.lay, Bool.true_and, decide_eq_true_eq]
  omega
theorem EqE.eqOf (h : EqE f n) (hn : n ≤ 64) : EqOf f := fun x y => by
  rw [eqD_of (h.py x) (h.py y) (h.shp hn x) (h.shp hn y), h.eqv]
theorem EqE.nil (h : EqE f n) (hn : n ≤ 63) (xs : List α) : eqD (Lx f xs) (.lst []) = some xs.isEmpty := by
  have : eqD (Lx f xs) (Lx f []) = some (xs == []) := h.lst.eqOf (by omega) xs []
  rw [show D.lst [] = Lx f ([] : List α) from rfl, this]
  cases xs <;> rfl
theorem EqE.inL (h : EqE f n) (hn : n ≤ 63) [LawfulBEq α] (x : α) (xs : List α) : inD (f x) (Lx f xs) = some (xs.elem x) := by
  have h1 := h.shp (by omega) x
  have h2 := h.lst.shp (by omega) xs
  have e : (h.lst).p xs = .list (xs.map h.p) := rfl
  rw [e] at h2
  simp only [inD, Lx, h.py, h.pyL, h1, h2, Bool.and_self, if_true]
  congr 1
  induction xs with
  | nil => rfl
  | cons y ys ih =>
    have h2' : SeqAt.shaped (.list (ys.map h.p)) = true := h.lst.shp (by omega) ys
    rw [List.map_cons, List.any_cons, ih h2' rfl, h.eqv, List.elem_cons]
    by_cases q : y = x
    · subst q; simp
    · have q' : ¬ x = y := fun z => q z.symm
      have e1 : (y == x) = false := by simpa using q
      have e2 : (x == y) = false := by simpa using q'
      simp [e1, e2]
end
/-! slots -/
theorem wk_e : WkA [] [] := trivial
theorem wk_n {a : SA} {A B : List SA} (ok : okA a = true) (h : WkA A B) : WkA (a :: A) (none :: B) := ⟨.inl ⟨rfl, ok⟩, h⟩
theorem wk_a {a : SA} {d : D} {A B : List SA} (h : WkA A B) : WkA (a :: A) (some (d, 4) :: B) := ⟨.inr (.inr ⟨d, rfl⟩), h⟩
theorem wk_s {d : D} {m m' : Nat} {A B : List SA} (hm : m' = m ∨ m' ≤ m ∧ m ≤ 2) (h : WkA A B) : WkA (some (d, m) :: A) (some (d, m') :: B) := ⟨.inr (.inl ⟨d, m, m', rfl, rfl, hm⟩), h⟩
/-! loops -/
section
variable {α σ β : Type}
def Ctl.all (c : Ctl σ β) (P : σ → Prop) : Prop := match c with
  | .nx s => P s
  | _ => True
theorem Ctl.all_nx {c : Ctl σ β} {P : σ → Prop} {s : σ} (h : c.all P) (e : c = .nx s) : P s := by
  subst e
  exact h
theorem foldS_all {safe : σ → α → Prop} {step : σ → α → σ} : ∀ {xs : List α} {s : σ}, (∀ x ∈ xs, ∀ s, safe s x) → foldS safe step xs s
  | [], _, _ => trivial
  | x :: xs, s, h => ⟨h x List.mem_cons_self s, foldS_all fun y hy => h y (List.mem_cons_of_mem _ hy)⟩
theorem foldS_inv {safe : σ → α → Prop} {step : σ → α → σ} (I : List α → σ → Prop) : ∀ {xs : List α} {s : σ}, I xs s → (∀ x r s, I (x :: r) s → safe s x ∧ I r (step s x)) → foldS safe step xs s
  | [], _, _, _ => trivial
  | x :: xs, s, h, H => ⟨(H x xs s h).1, foldS_inv I (H x xs s h).2 H⟩
theorem forS_all {safe : σ → α → Prop} {step : σ → α → Ctl σ β} : ∀ {xs : List α} {s : σ}, (∀ x ∈ xs, ∀ s, safe s x) → forS safe step xs s
  | [], _, _ => trivial
  | x :: xs, s, h => ⟨h x List.mem_cons_self s, by
    split
    · exact forS_all fun y hy => h y (List.mem_cons_of_mem _ hy)
    · trivial⟩
theorem forS_inv {safe : σ → α → Prop} {step : σ → α → Ctl σ β} (I : List α → σ → Prop) : ∀ {xs : List α} {s : σ}, I xs s → (∀ x r s, I (x :: r) s → safe s x ∧ ∀ s', step s x = .nx s' → I r s') → forS safe step xs s
  | [], _, _, _ => trivial
  | x :: xs, s, h, H => ⟨(H x xs s h).1, by
    split
    · rename_i s' e
      exact forS_inv I ((H x xs s h).2 s' e) H
    · trivial⟩
end
end IX
namespace IX
open PySem
section
variable {call : Nat → List D → Sto → R DL} {η : Env} {A A1 A2 : List SA} {ρ : SEnv} {vs : List Nat} {st st1 st2 st3 : Sto} {e a b c x : E} {d d1 d2 : D} {m m1 m2 mo : Nat} {i j : Nat} {p q r : Ss} {Q : Fl → SEnv → Sto → Prop} {es : Es}
/-! typed displays -/
theorem vx_n {α : Type} {f : α → D} : EvL call .nil η st (([] : List α).map f) 2 st := vl_n
theorem vx_c {α : Type} {f : α → D} {y : α} {ys : List α} (h : Ev call e η st (f y) m st1) (hs : EvL call es η st1 (ys.map f) m1 st2) : EvL call (.cons e es) η st ((y :: ys).map f) 0 st2 := vl_c h hs
theorem vx_c2 {α : Type} {f : α → D} {y : α} {ys : List α} (h : Ev call e η st (f y) 2 st1) (hs : EvL call es η st1 (ys.map f) 2 st2) : EvL call (.cons e es) η st ((y :: ys).map f) 2 st2 := vl_c2 h hs
theorem v_ls {α : Type} {f : α → D} {ys : List α} (h : EvL call es η st (ys.map f) m st1) : Ev call (.lst es) η st (Lx f ys) 1 st1 := v_lst h
theorem v_ls2 {α : Type} {f : α → D} {ys : List α} (h : EvL call es η st (ys.map f) 2 st1) : Ev call (.lst es) η st (Lx f ys) 2 st1 := v_lst2 h
theorem v_tp2 {α β : Type} {f : α → D} {g : β → D} {y : α} {z : β} (h : Ev call a η st (f y) m st1) (k : Ev call b η st1 (g z) m1 st2) : Ev call (.tup (.cons a (.cons b .nil))) η st (Tx2 f g (y, z)) 0 st2 := v_tup (vl_c h (vl_c k vl_n))
theorem v_tp3 {α β γ : Type} {f : α → D} {g : β → D} {g3 : γ → D} {y : α} {z : β} {w : γ} (h : Ev call a η st (f y) m st1) (k : Ev call b η st1 (g z) m1 st2) (k3 : Ev call c η st2 (g3 w) m2 st3) : Ev call (.tup (.cons a (.cons b (.cons c .nil)))) η st (Tx3 f g g3 (y, z, w)) 0 st3 := v_tup (vl_c h (vl_c k (vl_c k3 vl_n)))
theorem v_some {α : Type} {f : α → D} {y : α} (h : Ev call e η st (f y) m st1) : Ev call e η st (Ox f (some y)) m st1 := h
theorem v_none {α : Type} {f : α → D} (h : Ev call e η st .non m st1) : Ev call e η st (Ox f none) m st1 := h
theorem v_mulL {α : Type} {f : α → D} {xs : List α} {y : Int} (h : Ev call a η st (Lx f xs) m st1) (g : Ev call b η st1 (.int y) m1 st2) (ok : 0 ≤ y ∧ xs.length * y.toNat ≤ 100000 ∧ y ≤ 100000) : Ev call (.bin .mul a b) η st (Lx f (List.replicate y.toNat xs).flatten) 1 st2 := by
  obtain ⟨l, h1, h2, h3⟩ := h
  obtain ⟨l2, g1, g2, g3⟩ := g
  have ok' : 0 ≤ y ∧ (xs.map f).length * y.toNat ≤ most ∧ y ≤ most := by
    rw [List.length_map]
    exact ok
  have q : binD .mul (D.lst (xs.map f), l) (D.int y, l2) = some (Lx f (List.replicate y.toNat xs).flatten, if D.flatL (xs.map f) then 2 else 1) := by
    simp only [binD, mulD, if_pos ok', Lx, List.map_flatten, List.map_replicate]
  refine ⟨_, by simp only [evalE, h1, g1, bind_ok]; exact congrArg (R.of · st2) q, ?_, ?_⟩ <;> split <;> simp
def okI (A : List SA) (i : Nat) : Bool := match A[i]? with
  | some o => okA o
  | none => false
theorem slots_ok {t : Tg} (h : (t.slots.all (okI A)) = true) : ∀ i ∈ t.slots, ∃ o, A[i]? = some o ∧ okA o = true := fun i hi => by
  have := List.all_eq_true.mp h i hi
  unfold okI at this
  split at this
  · exact ⟨_, by assumption, this⟩
  · cases this
/-! tuples -/
theorem v_21 {α β : Type} {f : α → D} {g : β → D} {y : α × β} (h : Ev call a η st (Tx2 f g y) m st1) : Ev call (.ix a (.con (.int 0))) η st (f y.1) 0 st1 := v_ixT h (v_con rfl) rfl
theorem v_22 {α β : Type} {f : α → D} {g : β → D} {y : α × β} (h : Ev call a η st (Tx2 f g y) m st1) : Ev call (.ix a (.con (.int 1))) η st (g y.2) 0 st1 := v_ixT h (v_con rfl) rfl
theorem v_31 {α β γ : Type} {f : α → D} {g : β → D} {g3 : γ → D} {y : α × β × γ} (h : Ev call a η st (Tx3 f g g3 y) m st1) : Ev call (.ix a (.con (.int 0))) η st (f y.1) 0 st1 := v_ixT h (v_con rfl) rfl
theorem v_32 {α β γ : Type} {f : α → D} {g : β → D} {g3 : γ → D} {y : α × β × γ} (h : Ev call a η st (Tx3 f g g3 y) m st1) : Ev call (.ix a (.con (.int 1))) η st (g y.2.1) 0 st1 := v_ixT h (v_con rfl) rfl
theorem v_33 {α β γ : Type} {f : α → D} {g : β → D} {g3 : γ → D} {y : α × β × γ} (h : Ev call a η st (Tx3 f g g3 y) m st1) : Ev call (.ix a (.con (.int 2))) η st (g3 y.2.2) 0 st1 := v_ixT h (v_con rfl) rfl
theorem v_21F {α β : Type} {f : α → D} {g : β → D} {y : α × β} (h : Ev call a η st (Tx2 f g y) m st1) (hf : ∀ z, (f z).flat = true) : Ev call (.ix a (.con (.int 0))) η st (f y.1) 2 st1 := v_ixTF h (v_con rfl) rfl (hf _)
theorem v_22F {α β : Type} {f : α → D} {g : β → D} {y : α × β} (h : Ev call a η st (Tx2 f g y) m st1) (hf : ∀ z, (g z).flat = true) : Ev call (.ix a (.con (.int 1))) η st (g y.2) 2 st1 := v_ixTF h (v_con rfl) rfl (hf _)
theorem v_31F {α β γ : Type} {f : α → D} {g : β → D} {g3 : γ → D} {y : α × β × γ} (h : Ev call a η st (Tx3 f g g3 y) m st1) (hf : ∀ z, (f z).flat = true) : Ev call (.ix a (.con (.int 0))) η st (f y.1) 2 st1 := v_ixTF h (v_con rfl) rfl (hf _)
theorem v_32F {α β γ : Type} {f : α → D} {g : β → D} {g3 : γ → D} {y : α × β × γ} (h : Ev call a η st (Tx3 f g g3 y) m st1) (hf : ∀ z, (g z).flat = true) : Ev call (.ix a (.con (.int 1))) η st (g y.2.1) 2 st1 := v_ixTF h (v_con rfl) rfl (hf _)
theorem v_33F {α β γ : Type} {f : α → D} {g : β → D} {g3 : γ → D} {y : α × β × γ} (h : Ev call a η st (Tx3 f g g3 y) m st1) (hf : ∀ z, (g3 z).flat = true) : Ev call (.ix a (.con (.int 2))) η st (g3 y.2.2) 2 st1 := v_ixTF h (v_con rfl) rfl (hf _)
/-! the slots as a list that is written out -/
inductive SetA (x : SA) : List SA → Nat → List SA → Prop where
  | z {a : SA} {A : List SA} (ok : okA a = true) : SetA x (a :: A) 0 (x :: A)
  | s {a : SA} {A B : List SA} {i : Nat} : SetA x A i B → SetA x (a :: A) (i + 1) (a :: B)
theorem SetA.eq {x : SA} {A B : List SA} {i : Nat} (h : SetA x A i B) : B = A.set i x ∧ ∃ o, A[i]? = some o ∧ okA o = true := by
  induction h with
  | z ok => exact ⟨rfl, _, rfl, ok⟩
  | s h ih => exact ⟨by simp [ih.1], by simp; exact ih.2⟩
inductive BindA : Tg → D → List SA → List SA → Prop where
  | nm {i : Nat} {d : D} {A B : List SA} : SetA (some (d, 0)) A i B → BindA (.nm i) d A B
  | tp2 {i j : Nat} {x y : D} {A B C : List SA} (hij : i ≠ j) : SetA (some (x, 0)) A i B → SetA (some (y, 0)) B j C → BindA (.tp [.nm i, .nm j]) (.tup [x, y]) A C
  | tp3 {i j k : Nat} {x y z : D} {A B C E : List SA} (hij : i ≠ j ∧ i ≠ k ∧ j ≠ k) : SetA (some (x, 0)) A i B → SetA (some (y, 0)) B j C → SetA (some (z, 0)) C k E → BindA (.tp [.nm i, .nm j, .nm k]) (.tup [x, y, z]) A E
theorem BindA.eq {t : Tg} {d : D} {A B : List SA} (h : BindA t d A B) : bindA t d A = some B ∧ ∀ i ∈ t.slots, ∃ o, A[i]? = some o ∧ okA o = true := by
  cases h with
  | nm h =>
    obtain ⟨rfl, o⟩ := h.eq
    refine ⟨rfl, fun i hi => ?_⟩
    simp [Tg.slots] at hi
    subst hi
    exact o
  | tp2 hij h g =>
    obtain ⟨rfl, o⟩ := h.eq
    obtain ⟨rfl, o2⟩ := g.eq
    rw [List.getElem?_set_ne hij] at o2
    refine ⟨rfl, fun i hi => ?_⟩
    simp [Tg.slots, Tg.slotsL] at hi
    rcases hi with rfl | rfl
    · exact o
    · exact o2
  | tp3 hij h g k =>
    obtain ⟨rfl, o⟩ := h.eq
    obtain ⟨rfl, o2⟩ := g.eq
    obtain ⟨rfl, o3⟩ := k.eq
    rw [List.getElem?_set_ne hij.1] at o2
    rw [List.getElem?_set_ne hij.2.2, List.getElem?_set_ne hij.2.1] at o3
    refine ⟨rfl, fun i hi => ?_⟩
    simp [Tg.slots, Tg.slotsL] at hi
    rcases hi with rfl | rfl | rfl
    · exact o
    · exact o2
    · exact o3
inductive FunA (σ : Type) : List SA → (σ → List SA) → Prop where
  | nil : FunA σ [] (fun _ => [])
  | keep {a : SA} {A : List SA} {AA : σ → List SA} : FunA σ A AA → FunA σ (a :: A) (fun s => a :: AA s)
  | put {a : SA} {A : List SA} {AA : σ → List SA} (f : σ → SA) : FunA σ A AA → FunA σ (a :: A) (fun s => f s :: AA s)
inductive StA : Nat → List D → List SA → Prop where
  | nil : StA 0 [] []
  | none {n : Nat} {A : List SA} : StA n [] A → StA (n + 1) [] (none :: A)
  | cons {n : Nat} {x : D} {xs : List D} {A : List SA} : StA n xs A → StA (n + 1) (x :: xs) (some (x, 0) :: A)
theorem StA.eq {n : Nat} {xs : List D} {A : List SA} (h : StA n xs A) : startA n xs = A := by
  induction h with
  | nil => rfl
  | none h ih =>
    rw [← ih]
    simp [startA, List.replicate_succ]
  | cons h ih =>
    rw [← ih]
    simp [startA]
theorem y_fn {τ : Type} {T : List Fn} {k f np nl : Nat} {bd : Ss} {xs : List D} {g : τ → D} {v : τ} (hT : T[f]? = some ⟨np, nl, bd⟩) (hl : xs.length = np) (hA : StA nl xs A) (h : Ex (run T k) bd A st (PFn g m st v)) : Cl (run T (k + 1)) f xs st (g v) m st :=
  rn_mk hT hl (by rw [hA.eq]; exact h)
theorem y_asg (h : Ev call e (envA A) st d m st1) (hv : (e.vs.all vs.contains) = true) (hz : okFz vs 0 A = true ∨ m = 2) (hs : SetA (some (d, mo)) A i A1) (hm : mo ≤ m) (k : Ex call r A1 st1 Q) : Ex call (.cons (.asg i e vs) r) A st Q := by
  obtain ⟨rfl, o, hl⟩ := hs.eq
  exact x_asg h hv hz hl hm k
theorem y_asgT {t : Tg} (h : Ev call e (envA A) st d m st1) (hv : (e.vs.all vs.contains) = true) (hz : okFz vs 0 A = true ∨ m = 2) (hb : BindA t d A A1) (k : Ex call r A1 st1 Q) : Ex call (.cons (.asgT t e vs) r) A st Q :=
  x_asgT h hv hz hb.eq.1 hb.eq.2 k
theorem y_par {m' m1' : Nat} (h : Ev call a (envA A) st d m st1) (g : Ev call b (envA A) st1 d1 m1 st2) (hva : (a.vs.all vs.contains) = true) (hvb : (b.vs.all vs.contains) = true) (hz : okFz vs 0 A = true ∨ (m = 2 ∧ m1 = 2)) (hs : SetA (some (d, m')) A i A1) (hs2 : SetA (some (d1, m1')) A1 j A2) (hij : i ≠ j) (hm : m' ≤ m) (hm1 : m1' ≤ m1)
    (k : Ex call r A2 st2 Q) : Ex call (.cons (.par i j a b vs) r) A st Q := by
  obtain ⟨rfl, o, hl⟩ := hs.eq
  obtain ⟨rfl, o2, hl2⟩ := hs2.eq
  rw [List.getElem?_set_ne hij] at hl2
  exact x_par h g hva hvb hz hl hl2 hij hm hm1 k
theorem y_app {α : Type} {f : α → D} {xs : List α} {y : α} (hi : A[i]? = some (some (Lx f xs, mo))) (ho : 1 ≤ mo ∧ mo ≤ 2) (h : Ev call e (envA A) st (f y) m st1) (hv : (e.vs.all vs.contains) = true) (hz : okFz vs 0 A = true ∨ m = 2) (hl : xs.length < 100000) (hs : SetA (some (Lx f (xs ++ [y]), 1)) A i A1) (k : Ex call r A1 st1 Q) : Ex call (.cons (.app i e vs) r) A st Q := by
  obtain ⟨rfl, _⟩ := hs.eq
  exact x_app hi ho h hv hz hl k
theorem y_set1 {α : Type} {f : α → D} {xs : List α} {y : α} {n : Int} (hi : A[i]? = some (some (Lx f xs, mo))) (ho : 1 ≤ mo ∧ mo ≤ 2) (h : Ev call e (envA A) st (f y) m st1) (hv : (e.vs.all vs.contains) = true) (hz : okFz vs 0 A = true ∨ m = 2) (hx : Ev call x (envF A) st1 (.int n) m1 st2) (hn : inb xs n) (hs : SetA (some (Lx f (xs.set n.toNat y), 1)) A i A1) (k : Ex call r A1 st2 Q) : Ex call (.cons (.set1 i x e vs) r) A st Q := by
  obtain ⟨rfl, _⟩ := hs.eq
  exact x_set1 hi ho h hv hz hx hn k
theorem y_fold {α σ : Type} {AA : σ → List SA} (fa : FunA σ A AA) {f : α → D} {t : Tg} {bd : Ss} {step : σ → α → σ} {safe : σ → α → Prop} {xs : List α} {s0 : σ} {sr : Sr}
    (sf : foldS safe step xs s0) (hs : EvSr call sr (envA A) st (xs.map f) st) (hv : (sr.vs.all vs.contains) = true) (w : WkA A (AA s0)) (hz : okFz vs 0 (AA s0) = true)
    (hb : ∀ x ∈ xs, ∀ s, safe s x → ∃ A1, BindA t (f x) (AA s) A1 ∧ Ex call bd A1 st (PNx AA st (step s x))) (hi : ∀ s, (t.slots.all (okI (AA s))) = true)
    (k1 : Ex call r (AA (xs.foldl step s0)) st Q) : Ex call (.cons (.for_ t sr vs bd) r) A st Q :=
  x_fold (AA := AA) hs hv w hz (fun s => slots_ok (hi s)) (fun x hx s sf => by
    obtain ⟨A1, h1, h2⟩ := hb x hx s sf
    exact ⟨A1, h1.eq.1, h2⟩) sf k1
theorem y_for {α σ β γ : Type} {AA : σ → List SA} (fa : FunA σ A AA) {g : β → D} {f : α → D} {t : Tg} {bd : Ss} {step : σ → α → Ctl σ β} {safe : σ → α → Prop} {xs : List α} {s0 : σ} {sr : Sr} {Q : γ → Fl → SEnv → Sto → Prop} {k : σ → γ} {rr : β → γ}
    (sf : forS safe step xs s0) (hs : EvSr call sr (envA A) st (xs.map f) st) (hv : (sr.vs.all vs.contains) = true) (w : WkA A (AA s0)) (hz : okFz vs 0 (AA s0) = true)
    (hb : ∀ x ∈ xs, ∀ s, safe s x → ∃ A1, BindA t (f x) (AA s) A1 ∧ Ex call bd A1 st (PCtl AA g mo st (step s x))) (hi : ∀ s, (t.slots.all (okI (AA s))) = true)
    (k1 : ∀ s, forT step xs s0 = .nx s → Ex call r (AA s) st (Q (k s))) (k2 : ∀ b l ρ, forT step xs s0 = .ret b → mo ≤ l → l ≤ 2 → Q (rr b) (.ret (g b) l) ρ st) : Ex call (.cons (.for_ t sr vs bd) r) A st (Q ((forT step xs s0).run k rr)) :=
  x_for (AA := AA) hs hv w hz (fun s => slots_ok (hi s)) (fun x hx s sf => by
    obtain ⟨A1, h1, h2⟩ := hb x hx s sf
    exact ⟨A1, h1.eq.1, h2⟩) sf k1 k2
theorem foldS_true {α σ : Type} {step : σ → α → σ} {xs : List α} {s0 : σ} : foldS (fun _ _ => True) step xs s0 := foldS_all fun _ _ _ => trivial
theorem forS_true {α σ β : Type} {step : σ → α → Ctl σ β} {xs : List α} {s0 : σ} : forS (fun _ _ => True) step xs s0 := forS_all fun _ _ _ => trivial
theorem ret_fn {τ : Type} {g : τ → D} {v : τ} {l : Nat} (h1 : mo ≤ l) (h2 : l ≤ 2) : PFn g mo st v (.ret (g v) l) ρ st := ⟨rfl, .inl ⟨l, rfl, h1, h2⟩⟩
theorem ret_ctl {σ τ : Type} {AA : σ → List SA} {g : τ → D} {v : τ} {l : Nat} (h1 : mo ≤ l) (h2 : l ≤ 2) : PCtl AA g mo st (.ret v) (.ret (g v) l) ρ st := ⟨rfl, l, rfl, h1, h2⟩
end
end IX
/-! JE: values of any kind; _law_same of a value and itself. Own work. -/
namespace IX
open PySem

def tyB (t : Ty) (d : D) : Bool := (isTyD t d).getD false
theorem tyB_ok {d : D} (h : tyOk d = true) (t : Ty) : isTyD t d = some (tyB t d) := by
  unfold tyB
  cases t <;> cases d <;> first | rfl | cases h
def tysB (ts : List Ty) (d : D) : Bool := ts.any fun t => tyB t d
theorem tys_ok {d : D} (h : tyOk d = true) : ∀ ts : List Ty, (ts.foldr (fun t r => match isTyD t d, r with
      | some b, some c => some (b || c)
      | _, _ => none) (some false)) = some (tysB ts d)
  | [] => rfl
  | t :: ts => by
    rw [List.foldr_cons, tys_ok h ts, tyB_ok h]
    rfl
def toI : D → Int
  | .int i => i
  | _ => 0
def toL : D → List D
  | .lst xs => xs
  | _ => []
def toLI (d : D) : List Int := (toL d).map toI
def toLLI (d : D) : List (List Int) := (toL d).map toLI
section
variable {call : Nat → List D → Sto → R DL} {η : Env} {st st1 st2 : Sto} {a b c e : E} {d : D} {m m1 m2 : Nat}
theorem v_toX {α : Type} {f : α → D} {y : α} (h : Ev call a η st d m st1) (ok : d = f y) : Ev call a η st (f y) m st1 := ok ▸ h
theorem v_isiD {ts : List Ty} (h : Ev call a η st d m st1) (ok : tyOk d = true) : Ev call (.isi a ts) η st (.bl (tysB ts d)) 2 st1 := v_isi h (tys_ok ok ts)
theorem v_toI (h : Ev call a η st d m st1) (ok : d = .int (toI d)) : Ev call a η st (.int (toI d)) m st1 := ok ▸ h
theorem v_toL (h : Ev call a η st d m st1) (ok : d = Lx id (toL d)) : Ev call a η st (Lx id (toL d)) m st1 := ok ▸ h
theorem v_eqND {xs : List D} (ok : eqD (Lx id xs) (.lst []) = some xs.isEmpty) (h : Ev call a η st (Lx id xs) m st1) : Ev call (.cmp .eq a (.lst .nil)) η st (.bl xs.isEmpty) 2 st1 := v_eqN ok h
/-- the tuple's items gone over, lists of tuples' items and so on, by length -/
theorem v_lenT {ds : List D} (h : Ev call a η st (.tup ds) m st1) : Ev call (.bi .len (.cons a .nil)) η st (.int ds.length) 2 st1 := v_bi1 h fun l => by simp [biD, lenD, items]
end
/-! ### _law_same -/
mutual
def sameOk : D → Bool
  | .non => true | .bl _ => true | .int _ => true
  | .str x => PyData.strOk x
  | .lst xs => decide (xs.length ≤ 100000) && sameOkL xs
  | .tup xs => decide (xs.length ≤ 100000) && sameOkL xs
  | _ => false
def sameOkL : List D → Bool
  | [] => true
  | x :: xs => sameOk x && sameOkL xs
end
mutual
def sameD : D → Nat
  | .lst xs => sameDL xs + 1
  | .tup xs => sameDL xs + 1
  | _ => 1
def sameDL : List D → Nat
  | [] => 0
  | x :: xs => max (sameD x) (sameDL xs)
end
theorem sameOkL_mem : ∀ {xs : List D} {x : D}, sameOkL xs = true → x ∈ xs → sameOk x = true
  | y :: ys, x, h, hx => by
    simp only [sameOkL, Bool.and_eq_true] at h
    rcases List.mem_cons.mp hx with rfl | hx
    · exact h.1
    · exact sameOkL_mem h.2 hx
theorem sameDL_mem : ∀ {xs : List D} {x : D}, x ∈ xs → sameD x ≤ sameDL xs
  | y :: ys, x, hx => by
    simp only [sameDL]
    rcases List.mem_cons.mp hx with rfl | hx
    · omega
    · have := sameDL_mem hx
      omega
def bSame (i : Nat) : Ss := (.cons (.ite (.or (.cmp .is_ (.var 1) (.con .non)) (.or (.cmp .is_ (.var 1) (.con (.bl true))) (.cmp .is_ (.var 1) (.con (.bl false))))) [1, 1, 1] (.cons (.ret (.ife (.cmp .is_ (.var 1) (.con .non)) (.cmp .is_ (.var 0) (.con .non)) (.ife (.cmp .is_ (.var 1) (.con (.bl true))) (.cmp .is_ (.var 0) (.con (.bl true))) (.cmp .is_ (.var 0) (.con (.bl false))))) [1, 0, 1, 0, 0]) .nil) .nil) (.cons (.ite (.isi (.var 1) [.list, .tuple]) [1] (.cons (.ite (.or (.and (.not (.isi (.var 0) [.list])) (.isi (.var 1) [.list])) (.and (.not (.isi (.var 0) [.tuple])) (.isi (.var 1) [.tuple]))) [0, 1, 0, 1] (.cons (.ret (.con (.bl false)) []) .nil) .nil) (.cons (.ret (.and (.cmp .eq (.bi .len (.cons (.var 0) .nil)) (.bi .len (.cons (.var 1) .nil))) (.cmp .eq (.lc (.var 2) (.nm 2) (.rng1 (.bi .len (.cons (.var 1) .nil))) (.cons (.not (.call i (.cons (.ix (.var 0) (.var 2)) (.cons (.ix (.var 1) (.var 2)) .nil)))) .nil)) (.lst .nil))) [0, 1, 2, 1, 0, 2, 1, 2]) .nil)) .nil) (.cons (.ite (.isi (.var 1) [.int]) [1] (.cons (.ret (.and (.isi (.var 0) [.int]) (.and (.not (.isi (.var 0) [.bool])) (.cmp .eq (.var 0) (.var 1)))) [0, 0, 0, 1]) .nil) .nil) (.cons (.ret (.and (.isi (.var 0) [.str]) (.cmp .eq (.var 0) (.var 1))) [0, 0, 1]) .nil))))
section
variable {T : List Fn} {i : Nat}
/-- the items of a list or tuple -/
inductive SeqD : D → List D → Prop where
  | lst {xs : List D} : SeqD (.lst xs) xs
  | tup {xs : List D} : SeqD (.tup xs) xs
theorem v_lenS {call : Nat → List D → Sto → R DL} {η : Env} {st st1 : Sto} {a : E} {d : D} {m : Nat} {xs : List D} (s : SeqD d xs) (h : Ev call a η st d m st1) : Ev call (.bi .len (.cons a .nil)) η st (.int xs.length) 2 st1 := v_bi1 h fun l => by cases s <;> simp [biD, lenD, items]
theorem v_ixS {call : Nat → List D → Sto → R DL} {η : Env} {st st1 st2 : Sto} {a b : E} {d : D} {m m1 : Nat} {xs : List D} {n : Int} (s : SeqD d xs) (h : Ev call a η st d m st1) (g : Ev call b η st1 (.int n) m1 st2) (ok : inb xs n) : Ev call (.ix a b) η st (getL xs n) 0 st2 := by
  cases s with
  | lst => exact v_ix (f := id) (xs := xs) (by simpa [Lx] using h) g ok
  | tup => exact v_ixT h g (by simpa using atI_getL (f := id) ok)
theorem getL_mem {α : Type} [Inhabited α] {xs : List α} {n : Int} (h : inb xs n) : getL xs n ∈ xs := by
  obtain ⟨h0, h1⟩ := h
  have hj : n.toNat < xs.length := by omega
  simp only [getL, List.getD_eq_getElem?_getD, List.getElem?_eq_getElem hj, Option.getD_some]
  exact List.getElem_mem hj
theorem rngI_mem {lo hi n : Int} (h : n ∈ rngI lo hi) : lo ≤ n ∧ n < hi := by
  unfold rngI at h
  obtain ⟨j, hj, rfl⟩ := List.mem_map.mp h
  have := List.mem_range.mp hj
  omega
theorem same_seq {k : Nat} {st : Sto} {d : D} {xs : List D} (s : SeqD d xs) (hl : xs.length ≤ 100000) (h : ∀ x ∈ xs, Cl (run T k) i [x, x] st (.bl true) 2 st) (hd : tyOk d = true) (t1 : isTyD .list d = some (tyB .list d)) :
    Ex (run T k) (bSame i) [some (d, 0), some (d, 0), none] st (PFn D.bl 2 st true) := by
  have is1 : isD d .non = some false := by cases s <;> rfl
  have is2 : isD d (.bl true) = some false := by cases s <;> rfl
  have is3 : isD d (.bl false) = some false := by cases s <;> rfl
  refine x_iteF (m := 2) (evor (u := false) (v := false) (evcmp (v_var rfl) (v_con rfl) is1) fun _ => evor (u := false) (v := false) (evcmp (v_var rfl) (v_con rfl) is2) fun _ => evcmp (v_var rfl) (v_con rfl) is3) rfl ?_
  have ty : tysB [.list, .tuple] d = true := by cases s <;> rfl
  refine x_iteT (m := 2) (by rw [← ty]; exact v_isiD (v_var rfl) hd) rfl ?_
  have tl : (!tysB [.list] d && tysB [.list] d || !tysB [.tuple] d && tysB [.tuple] d) = false := by simp
  refine x_iteF (m := 2) (by
    rw [← tl]
    exact evor (evand (evnot (v_isiD (v_var rfl) hd)) fun _ => v_isiD (v_var rfl) hd) fun _ => evand (evnot (v_isiD (v_var rfl) hd)) fun _ => v_isiD (v_var rfl) hd) rfl ?_
  have e1 : (((xs.length : Int) == xs.length) && (((rngI 0 xs.length).filter fun n => !true).map fun n => n).isEmpty) = true := by
    simp
  have hn : ∀ n ∈ rngI 0 xs.length, inb xs n := fun n hn => rngI_mem hn
  exact x_ret (g := D.bl) (m := 2) (v := true) (Ev.to (evand (v_eq eq_int (v_lenS s (v_var rfl)) (v_lenS s (v_var rfl))) fun _ => v_eqN (f := D.int) (EqE.int.nil (by decide) _) (v_lcT2 (f := D.int) (sr_rng1 (v_lenS s (v_var rfl)) ⟨by omega, by omega⟩) (fun _ _ => rfl) (fun n h1 => vt_c (evnot (v_call (vl_c (v_ixS s (v_var rfl) (v_varF rfl rfl) (hn n h1)) (vl_c (v_ixS s (v_var rfl) (v_varF rfl rfl) (hn n h1)) vl_n)) (h _ (getL_mem (hn n h1)))))) (fun n h1 h2 => v_varF rfl rfl))) (congrArg D.bl e1)) rfl (Nat.le_refl _)
theorem same_refl (hT : T[i]? = some ⟨2, 3, bSame i⟩) : ∀ (n : Nat) (d : D), sameOk d = true → sameD d ≤ n → ∀ (k : Nat) (st : Sto), Cl (run T (k + n)) i [d, d] st (.bl true) 2 st := by
  intro n
  induction n with
  | zero =>
    intro d h hn
    cases d <;> simp [sameD] at hn
  | succ n ih =>
    intro d h hn k st
    refine y_fn (g := D.bl) (v := true) (T := T) hT rfl (.cons (.cons (.none .nil))) ?_
    cases d with
    | non => exact x_iteT (m := 2) (evor (u := true) (v := true) (evcmp (v_var rfl) (v_con rfl) rfl) fun h => by cases h) rfl (x_ret (g := D.bl) (v_ife (f := D.bl) (u := true) (x := true) (y := true) (evcmp (v_var rfl) (v_con rfl) rfl) (fun _ => evcmp (v_var rfl) (v_con rfl) rfl) fun h => by cases h) rfl (Nat.le_refl _))
    | bl b =>
      cases b with
      | true => exact x_iteT (m := 2) (evor (u := false) (v := true) (evcmp (v_varF rfl rfl) (v_con rfl) rfl) fun _ => evor (u := true) (v := true) (evcmp (v_varF rfl rfl) (v_con rfl) rfl) fun h => by cases h) rfl (x_ret (g := D.bl) (v_ife (f := D.bl) (u := false) (x := true) (y := true) (evcmp (v_varF rfl rfl) (v_con rfl) rfl) (fun h => by cases h) fun _ => v_ife (f := D.bl) (u := true) (x := true) (y := true) (evcmp (v_varF rfl rfl) (v_con rfl) rfl) (fun _ => evcmp (v_varF rfl rfl) (v_con rfl) rfl) fun h => by cases h) rfl (Nat.le_refl _))
      | false => exact x_iteT (m := 2) (evor (u := false) (v := true) (evcmp (v_varF rfl rfl) (v_con rfl) rfl) fun _ => evor (u := false) (v := true) (evcmp (v_varF rfl rfl) (v_con rfl) rfl) fun _ => evcmp (v_varF rfl rfl) (v_con rfl) rfl) rfl (x_ret (g := D.bl) (v_ife (f := D.bl) (u := false) (x := true) (y := true) (evcmp (v_varF rfl rfl) (v_con rfl) rfl) (fun h => by cases h) fun _ => v_ife (f := D.bl) (u := false) (x := true) (y := true) (evcmp (v_varF rfl rfl) (v_con rfl) rfl) (fun h => by cases h) fun _ => evcmp (v_varF rfl rfl) (v_con rfl) rfl) rfl (Nat.le_refl _))
    | int j =>
      refine x_iteF (m := 2) (evor (u := false) (v := false) (evcmp (v_varF rfl rfl) (v_con rfl) rfl) fun _ => evor (u := false) (v := false) (evcmp (v_varF rfl rfl) (v_con rfl) rfl) fun _ => evcmp (v_varF rfl rfl) (v_con rfl) rfl) rfl ?_
      refine x_iteF (m := 2) (v_isi (v_varF rfl rfl) rfl) rfl ?_
      refine x_iteT (m := 2) (v_isi (v_varF rfl rfl) rfl) rfl ?_
      exact x_ret (g := D.bl) (evand (u := true) (v := true) (v_isi (v_varF rfl rfl) rfl) fun _ => evand (u := true) (v := true) (evnot (u := false) (v_isi (v_varF rfl rfl) rfl)) fun _ => evcmp (v_varF rfl rfl) (v_varF rfl rfl) (by simp [cmpD, eqD_int])) rfl (Nat.le_refl _)
    | str x =>
      refine x_iteF (m := 2) (evor (u := false) (v := false) (evcmp (v_varF rfl rfl) (v_con rfl) rfl) fun _ => evor (u := false) (v := false) (evcmp (v_varF rfl rfl) (v_con rfl) rfl) fun _ => evcmp (v_varF rfl rfl) (v_con rfl) rfl) rfl ?_
      refine x_iteF (m := 2) (v_isi (v_varF rfl rfl) rfl) rfl ?_
      refine x_iteF (m := 2) (v_isi (v_varF rfl rfl) rfl) rfl ?_
      have hs : SeqAt.shaped (PyData.str x) = true := by
        have : PyData.strOk x = true := h
        simp [SeqAt.shaped, PyData.canLay0, PyData.depth, this]
      exact x_ret (g := D.bl) (evand (u := true) (v := true) (v_isi (v_varF rfl rfl) rfl) fun _ => evcmp (v_varF rfl rfl) (v_varF rfl rfl) (by simp [cmpD, eqD, pyPair, D.py, hs, PyData.eqv])) rfl (Nat.le_refl _)
    | lst xs =>
      simp only [sameOk, Bool.and_eq_true, decide_eq_true_eq] at h
      simp only [sameD] at hn
      exact same_seq .lst h.1 (fun x hx => ih x (sameOkL_mem h.2 hx) (by have := sameDL_mem hx; omega) k st) rfl rfl
    | tup xs =>
      simp only [sameOk, Bool.and_eq_true, decide_eq_true_eq] at h
      simp only [sameD] at hn
      exact same_seq .tup h.1 (fun x hx => ih x (sameOkL_mem h.2 hx) (by have := sameDL_mem hx; omega) k st) rfl rfl
    | _ => cases h
/-- told as due, and what may be compared -/
def SameS (x y : D) : Prop := x = y ∧ sameOk x = true ∧ sameD x ≤ 10
end
end IX
/-! JF: the laws' random numbers: their ranges alone. Own work. -/
namespace IX
open PySem

/-- a generator's list: what is left of the seed, a small seed, a count -/
def Gc (N : Nat) (c : List D) : Prop := ∃ g0 g1 g2 : Int, c = [.int g0, .int g1, .int g2] ∧ 0 ≤ g0 ∧ g0 < 10 ^ 600 ∧ 0 ≤ g1 ∧ g1 < 2147483647 ∧ 0 ≤ g2 ∧ g2 ≤ N
def Gs (N : Nat) (st : Sto) : Prop := ∀ c ∈ st, Gc N c
theorem Gc.mono {N M : Nat} {c : List D} (h : Gc N c) (le : N ≤ M) : Gc M c := by
  obtain ⟨g0, g1, g2, h0, h1, h2, h3, h4, h5, h6⟩ := h
  exact ⟨g0, g1, g2, h0, h1, h2, h3, h4, h5, by omega⟩
theorem Gs.mono {N M : Nat} {st : Sto} (h : Gs N st) (le : N ≤ M) : Gs M st := fun c hc => (h c hc).mono le
theorem Gs.set {N : Nat} {st : Sto} {c : List D} (k : Nat) (h : Gs N st) (hc : Gc N c) : Gs N (st.set k c) := fun x hx => by
  rcases List.mem_or_eq_of_mem_set hx with hx | rfl
  · exact h x hx
  · exact hc
theorem mulOk_of {x y : Int} (hx : x.natAbs < 2 ^ 400) (hy : y.natAbs < 2 ^ 400) : mulOk x y = true := by
  have aux : ∀ n : Nat, n < 2 ^ 400 → n.log2 < 401 := fun n hn => by
    by_cases q : n = 0
    · subst q
      simp
    · have := (Nat.log2_lt q).mpr hn
      omega
  have h1 := aux _ hx
  have h2 := aux _ hy
  simp only [mulOk, decide_eq_true_eq]
  omega
theorem divOk_of {y : Int} (h0 : y ≠ 0) (hy : y.natAbs < 2 ^ 400) : divOk y = true := by
  have h1 : y.natAbs.log2 < 400 := (Nat.log2_lt (by omega)).mpr hy
  simp only [divOk, decide_eq_true_eq]
  exact ⟨h0, by omega⟩
section
variable {call : Nat → List D → Sto → R DL} {η : Env} {A A1 A2 : List SA} {ρ : SEnv} {vs : List Nat} {st st1 st2 st3 : Sto} {e a b c x : E} {d d1 d2 : D} {m m1 m2 mo : Nat} {i j : Nat} {p q r : Ss} {Q : Fl → SEnv → Sto → Prop} {es : Es}
theorem v_ixC {k : Nat} {n : Int} {xs : List D} (h : Ev call a η st (.cell k) m st) (hst : st[k]? = some xs) (hx : L2.atI xs n = some d) (hf : d.flat = true) : Ev call (.ix a (.con (.int n))) η st d 2 st := by
  obtain ⟨l, h1, h2, h3⟩ := h
  refine ⟨2, ?_, Nat.le_refl _, Nat.le_refl _⟩
  simp only [evalE, h1, bind_ok, lv0, ixD, items, hst, Option.bind_some, hx, Option.map_some, of_some, lvl, hf, if_true]
theorem x_cset {k : Nat} {n : Int} {xs : List D} {n' : Nat} (hi : A[i]? = some (some (.cell k, 0))) (h : Ev call e (envA A) st d m st1) (hv : (e.vs.all vs.contains) = true) (hz : okFz vs 0 A = true ∨ m = 2) (hst : st1[k]? = some xs) (hn : L2.ixN xs.length n = some n') (hd : d.scal = true) (k1 : Ex call r A (st1.set k (xs.set n' d)) Q) : Ex call (.cons (.cset i (.con (.int n)) e vs) r) A st Q := fun ρ hs => by
  obtain ⟨l, ρ', h1, h2, h3, h4⟩ := evB h hv hz hs
  obtain ⟨o, o1, o2⟩ := h4.get hi
  obtain ⟨l2, rfl, w2, w3⟩ := o2.low (by decide)
  have e1 : (view [] ρ')[i]? = some (some (.cell k)) := by
    simp only [view, viewGo_gt, o1, Option.map_some, Option.bind_some]
    rw [show visible [] (0 + i) (.cell k, l2) = true by simp [visible, D.flat], if_pos rfl]
  obtain ⟨f', ρ2, st2, g1, g2⟩ := k1 ρ' h4
  refine ⟨f', ρ2, st2, ?_, g2⟩
  simp only [execSs, execS, h1, evalE, bind_ok, lv0, e1, hst, hn, hd, if_true, g1]
/-- a loop's turns, one by one, with cells -/
theorem forGo_N {α : Type} {AA : List SA} {f : α → D} {t : Tg} {bd : Ss} {I : Nat → Sto → Prop} {R : Fl → SEnv → Sto → Prop} (hR : ∀ f ρ st, R f ρ st → ∃ d l, f = .ret d l) : ∀ {xs : List α} {n : Nat} {ρ : SEnv} {st : Sto}, (∀ j x, xs[j]? = some x → ∀ st', I (n + j) st' → ∃ A1, BindA t (f x) AA A1 ∧ Ex call bd A1 st' (fun fl ρ st'' => ((fl = .nx ∨ fl = .cnt) ∧ Sat AA ρ ∧ I (n + j + 1) st'') ∨ R fl ρ st'')) → I n st → Sat AA ρ →
    ∃ fl ρ' st', forGo (fun ρ st => execSs call bd ρ st) t (xs.map f) ρ st = .ok (fl, ρ') st' ∧ ((fl = .nx ∧ Sat AA ρ' ∧ I (n + xs.length) st') ∨ R fl ρ' st')
  | [], n, ρ, st, _, hI, hs => ⟨.nx, ρ, st, rfl, .inl ⟨rfl, hs, hI⟩⟩
  | x :: xs, n, ρ, st, H, hI, hs => by
    obtain ⟨A1, b1, b2⟩ := H 0 x rfl st hI
    obtain ⟨ρ1, c1, c2⟩ := bindA_ok (l := (lv0 (f x)).2) b1.eq.1 hs b1.eq.2 (lv0_le _)
    obtain ⟨fl, ρ2, st2, d1, d2⟩ := b2 ρ1 c2
    have c1' : t.bindS (lv0 (f x)) ρ = some ρ1 := c1
    simp only [List.map_cons, forGo, c1', d1, bind_ok]
    rcases d2 with ⟨e1, e2, e3⟩ | d2
    · have ih := forGo_N (f := f) (R := R) hR (xs := xs) (n := n + 1) (ρ := ρ2) (st := st2) (fun j y hy st' hst => by
        obtain ⟨A2, k1, k2⟩ := H (j + 1) y (by simpa using hy) st' (by rw [show n + (j + 1) = n + 1 + j by omega]; exact hst)
        exact ⟨A2, k1, by rw [show n + 1 + j + 1 = n + (j + 1) + 1 by omega]; exact k2⟩) e3 e2
      rw [show n + 1 + xs.length = n + (x :: xs).length by simp; omega] at ih
      rcases e1 with rfl | rfl
      · exact ih
      · exact ih
    · obtain ⟨dd, l, rfl⟩ := hR _ _ _ d2
      exact ⟨_, ρ2, st2, rfl, .inr d2⟩
theorem x_forN {α : Type} {AA : List SA} {f : α → D} {t : Tg} {sr : Sr} {bd : Ss} {I : Nat → Sto → Prop} {xs : List α} (hs : EvSr call sr (envA A) st (xs.map f) st1) (hv : (sr.vs.all vs.contains) = true) (w : WkA A AA) (hz : okFz vs 0 AA = true) (h0 : I 0 st1)
    (hb : ∀ j x, xs[j]? = some x → ∀ st', I j st' → ∃ A1, BindA t (f x) AA A1 ∧ Ex call bd A1 st' (fun fl ρ st'' => (fl = .nx ∨ fl = .cnt) ∧ Sat AA ρ ∧ I (j + 1) st'')) (k : ∀ st', I xs.length st' → Ex call r AA st' Q) : Ex call (.cons (.for_ t sr vs bd) r) A st Q := fun ρ hsat => by
  have hR : ∀ (f : Fl) (ρ : SEnv) (st : Sto), (fun _ _ _ => False : Fl → SEnv → Sto → Prop) f ρ st → ∃ d l, f = .ret d l := fun _ _ _ h => h.elim
  obtain ⟨fl, ρ', st', h1, h2⟩ := forGo_N (call := call) (AA := AA) (f := f) (t := t) (bd := bd) (I := I) hR (xs := xs) (n := 0) (st := st1) (ρ := fz vs ρ) (fun j x hx st' hst => by
    obtain ⟨A1, k1, k2⟩ := hb j x hx st' (by simpa using hst)
    refine ⟨A1, k1, fun ρ hs => ?_⟩
    obtain ⟨f', ρ2, st2, g1, g2⟩ := k2 ρ hs
    exact ⟨f', ρ2, st2, g1, .inl (by simpa using g2)⟩) h0 ((w.sat hsat).fz hz)
  rcases h2 with ⟨rfl, h2, h3⟩ | h2
  · obtain ⟨f', ρ2, st2, g1, g2⟩ := k st' (by simpa using h3) ρ' h2
    exact ⟨f', ρ2, st2, by simp only [execSs, execS, evR hs hv hsat, bind_ok, h1, g1], g2⟩
  · exact h2.elim
/-- comprehensions that draw -/
theorem lcGo_D {α β : Type} {t : Tg} {v : E} {g : α → D} {f : β → D} {η0 : Env} {η1 : α → Env} {P : β → Prop} {c : Nat} {L : Nat} : ∀ {xs : List α} {N : Nat} {st : Sto}, (∀ x ∈ xs, t.bind (g x) η0 = some (η1 x) ∧ ∀ M st', Gs M st' → M + c ≤ N + c * xs.length → st'.length = L → ∃ y st'', P y ∧ Gs (M + c) st'' ∧ st''.length = L ∧ Ev call v (η1 x) st' (f y) m st'') → Gs N st → st.length = L →
    ∃ (ys : List β) (zs : List DL) (st' : Sto), ys.length = xs.length ∧ (∀ y ∈ ys, P y) ∧ Gs (N + c * xs.length) st' ∧ st'.length = L ∧ lcGo (fun ρ st => noEx (evalTs call .nil ρ st)) (fun ρ st => noEx (evalE call v ρ st)) t η0 (xs.map g) st = .ok zs st' ∧ zs.map (·.1) = ys.map f ∧ ∀ z ∈ zs, m ≤ z.2 ∧ z.2 ≤ 2
  | [], N, st, _, hG, hL => ⟨[], [], st, rfl, (fun y h => by cases h), by simpa using hG, hL, rfl, rfl, fun z h => by cases h⟩
  | x :: xs, N, st, H, hG, hL => by
    obtain ⟨k1, k2⟩ := H x List.mem_cons_self
    have mul : N + c * (xs.length + 1) = N + c + c * xs.length := by rw [Nat.mul_succ]; omega
    obtain ⟨y, st2, q1, q2, q3, l, q4, q5, q6⟩ := k2 N st hG (by rw [List.length_cons, mul]; omega) hL
    obtain ⟨ys, zs, st3, p1, p2, p3, p4, p5, p6, p7⟩ := lcGo_D (xs := xs) (N := N + c) (st := st2) (fun e he => ⟨(H e (List.mem_cons_of_mem _ he)).1, fun M st' hM hle hl => (H e (List.mem_cons_of_mem _ he)).2 M st' hM (by rw [List.length_cons, mul]; omega) hl⟩) q2 q3
    refine ⟨y :: ys, (f y, l) :: zs, st3, by simp [p1], fun z hz => ?_, by rw [List.length_cons, mul]; exact p3, p4, ?_, by simp [p6], fun z hz => ?_⟩
    · rcases List.mem_cons.mp hz with rfl | hz
      · exact q1
      · exact p2 z hz
    · simp only [List.map_cons, lcGo, k1, evalTs, noEx, bind_ok, if_true, q4]
      simp only [evalTs, noEx] at p5
      rw [p5]
      rfl
    · rcases List.mem_cons.mp hz with rfl | hz
      · exact ⟨q5, q6⟩
      · exact p7 z hz
theorem v_lcD {α β : Type} {t : Tg} {v : E} {s : Sr} {g : α → D} {f : β → D} {η1 : α → Env} {P : β → Prop} {xs : List α} (c : Nat) {N : Nat} (hs : EvSr call s η st (xs.map g) st1) (hG : Gs N st1) (hb : ∀ x ∈ xs, t.bind (g x) (wipeE η t.slots) = some (η1 x))
    (hv : ∀ x ∈ xs, ∀ M st', Gs M st' → M + c ≤ N + c * xs.length → st'.length = st1.length → ∃ y st'', P y ∧ Gs (M + c) st'' ∧ st''.length = st1.length ∧ Ev call v (η1 x) st' (f y) m st'') :
    ∃ (ys : List β) (st' : Sto), ys.length = xs.length ∧ (∀ y ∈ ys, P y) ∧ Gs (N + c * xs.length) st' ∧ st'.length = st1.length ∧ Ev call (.lc v t s .nil) η st (Lx f ys) (if m = 2 then 2 else 1) st' := by
  obtain ⟨ys, zs, st3, p1, p2, p3, p4, p5, p6, p7⟩ := lcGo_D (N := N) (L := st1.length) (fun x hx => ⟨hb x hx, hv x hx⟩) hG rfl
  refine ⟨ys, st3, p1, p2, p3, p4, _, by simp only [evalE, show evalSr call s η st = _ from hs, bind_ok, p5, p6, Lx]; rfl, ?_, ?_⟩
  · by_cases q : m = 2
    · subst q
      rw [if_pos rfl, all2 p7]
      simp
    · rw [if_neg q]
      split <;> simp
  · split <;> simp
end
section
variable {call : Nat → List D → Sto → R DL} {A A1 : List SA} {vs : List Nat} {st st1 : Sto} {d : D} {m : Nat} {r : Ss} {Q : Fl → SEnv → Sto → Prop}
/-- a loop of one turn -/
theorem x_for1 {x : D} {t : Tg} {sr : Sr} {bd : Ss} (hs : EvSr call sr (envA A) st [x] st1) (hv : (sr.vs.all vs.contains) = true) (hz : okFz vs 0 A = true) (hb : BindA t x A A1) (k : Ex call bd A1 st1 (fun fl ρ st' => (fl = .nx ∨ fl = .cnt) ∧ ∃ A2, Sat A2 ρ ∧ Ex call r A2 st' Q)) : Ex call (.cons (.for_ t sr vs bd) r) A st Q := fun ρ hsat => by
  obtain ⟨ρ1, c1, c2⟩ := bindA_ok (l := (lv0 x).2) hb.eq.1 (hsat.fz hz) hb.eq.2 (lv0_le _)
  obtain ⟨fl, ρ2, st2, d1, e1, A2, e2, e3⟩ := k ρ1 c2
  obtain ⟨f', ρ3, st3, g1, g2⟩ := e3 ρ2 e2
  have c1' : t.bindS (lv0 x) (fz vs ρ) = some ρ1 := c1
  refine ⟨f', ρ3, st3, ?_, g2⟩
  rcases e1 with rfl | rfl <;> simp only [execSs, execS, evR hs hv hsat, bind_ok, forGo, c1', d1, g1]
/-- a def's word, with cells -/
def PRet (d : D) (m : Nat) (st1 : Sto) : Fl → SEnv → Sto → Prop := fun f _ st' => st' = st1 ∧ ∃ l, f = .ret d l ∧ m ≤ l ∧ l ≤ 2
theorem y_fnD {T : List Fn} {k f np nl : Nat} {bd : Ss} {xs : List D} (hT : T[f]? = some ⟨np, nl, bd⟩) (hl : xs.length = np) (hA : StA nl xs A) (hL : st1.length = st.length) (h : Ex (run T k) bd A st (PRet d m st1)) : Cl (run T (k + 1)) f xs st d m st1 := by
  subst hl
  have s0 := sat_start xs (nl - xs.length)
  rw [← hA.eq] at h
  obtain ⟨fl, ρ', st', h1, rfl, l, rfl, h3, h4⟩ := h _ s0
  refine ⟨l, ?_, h3, h4⟩
  simp only [run, hT, if_true, startS]
  rw [h1]
  simp only [outOf, hL, if_true]
theorem x_retD {e : E} (h : Ev call e (envA A) st d m st1) (hv : (e.vs.all vs.contains) = true) : Ex call (.cons (.ret e vs) r) A st (PRet d m st1) :=
  x_ret0 h hv fun l ρ h1 h2 => ⟨rfl, l, rfl, h1, h2⟩
end
section
variable {call : Nat → List D → Sto → R DL} {η : Env} {st st1 st2 st3 : Sto} {a b : E} {m m1 : Nat}
theorem v_ixScr {ns : List Int} {n : Int} (h : Ev call a η st (.scr ns) m st1) (g : Ev call b η st1 (.int n) m1 st2) (ok : inb ns n) : Ev call (.ix a b) η st (.int (getL ns n)) 2 st2 := by
  obtain ⟨l, h1, h2, h3⟩ := h
  obtain ⟨l2, g1, g2, g3⟩ := g
  exact ⟨2, by simp only [evalE, h1, g1, bind_ok, ixD, items, Option.bind_some, atI_getL (f := D.int) ok, Option.map_some, of_some, lvl, D.flat, if_true], Nat.le_refl _, Nat.le_refl _⟩
theorem v_slScr {ns : List Int} {lo hi : Es} {x y : Option Int} (h : Ev call a η st (.scr ns) m st1) (g : EvO call lo η st1 x st2) (k : EvO call hi η st2 y st3) : Ev call (.sl a lo hi) η st (Lx .int (cutL ns x y)) 2 st3 := by
  obtain ⟨l, h1, h2, h3⟩ := h
  obtain ⟨l2, g1, g2⟩ := g
  obtain ⟨l3, k1, k2⟩ := k
  exact ⟨2, by simp only [evalE, h1, g1, k1, bind_ok, g2, k2, slD, Lx, of_some, cutL_mp], Nat.le_refl _, Nat.le_refl _⟩
end
/-! ### the functions -/
def bHash : Ss := (.cons (.asg 2 (.bin .mod (.bi .int (.cons (.bin .add (.bin .add (.bin .add (.bin .mul (.var 0) (.con (.int 1140671))) (.bin .mul (.bin .mul (.con (.int 27644437)) (.var 1)) (.var 1))) (.bin .mul (.con (.int 131)) (.var 1))) (.con (.int 19))) .nil)) (.con (.int 2147483629))) [0, 1, 1, 1]) (.cons (.asg 2 (.bin .mod (.bi .int (.cons (.bin .add (.bin .add (.bin .mul (.var 2) (.var 2)) (.bin .mul (.con (.int 62089)) (.var 1))) (.con (.int 32416187))) .nil)) (.con (.int 2147483587))) [2, 2, 1]) (.cons (.ret (.bin .mod (.bi .int (.cons (.bin .mul (.var 2) (.con (.int 48271))) .nil)) (.con (.int 2147483647))) [2]) .nil)))
def bRandom (iH : Nat) : Ss := (.cons (.ite (.cmp .gt (.ix (.var 0) (.con (.int 0))) (.con (.int 0))) [0] (.cons (.asg 2 (.bin .mod (.bi .int (.cons (.ix (.var 0) (.con (.int 0))) .nil)) (.var 1)) [0, 1]) (.cons (.cset 0 (.con (.int 0)) (.bin .fdiv (.ix (.var 0) (.con (.int 0))) (.var 1)) [0, 1]) (.cons (.retv 2) .nil))) .nil) (.cons (.asg 2 (.con (.int 0)) []) (.cons (.for_ (.nm 3) (.rng1 (.bin .add (.con (.int 1)) (.bin .fdiv (.bi .bits (.cons (.var 1) .nil)) (.con (.int 30))))) [1] (.cons (.cset 0 (.con (.int 2)) (.bin .add (.ix (.var 0) (.con (.int 2))) (.con (.int 1))) [0]) (.cons (.asg 2 (.bin .add (.bin .mul (.var 2) (.con (.int 2147483587))) (.call iH (.cons (.ix (.var 0) (.con (.int 1))) (.cons (.ix (.var 0) (.con (.int 2))) .nil)))) [2, 0, 0]) .nil))) (.cons (.ret (.bin .mod (.bi .int (.cons (.var 2) .nil)) (.var 1)) [2, 1]) .nil))))
def bCell : Ss := (.cons (.ite (.cmp .lt (.var 1) (.bi .len (.cons (.var 0) .nil))) [1, 0] (.cons (.ret (.ix (.var 0) (.var 1)) [0, 1]) .nil) .nil) (.cons (.ret (.bin .mod (.bi .sum (.cons (.sl (.var 0) .nil (.cons (.con (.int 1)) .nil)) .nil)) (.con (.int 1000003))) [0]) .nil))
def bGen (iC : Nat) : Ss := (.cons (.asg 2 (.call iC (.cons (.var 0) (.cons (.var 1) .nil))) [0, 1]) (.cons (.ret (.lst (.cons (.bin .mod (.bi .int (.cons (.bi .max2 (.cons (.bin .sub (.var 2) (.bin .pow (.con (.int 10)) (.con (.int 18)))) (.cons (.con (.int 0)) .nil))) .nil)) (.bin .pow (.bin .pow (.con (.int 10)) (.con (.int 60))) (.con (.int 10)))) (.cons (.bin .mod (.bi .int (.cons (.var 2) .nil)) (.con (.int 2147483647))) (.cons (.bin .mul (.con (.int 1000)) (.var 1)) .nil)))) [2, 2, 1]) .nil))
def bPick (iR : Nat) : Ss := (.cons (.ret (.ix (.var 1) (.call iR (.cons (.var 0) (.cons (.bi .len (.cons (.var 1) .nil)) .nil)))) [1, 0, 1]) .nil)
structure DrawT (T : List Fn) (iH iR iC iG iP : Nat) : Prop where
  h : T[iH]? = some ⟨2, 3, bHash⟩
  r : T[iR]? = some ⟨2, 4, bRandom iH⟩
  c : T[iC]? = some ⟨2, 2, bCell⟩
  g : T[iG]? = some ⟨2, 3, bGen iC⟩
  p : T[iP]? = some ⟨2, 2, bPick iR⟩
section
variable {T : List Fn} {iH iR iC iG iP : Nat}
theorem fmod_rng {x y : Int} (hy : 0 < y) : 0 ≤ x.fmod y ∧ x.fmod y < y := ⟨Int.fmod_nonneg_of_pos x hy, Int.fmod_lt_of_pos x hy⟩
theorem r_hash (t : DrawT T iH iR iC iG iP) {s n : Int} (hs : 0 ≤ s ∧ s < 2147483647) (hn : 0 ≤ n ∧ n ≤ 1000000000) (k : Nat) (st : Sto) : ∃ v : Int, (0 ≤ v ∧ v < 2147483647) ∧ Cl (run T (k + 1)) iH [.int s, .int n] st (.int v) 2 st := by
  have big : (2 : Nat) ^ 64 < 2 ^ 400 := by decide +kernel
  have lt : ∀ x : Int, 0 ≤ x → x < 18446744073709551616 → x.natAbs < 2 ^ 400 := fun x h0 h1 => by
    have : x.natAbs < 2 ^ 64 := by omega
    omega
  have m1 := fmod_rng (x := s * 1140671 + 27644437 * n * n + 131 * n + 19) (y := 2147483629) (by decide)
  have m2 := fmod_rng (x := ((s * 1140671 + 27644437 * n * n + 131 * n + 19).fmod 2147483629) * ((s * 1140671 + 27644437 * n * n + 131 * n + 19).fmod 2147483629) + 62089 * n + 32416187) (y := 2147483587) (by decide)
  refine ⟨(((((s * 1140671 + 27644437 * n * n + 131 * n + 19).fmod 2147483629) * ((s * 1140671 + 27644437 * n * n + 131 * n + 19).fmod 2147483629) + 62089 * n + 32416187).fmod 2147483587) * 48271).fmod 2147483647, fmod_rng (by decide), y_fn (T := T) (f := iH) (xs := [.int s, .int n]) (g := D.int) t.h rfl (.cons (.cons (.none .nil))) ?_⟩
  refine y_asg (mo := 0) (v_mod (v_int (v_add (v_add (v_add (v_mul (v_varF rfl rfl) (v_con rfl) (mulOk_of (lt _ (by omega) (by omega)) (lt _ (by omega) (by omega)))) (v_mul (v_mul (v_con rfl) (v_varF rfl rfl) (mulOk_of (lt _ (by omega) (by omega)) (lt _ (by omega) (by omega)))) (v_varF rfl rfl) (mulOk_of (lt _ (by omega) (by omega)) (lt _ (by omega) (by omega))))) (v_mul (v_con rfl) (v_varF rfl rfl) (mulOk_of (lt _ (by omega) (by omega)) (lt _ (by omega) (by omega))))) (v_con rfl))) (v_con rfl) (by decide)) rfl (.inl rfl) (.s (.s (.z rfl))) (by decide) ?_
  refine y_asg (mo := 0) (v_mod (v_int (v_add (v_add (v_mul (v_varF rfl rfl) (v_varF rfl rfl) (mulOk_of (lt _ m1.1 (by omega)) (lt _ m1.1 (by omega)))) (v_mul (v_con rfl) (v_varF rfl rfl) (mulOk_of (lt _ (by omega) (by omega)) (lt _ (by omega) (by omega))))) (v_con rfl))) (v_con rfl) (by decide)) rfl (.inl rfl) (.s (.s (.z rfl))) (by decide) ?_
  exact x_ret (g := D.int) (v_mod (v_int (v_mul (v_varF rfl rfl) (v_con rfl) (mulOk_of (lt _ m2.1 (by omega)) (lt _ (by omega) (by omega))))) (v_con rfl) (by decide)) rfl (by decide)
theorem bits_lt {b : Int} (h0 : 1 ≤ b) (h1 : b < 536870912) : (Builtin.Int.intBits b : Int) < 30 := by
  have : Builtin.Int.intBits b ≤ 29 := by
    unfold Builtin.Int.intBits
    have h2 : b.natAbs < 2 ^ 29 := by omega
    have := (Nat.log2_lt (n := b.natAbs) (k := 29) (by omega)).mpr h2
    split <;> omega
  omega
theorem r_random (t : DrawT T iH iR iC iG iP) {b : Int} (hb : 1 ≤ b ∧ b < 536870912) {c N : Nat} {st : Sto} (hG : Gs N st) (hN : N + 1 ≤ 1000000000) (hc : c < st.length) (k : Nat) :
    ∃ (v : Int) (st' : Sto), (0 ≤ v ∧ v < b) ∧ Gs (N + 1) st' ∧ st'.length = st.length ∧ Cl (run T (k + 2)) iR [.cell c, .int b] st (.int v) 2 st' := by
  obtain ⟨xs, hst⟩ : ∃ xs, st[c]? = some xs := ⟨_, List.getElem?_eq_getElem hc⟩
  obtain ⟨g0, g1, g2, rfl, h1, h2, h3, h4, h5, h6⟩ := hG xs (List.mem_of_getElem? hst)
  have dv : divOk b = true := divOk_of (by omega) (by
    have : b.natAbs < 2 ^ 29 := by omega
    have : (2 : Nat) ^ 29 < 2 ^ 400 := by decide +kernel
    omega)
  by_cases q : 0 < g0
  · have f0 : 0 ≤ g0.fdiv b := Int.fdiv_nonneg h1 (by omega)
    have f1 : g0.fdiv b ≤ g0 := by
      have := Int.fdiv_le_self b h1
      exact this
    refine ⟨g0.fmod b, st.set c [.int (g0.fdiv b), .int g1, .int g2], fmod_rng (by omega), (hG.mono (Nat.le_succ N)).set c ⟨_, g1, g2, rfl, f0, by omega, h3, h4, h5, by omega⟩, by simp, ?_⟩
    refine y_fnD (T := T) (f := iR) t.r rfl (.cons (.cons (.none (.none .nil)))) (by simp) ?_
    refine x_iteT (m := 2) (by
      have := v_gt (call := run T (k + 1)) (η := envA [some (D.cell c, 0), some (D.int b, 0), none, none]) (v_ixC (n := 0) (v_var (i := 0) rfl) hst rfl rfl) (v_con (d := .int 0) rfl)
      rw [decide_eq_true q] at this
      exact this) rfl ?_
    refine y_asg (mo := 0) (v_mod (v_int (v_ixC (n := 0) (v_var rfl) hst rfl rfl)) (v_varF rfl rfl) (by omega)) rfl (.inl rfl) (.s (.s (.z rfl))) (by decide) ?_
    refine x_cset (n := 0) (n' := 0) rfl (v_fdiv (v_ixC (n := 0) (v_var rfl) hst rfl rfl) (v_varF rfl rfl) dv) rfl (.inl rfl) hst rfl rfl ?_
    exact x_retv0 rfl (by decide) fun l ρ e1 e2 e3 e4 => ⟨rfl, l, rfl, by rw [e1 rfl]; decide, e4⟩
  · obtain ⟨v, hv, hE⟩ := r_hash t (s := g1) (n := g2 + 1) ⟨h3, h4⟩ ⟨by omega, by omega⟩ k (st.set c [.int g0, .int g1, .int (g2 + 1)])
    have hst' : (st.set c [D.int g0, D.int g1, D.int (g2 + 1)])[c]? = some [D.int g0, D.int g1, D.int (g2 + 1)] := by rw [List.getElem?_set_self hc]
    have m := fmod_rng (x := 0 * 2147483587 + v) (y := b) (by omega)
    refine ⟨(0 * 2147483587 + v).fmod b, st.set c [.int g0, .int g1, .int (g2 + 1)], m, (hG.mono (Nat.le_succ N)).set c ⟨g0, g1, g2 + 1, rfl, h1, h2, h3, h4, by omega, by omega⟩, by simp, ?_⟩
    refine y_fnD (T := T) (f := iR) t.r rfl (.cons (.cons (.none (.none .nil)))) (by simp) ?_
    refine x_iteF (m := 2) (by
      have := v_gt (call := run T (k + 1)) (η := envA [some (D.cell c, 0), some (D.int b, 0), none, none]) (v_ixC (n := 0) (v_var (i := 0) rfl) hst rfl rfl) (v_con (d := .int 0) rfl)
      rw [decide_eq_false q] at this
      exact this) rfl ?_
    refine y_asg (mo := 0) (v_con rfl) rfl (.inl rfl) (.s (.s (.z rfl))) (by decide) ?_
    have bt := bits_lt hb.1 hb.2
    have rn : rngI 0 (1 + (Builtin.Int.intBits b : Int).fdiv 30) = [0] := by
      have : (Builtin.Int.intBits b : Int).fdiv 30 = 0 := Int.fdiv_eq_zero_of_lt (by omega) bt
      rw [this]
      rfl
    refine x_for1 (st1 := st) (x := .int 0) ?_ rfl rfl (.nm (.s (.s (.s (.z rfl))))) ?_
    · have := sr_rng1 (call := run T (k + 1)) (η := envA [some (D.cell c, 0), some (D.int b, 0), some (D.int 0, 0), none]) (st := st) (v_add (v_con (d := .int 1) rfl) (v_fdiv (v_bits (v_varF (i := 1) (d := .int b) rfl rfl)) (v_con (d := .int 30) rfl) rfl)) (by
        have : (Builtin.Int.intBits b : Int).fdiv 30 = 0 := Int.fdiv_eq_zero_of_lt (by omega) bt
        rw [this]
        omega)
      rw [rn] at this
      exact this
    · refine x_cset (n := 2) (n' := 2) rfl (v_add (v_ixC (n := 2) (v_var rfl) hst rfl rfl) (v_con rfl)) rfl (.inl rfl) hst rfl rfl ?_
      refine y_asg (mo := 0) (v_add (v_mul (v_varF rfl rfl) (v_con rfl) (mulOk_of (by decide +kernel) (by decide +kernel))) (v_call (vl_c (v_ixC (n := 1) (v_var rfl) hst' rfl rfl) (vl_c (v_ixC (n := 2) (v_var rfl) hst' rfl rfl) vl_n)) hE)) rfl (.inl rfl) (.s (.s (.z rfl))) (by decide) ?_
      refine x_nil fun ρ hs => ⟨.inl rfl, _, hs, ?_⟩
      exact x_retD (v_mod (v_int (v_varF rfl rfl)) (v_varF rfl rfl) (by omega)) rfl
/-- an item of a list -/
theorem r_pick (t : DrawT T iH iR iC iG iP) {α : Type} [Inhabited α] {f : α → D} {xs : List α} (hx : 1 ≤ xs.length ∧ xs.length < 536870912) {c N : Nat} {st : Sto} (hG : Gs N st) (hN : N + 1 ≤ 1000000000) (hc : c < st.length) (k : Nat) :
    ∃ (v : α) (st' : Sto), v ∈ xs ∧ Gs (N + 1) st' ∧ st'.length = st.length ∧ Cl (run T (k + 3)) iP [.cell c, Lx f xs] st (f v) 0 st' := by
  obtain ⟨n, st', hn, h1, h2, h3⟩ := r_random t (b := xs.length) ⟨by omega, by omega⟩ hG hN hc k
  exact ⟨getL xs n, st', getL_mem hn, h1, h2, y_fnD (T := T) (f := iP) t.p rfl (.cons (.cons .nil)) h2 (x_retD (v_ix (f := f) (v_var rfl) (v_call (vl_c (v_var rfl) (vl_c (v_len (f := f) (v_var rfl)) vl_n)) h3) hn) rfl)⟩
theorem r_pickF (t : DrawT T iH iR iC iG iP) {α : Type} [Inhabited α] {f : α → D} {xs : List α} (hf : ∀ x, (f x).flat = true) (hx : 1 ≤ xs.length ∧ xs.length < 536870912) {c N : Nat} {st : Sto} (hG : Gs N st) (hN : N + 1 ≤ 1000000000) (hc : c < st.length) (k : Nat) :
    ∃ (v : α) (st' : Sto), v ∈ xs ∧ Gs (N + 1) st' ∧ st'.length = st.length ∧ Cl (run T (k + 3)) iP [.cell c, Lx f xs] st (f v) 2 st' := by
  obtain ⟨n, st', hn, h1, h2, h3⟩ := r_random t (b := xs.length) ⟨by omega, by omega⟩ hG hN hc k
  exact ⟨getL xs n, st', getL_mem hn, h1, h2, y_fnD (T := T) (f := iP) t.p rfl (.cons (.cons .nil)) h2 (x_retD (v_ixF (f := f) (v_var rfl) (v_call (vl_c (v_var rfl) (vl_c (v_len (f := f) (v_var rfl)) vl_n)) h3) hn hf) rfl)⟩
/-- a cell of the script, a generator -/
theorem r_cell (t : DrawT T iH iR iC iG iP) (ns : List Int) {n : Int} (hn : 0 ≤ n) (k : Nat) (st : Sto) : ∃ v : Int, Cl (run T (k + 1)) iC [.scr ns, .int n] st (.int v) 2 st := by
  have hlen : Ev (run T k) (.bi .len (.cons (.var 0) .nil)) (envA [some (D.scr ns, 0), some (D.int n, 0)]) st (.int ns.length) 2 st := v_bi1 (v_var rfl) fun l => by simp [biD, lenD, items]
  have hlt := v_lt (v_varF (call := run T k) (η := envA [some (D.scr ns, 0), some (D.int n, 0)]) (st := st) (i := 1) (d := .int n) rfl rfl) hlen
  by_cases q : n < ns.length
  · rw [decide_eq_true q] at hlt
    exact ⟨getL ns n, y_fnD (T := T) t.c rfl (.cons (.cons .nil)) rfl (x_iteT hlt rfl (x_retD (v_ixScr (v_var rfl) (v_varF rfl rfl) ⟨hn, q⟩) rfl))⟩
  · rw [decide_eq_false q] at hlt
    exact ⟨(cutL ns none (some 1)).sum.fmod 1000003, y_fnD (T := T) t.c rfl (.cons (.cons .nil)) rfl (x_iteF hlt rfl (x_retD (m := 2) (v_mod (v_sum (v_slScr (v_var rfl) vo_n (vo_s (v_con rfl)))) (v_con rfl) (by decide)) rfl))⟩
theorem r_gen (t : DrawT T iH iR iC iG iP) (ns : List Int) {n : Int} (hn : 0 ≤ n ∧ n ≤ 1000) (k : Nat) (st : Sto) : ∃ g0 g1 g2 : Int, (0 ≤ g0 ∧ g0 < 10 ^ 600 ∧ 0 ≤ g1 ∧ g1 < 2147483647 ∧ 0 ≤ g2 ∧ g2 ≤ 1000000) ∧ Cl (run T (k + 2)) iG [.scr ns, .int n] st (Lx .int [g0, g1, g2]) 2 st := by
  obtain ⟨v, hv⟩ := r_cell t ns hn.1 k st
  have big : (2 : Nat) ^ 64 < 2 ^ 400 := by decide +kernel
  have lt : ∀ x : Int, 0 ≤ x → x < 18446744073709551616 → x.natAbs < 2 ^ 400 := fun x h0 h1 => by
    have : x.natAbs < 2 ^ 64 := by omega
    omega
  have p600 : (((10 : Int) ^ (60 : Int).toNat) ^ (10 : Int).toNat) = 10 ^ 600 := by decide +kernel
  have m0 := fmod_rng (x := (if (0 : Int) > v - 10 ^ (18 : Int).toNat then 0 else v - 10 ^ (18 : Int).toNat)) (y := 10 ^ 600) (by decide +kernel)
  have m1 := fmod_rng (x := v) (y := 2147483647) (by decide)
  refine ⟨_, _, 1000 * n, ⟨m0.1, m0.2, m1.1, m1.2, by omega, by omega⟩, ?_⟩
  rw [← p600]
  refine y_fnD (T := T) t.g rfl (.cons (.cons (.none .nil))) rfl ?_
  refine y_asg (mo := 0) (v_call (vl_c (v_var rfl) (vl_c (v_varF rfl rfl) vl_n)) hv) rfl (.inl rfl) (.s (.s (.z rfl))) (by decide) ?_
  refine x_retD (v_ls2 (f := D.int) (vx_c2 (f := D.int) (v_mod (v_int (v_max2 (v_sub (v_varF rfl rfl) (v_pow (v_con rfl) (v_con rfl) (by decide +kernel))) (v_con rfl))) (v_pow (v_pow (v_con rfl) (v_con rfl) (by decide +kernel)) (v_con rfl) (by decide +kernel)) (by decide +kernel)) (vx_c2 (f := D.int) (v_mod (v_int (v_varF rfl rfl)) (v_con rfl) (by decide)) (vx_c2 (f := D.int) (v_mul (v_con rfl) (v_varF rfl rfl) (mulOk_of (lt _ (by omega) (by omega)) (lt _ (by omega) (by omega)))) vx_n)))) rfl
end
end IX
/-! JG: lent blocks, generators made, drawn worths. Own work. -/
namespace IX
open PySem

inductive ProtA (wr : List Nat) : Nat → List SA → List SA → Prop where
  | nil {k : Nat} : ProtA wr k [] []
  | keep {k : Nat} {a : SA} {A B : List SA} (h : wr.contains k = true) : ProtA wr (k + 1) A B → ProtA wr k (a :: A) (a :: B)
  | hide {k : Nat} {A B : List SA} (h : wr.contains k = false) : ProtA wr (k + 1) A B → ProtA wr k (none :: A) (some (.non, 4) :: B)
  | lend {k : Nat} {d : D} {m : Nat} {A B : List SA} (h : wr.contains k = false) (hm : (m == 4) = false) : ProtA wr (k + 1) A B → ProtA wr k (some (d, m) :: A) (some (d, 3) :: B)
inductive BackA (wr : List Nat) : Nat → List SA → List SA → Prop where
  | nil {k : Nat} : BackA wr k [] []
  | keep {k : Nat} {a : SA} {A B : List SA} (h : wr.contains k = false) : BackA wr (k + 1) A B → BackA wr k (a :: A) (a :: B)
  | drop {k : Nat} {a : SA} {A B : List SA} (h : wr.contains k = true) (ok : okA a = true) : BackA wr (k + 1) A B → BackA wr k (a :: A) (none :: B)
theorem ProtA.sat {wr : List Nat} {k : Nat} {A B : List SA} (h : ProtA wr k A B) : ∀ {ρ : SEnv}, Sat A ρ → Sat B (protGo wr k ρ) := by
  induction h with
  | nil =>
    intro ρ hs
    cases ρ with
    | nil => trivial
    | cons o r => exact hs.elim
  | keep h _ ih =>
    intro ρ hs
    cases ρ with
    | nil => exact hs.elim
    | cons o r =>
      simp only [protGo, h, if_true]
      exact ⟨hs.1, ih hs.2⟩
  | hide h _ ih =>
    intro ρ hs
    cases ρ with
    | nil => exact hs.elim
    | cons o r =>
      simp only [protGo, h, Bool.false_eq_true, if_false]
      exact ⟨.inl rfl, ih hs.2⟩
  | lend h hm _ ih =>
    intro ρ hs
    cases ρ with
    | nil => exact hs.elim
    | cons o r =>
      simp only [protGo, h, Bool.false_eq_true, if_false]
      refine ⟨?_, ih hs.2⟩
      rcases hs.1 with h4 | ⟨l, rfl, _⟩
      · simp [h4] at hm
      · exact .inr ⟨3, rfl, .inl ⟨rfl, rfl⟩⟩
theorem BackA.sat {wr : List Nat} {k : Nat} {A B : List SA} (h : BackA wr k A B) : ∀ {ρ ρ2 : SEnv}, Sat A ρ → ρ2.length = A.length → Sat B (backGo wr k ρ ρ2) := by
  induction h with
  | nil =>
    intro ρ ρ2 hs hl
    cases ρ with
    | nil => trivial
    | cons o r => exact hs.elim
  | keep h _ ih =>
    intro ρ ρ2 hs hl
    cases ρ with
    | nil => exact hs.elim
    | cons o r =>
      cases ρ2 with
      | nil => cases hl
      | cons p q =>
        simp only [backGo, h, Bool.false_eq_true, if_false]
        exact ⟨hs.1, ih hs.2 (by simpa using hl)⟩
  | drop h ok _ ih =>
    intro ρ ρ2 hs hl
    cases ρ with
    | nil => exact hs.elim
    | cons o r =>
      cases ρ2 with
      | nil => cases hl
      | cons p q =>
        simp only [backGo, h, if_true]
        refine ⟨fun d hd => ?_, ih hs.2 (by simpa using hl)⟩
        have lo := hs.1.loose ok
        unfold backOf at hd
        split at hd
        · rename_i e
          exact lo _ rfl
        · split at hd
          · split at hd
            · cases hd
            · cases hd
          · cases hd
section
variable {call : Nat → List D → Sto → R DL} {η : Env} {A A1 A2 : List SA} {ρ : SEnv} {vs wr : List Nat} {st st1 st2 st3 : Sto} {e a b c x : E} {d d1 d2 : D} {m m1 m2 mo : Nat} {i j : Nat} {p q r : Ss} {Q : Fl → SEnv → Sto → Prop} {es : Es}
theorem y_prot (pa : ProtA wr 0 A A1) (ba : BackA wr 0 A A2) (h : Ex call p A1 st (fun f ρ st' => f = .nx ∧ (∃ B, B.length = A.length ∧ Sat B ρ) ∧ Ex call r A2 st' Q)) : Ex call (.prot wr p r) A st Q := fun ρ hs => by
  obtain ⟨f, ρ2, st2, h1, rfl, ⟨B, hB, h2⟩, h3⟩ := h _ (pa.sat hs)
  obtain ⟨f', ρ3, st3, g1, g2⟩ := h3 _ (ba.sat hs (by rw [← h2.len, hB]))
  exact ⟨f', ρ3, st3, by simp only [execSs, h1, bind_ok, g1], g2⟩
theorem scal_ints : ∀ xs : List Int, (xs.map D.int).all D.scal = true
  | [] => rfl
  | x :: xs => by simp [D.scal, scal_ints xs]
theorem y_asgc {xs : List Int} (h : Ev call e (envF A) st (Lx .int xs) 2 st1) (hs : SetA (some (.cell st1.length, 0)) A i A1) (k : Ex call r A1 (st1 ++ [xs.map .int]) Q) : Ex call (.cons (.asgc i e) r) A st Q := fun ρ hsat => by
  obtain ⟨l, h1, h2, h3⟩ := evF h hsat
  obtain ⟨rfl, o, ho, ok⟩ := hs.eq
  obtain ⟨f', ρ2, st2, g1, g2⟩ := k _ (hsat.set (o := some (.cell st1.length, 2)) i (SOk.mk (Nat.zero_le _) (Nat.le_refl _)))
  refine ⟨f', ρ2, st2, ?_, g2⟩
  have hl : (xs.map D.int).all D.scal = true ∧ (l = 1 ∨ l = 2) := ⟨scal_ints xs, by omega⟩
  simp only [execSs, execS, h1, bind_ok, Lx]
  rw [if_pos hl]
  simp only [setS_set hsat ⟨ho, ok⟩, stoU, bind_ok, g1]
theorem y_parc {xs ys : List Int} (h : Ev call a (envF A) st (Lx .int xs) 2 st1) (g : Ev call b (envF A) st1 (Lx .int ys) 2 st2) (hs : SetA (some (.cell st2.length, 0)) A i A1) (hs2 : SetA (some (.cell (st2.length + 1), 0)) A1 j A2) (hij : i ≠ j) (k : Ex call r A2 (st2 ++ [xs.map .int, ys.map .int]) Q) : Ex call (.cons (.parc i j a b) r) A st Q := fun ρ hsat => by
  obtain ⟨l, h1, h2, h3⟩ := evF h hsat
  obtain ⟨l2, g1, g2, g3⟩ := evF g hsat
  obtain ⟨rfl, o, ho, ok⟩ := hs.eq
  obtain ⟨rfl, o2, ho2, ok2⟩ := hs2.eq
  have s1 := hsat.set (o := some (.cell st2.length, 2)) (a := some (.cell st2.length, 0)) i (SOk.mk (Nat.zero_le _) (Nat.le_refl _))
  have s2 := s1.set (o := some (.cell (st2.length + 1), 2)) (a := some (.cell (st2.length + 1), 0)) j (SOk.mk (Nat.zero_le _) (Nat.le_refl _))
  obtain ⟨f', ρ2, st3, k1, k2⟩ := k _ s2
  refine ⟨f', ρ2, st3, ?_, k2⟩
  have hl : (xs.map D.int).all D.scal = true ∧ (l = 1 ∨ l = 2) ∧ (ys.map D.int).all D.scal = true ∧ (l2 = 1 ∨ l2 = 2) ∧ i ≠ j := ⟨scal_ints xs, by omega, scal_ints ys, by omega, hij⟩
  simp only [execSs, execS, h1, g1, bind_ok, Lx]
  rw [if_pos hl]
  simp only [setS_set hsat ⟨ho, ok⟩, Option.bind_some, setS_set s1 ⟨ho2, ok2⟩, stoU, bind_ok, k1]
/-- the law's own start -/
theorem y_law {T : List Fn} {k f nl : Nat} {bd : Ss} {ns : List Int} (hT : T[f]? = some ⟨1, nl, bd⟩) (hA : StA (nl - 1) [] A) (h : Ex (run T k) bd (some (.scr ns, 5) :: A) [] (fun f _ _ => ∃ l, f = .ret (.bl true) l)) : ∃ m st', run T (k + 1) f [.scr ns] [] = .ok (.bl true, m) st' := by
  have e0 : startA (nl - 1) [] = A := hA.eq
  simp only [startA, List.map_nil, List.nil_append, List.length_nil, Nat.sub_zero] at e0
  have s0 : Sat A (List.replicate (nl - 1) none) := Eq.mp (congrArg (fun z => Sat z (List.replicate (nl - 1) none)) e0) (sat_none (nl - 1))
  have s1 : Sat (some (D.scr ns, 5) :: A) (some (D.scr ns, 0) :: List.replicate (nl - 1) none) := ⟨.inr ⟨0, rfl, .inr (.inl ⟨rfl, rfl⟩)⟩, s0⟩
  obtain ⟨fl, ρ', st', h1, l, rfl⟩ := h _ s1
  have e : startS ⟨1, nl, bd⟩ [D.scr ns] = some (D.scr ns, 0) :: List.replicate (nl - 1) none := rfl
  simp only [run, hT, List.length_singleton, if_true, e]
  rw [h1]
  simp only [outOf]
  by_cases q : st'.length = ([] : Sto).length
  · exact ⟨l, st', by rw [if_pos q]⟩
  · exact ⟨2, _, by rw [if_neg q]; rfl⟩
end
theorem gs_gen {g0 g1 g2 : Int} (h : 0 ≤ g0 ∧ g0 < 10 ^ 600 ∧ 0 ≤ g1 ∧ g1 < 2147483647 ∧ 0 ≤ g2 ∧ g2 ≤ 1000000) : Gc 1000000 (([g0, g1, g2] : List Int).map D.int) := ⟨g0, g1, g2, rfl, h.1, h.2.1, h.2.2.1, h.2.2.2.1, h.2.2.2.2.1, h.2.2.2.2.2⟩
/-! ### drawn worths -/
def bWhole (iR : Nat) : Ss := (.cons (.ret (.lc (.call iR (.cons (.var 0) (.cons (.bi .len (.cons (.var 1) .nil)) .nil))) (.nm 2) (.seq (.ix (.var 1) (.con (.int 0)))) .nil) [0, 1, 1]) .nil)
def bWorths (iR iP : Nat) : Ss := (.cons (.asg 4 (.call iR (.cons (.var 0) (.cons (.con (.int 4)) .nil))) [0]) (.cons (.ite (.cmp .eq (.var 4) (.con (.int 0))) [4] (.cons (.asg 5 (.lc (.call iR (.cons (.var 0) (.cons (.bin .add (.var 3) (.con (.int 1))) .nil))) (.nm 7) (.rng1 (.var 2)) .nil) [0, 3, 2]) (.cons (.ret (.lc (.lc (.bi .max2 (.cons (.con (.int 0)) (.cons (.bin .sub (.bin .add (.var 8) (.call iR (.cons (.var 0) (.cons (.con (.int 3)) .nil)))) (.con (.int 1))) .nil))) (.nm 8) (.seq (.var 5)) .nil) (.nm 6) (.rng1 (.var 1)) .nil) [8, 0, 5, 1]) .nil)) .nil) (.cons (.ite (.cmp .eq (.var 4) (.con (.int 1))) [4] (.cons (.ret (.lc (.lc (.call iP (.cons (.var 0) (.cons (.lst (.cons (.con (.int 0)) (.cons (.con (.int 0)) (.cons (.con (.int 1)) (.cons (.var 3) .nil))))) .nil))) (.nm 7) (.rng1 (.var 2)) .nil) (.nm 6) (.rng1 (.var 1)) .nil) [0, 3, 2, 1]) .nil) .nil) (.cons (.ret (.lc (.lc (.call iR (.cons (.var 0) (.cons (.bin .add (.var 3) (.con (.int 1))) .nil))) (.nm 7) (.rng1 (.var 2)) .nil) (.nm 6) (.rng1 (.var 1)) .nil) [0, 3, 2, 1]) .nil))))
def bDrawn (iR iP iW : Nat) : Ss := (.cons (.par 3 4 (.bin .add (.con (.int 1)) (.call iR (.cons (.var 0) (.cons (.var 1) .nil)))) (.bin .add (.con (.int 1)) (.call iR (.cons (.var 0) (.cons (.var 2) .nil)))) [0, 1, 0, 2]) (.cons (.ret (.call iW (.cons (.var 0) (.cons (.var 3) (.cons (.var 4) (.cons (.call iP (.cons (.var 0) (.cons (.lst (.cons (.con (.int 1)) (.cons (.con (.int 2)) (.cons (.con (.int 9)) (.cons (.con (.int 100)) (.cons (.con (.int 998)) .nil)))))) .nil))) .nil))))) [0, 3, 4, 0]) .nil))
section
variable {T : List Fn} {iH iR iC iG iP iW iD iE : Nat}
theorem rngI_len (n : Int) : (rngI 0 n).length = n.toNat := by simp [rngI]
/-- rows of numbers from 0 to some greatest -/
def Rows (W : List (List Int)) (h n : Nat) (most : Int) : Prop := W.length = h ∧ ∀ r ∈ W, r.length = n ∧ ∀ v ∈ r, 0 ≤ v ∧ v ≤ most
theorem r_whole (t : DrawT T iH iR iC iG iP) (hW : T[iE]? = some ⟨2, 3, bWhole iR⟩) {W : List (List Int)} {r0 : List Int} (h0 : W[0]? = some r0) (h1 : W.length < 1000) (h2 : r0.length ≤ 1000) {c N : Nat} {st : Sto} (hG : Gs N st) (hN : N + 1000 ≤ 1000000000) (hc : c < st.length) (k : Nat) :
    ∃ (v : List Int) (st' : Sto), (v.length = r0.length ∧ ∀ x ∈ v, 0 ≤ x ∧ x < W.length) ∧ Gs (N + 1000) st' ∧ st'.length = st.length ∧ Cl (run T (k + 3)) iE [.cell c, Lx (Lx D.int) W] st (Lx D.int v) 2 st' := by
  have hl : 0 < W.length := (List.getElem?_eq_some_iff.mp h0).1
  have g0 : getL W 0 = r0 := by
    unfold getL
    rw [List.getD_eq_getElem?_getD, show (0 : Int).toNat = 0 from rfl, h0]
    rfl
  have hs : EvSr (run T (k + 2)) (.seq (.ix (.var 1) (.con (.int 0)))) (envA [some (D.cell c, 0), some (Lx (Lx D.int) W, 0), none]) st ((getL W 0).map D.int) st := sr_seq (f := D.int) (v_ix (f := Lx D.int) (v_var rfl) (v_con rfl) ⟨by decide, by omega⟩)
  obtain ⟨ys, st', p1, p2, p3, p4, p5⟩ := v_lcD (call := run T (k + 2)) (t := .nm 2) (v := .call iR (.cons (.var 0) (.cons (.bi .len (.cons (.var 1) .nil)) .nil))) (f := D.int) (m := 2) (P := fun x => 0 ≤ x ∧ x < W.length) (η1 := fun x => [some (D.cell c), some (Lx (Lx D.int) W), some (D.int x)]) 1 (N := N) hs hG (fun _ _ => rfl) (fun x hx M st1 hM hle hl1 => by
    rw [g0] at hle
    obtain ⟨v, st2, q1, q2, q3, q4⟩ := r_random t (b := W.length) ⟨by omega, by omega⟩ (c := c) hM (by omega) (by omega) k
    exact ⟨v, st2, q1, q2, by omega, v_call (vl_c (v_var rfl) (vl_c (v_len (f := Lx D.int) (v_var rfl)) vl_n)) q4⟩)
  rw [g0] at p1 p3
  exact ⟨ys, st', ⟨p1, p2⟩, p3.mono (by omega), p4, y_fnD (T := T) (f := iE) hW rfl (.cons (.cons (.none .nil))) p4 (x_retD p5 rfl)⟩
/-- rows drawn by rows of draws -/
theorem rows_D {call : Nat → List D → Sto → R DL} {η : Env} {v : E} {s1 s2 : Sr} {i j : Nat} {h n : Nat} {most : Int} {c : Nat} (hs1 : ∀ st, EvSr call s1 η st ((rngI 0 h).map D.int) st) {η1 : Int → Env} (hb1 : ∀ x, Tg.bind (.nm i) (.int x) (wipeE η [i]) = some (η1 x)) {xs : List Int} (hx : xs.length = n) (hs2 : ∀ x st, EvSr call s2 (η1 x) st (xs.map D.int) st) {η2 : Int → Int → Env} (hb2 : ∀ x y, Tg.bind (.nm j) (.int y) (wipeE (η1 x) [j]) = some (η2 x y))
    {N : Nat} {st : Sto} (hG : Gs N st) (hN : N + n * h ≤ 1000000000) (hc : c < st.length)
    (hv : ∀ x, ∀ y ∈ xs, ∀ M st', Gs M st' → M + 1 ≤ 1000000000 → c < st'.length → ∃ z st'', (0 ≤ z ∧ z ≤ most) ∧ Gs (M + 1) st'' ∧ st''.length = st'.length ∧ Ev call v (η2 x y) st' (.int z) 2 st'') :
    ∃ (W : List (List Int)) (st' : Sto), Rows W h n most ∧ Gs (N + n * h) st' ∧ st'.length = st.length ∧ Ev call (.lc (.lc v (.nm j) s2 .nil) (.nm i) s1 .nil) η st (Lx (Lx D.int) W) 2 st' := by
  obtain ⟨W, st', p1, p2, p3, p4, p5⟩ := v_lcD (call := call) (t := .nm i) (v := .lc v (.nm j) s2 .nil) (f := Lx D.int) (m := 2) (P := fun r => r.length = n ∧ ∀ z ∈ r, 0 ≤ z ∧ z ≤ most) (η1 := η1) n (N := N) (hs1 st) hG (fun x _ => hb1 x) (fun x hx1 M st1 hM hle hl1 => by
    rw [rngI_len] at hle
    obtain ⟨ys, st2, q1, q2, q3, q4, q5⟩ := v_lcD (call := call) (t := .nm j) (v := v) (f := D.int) (m := 2) (P := fun z => 0 ≤ z ∧ z ≤ most) (η1 := η2 x) 1 (N := M) (hs2 x st1) hM (fun y _ => hb2 x y) (fun y hy M2 st3 hM2 hle2 hl2 => by
      have e : n * ((h : Int).toNat) = n * h := by simp
      rw [e] at hle
      rw [hx] at hle2
      obtain ⟨z, st4, w1, w2, w3, w4⟩ := hv x y hy M2 st3 hM2 (by omega) (by omega)
      exact ⟨z, st4, w1, w2, by omega, w4⟩)
    rw [hx] at q1 q3
    exact ⟨ys, st2, ⟨q1, q2⟩, by rw [Nat.one_mul] at q3; exact q3, by omega, q5⟩)
  rw [rngI_len] at p1 p3
  exact ⟨W, st', ⟨by simpa using p1, p2⟩, by simpa using p3, p4, p5⟩
theorem r_worths (t : DrawT T iH iR iC iG iP) (hW : T[iW]? = some ⟨4, 9, bWorths iR iP⟩) {h n : Nat} (hh : h ≤ 100) (hn : n ≤ 100) {most : Int} (hm : 0 ≤ most ∧ most ≤ 100000) {c N : Nat} {st : Sto} (hG : Gs N st) (hN : N + 20000 ≤ 1000000000) (hc : c < st.length) (k : Nat) :
    ∃ (W : List (List Int)) (st' : Sto), Rows W h n (max 1 (most + 1)) ∧ Gs (N + 20000) st' ∧ st'.length = st.length ∧ Cl (run T (k + 4)) iW [.cell c, .int h, .int n, .int most] st (Lx (Lx D.int) W) 2 st' := by
  have hhn : n * h ≤ 10000 := Nat.mul_le_mul hn hh
  obtain ⟨w, st1, hw, hG1, hL1, hE1⟩ := r_random t (b := 4) ⟨by decide, by decide⟩ hG (by omega) hc (k + 1)
  have asg : ∀ {st' : Sto} {W : List (List Int)}, st'.length = st.length → Ex (run T (k + 3)) _ [some (D.cell c, 0), some (D.int h, 0), some (D.int n, 0), some (D.int most, 0), some (D.int w, 0), none, none, none, none] st1 (PRet (Lx (Lx D.int) W) 2 st') → Cl (run T (k + 4)) iW [.cell c, .int h, .int n, .int most] st (Lx (Lx D.int) W) 2 st' := fun hL h => y_fnD (T := T) (f := iW) hW rfl (.cons (.cons (.cons (.cons (.none (.none (.none (.none (.none .nil)))))))))  hL (y_asg (mo := 0) (v_call (vl_c (v_var rfl) (vl_c (v_con rfl) vl_n)) hE1) rfl (.inl rfl) (.s (.s (.s (.s (.z rfl))))) (by decide) h)
  have eq0 := v_eq (call := run T (k + 3)) (η := envA [some (D.cell c, 0), some (D.int h, 0), some (D.int n, 0), some (D.int most, 0), some (D.int w, 0), none, none, none, none]) (st := st1) eq_int (v_varF (i := 4) (d := .int w) rfl rfl) (v_con (d := .int 0) rfl)
  have eq1 := v_eq (call := run T (k + 3)) (η := envA [some (D.cell c, 0), some (D.int h, 0), some (D.int n, 0), some (D.int most, 0), some (D.int w, 0), none, none, none, none]) (st := st1) eq_int (v_varF (i := 4) (d := .int w) rfl rfl) (v_con (d := .int 1) rfl)
  have sub : ∀ W, Rows W h n most → Rows W h n (max 1 (most + 1)) := fun W hr => ⟨hr.1, fun r hr1 => ⟨(hr.2 r hr1).1, fun v hv => ⟨((hr.2 r hr1).2 v hv).1, by have := ((hr.2 r hr1).2 v hv).2; omega⟩⟩⟩
  have rl : (rngI 0 (n : Int)).length = n := by rw [rngI_len]; simp
  by_cases q0 : w = 0
  · rw [show (w == 0) = true by simp [q0]] at eq0
    have hs : EvSr (run T (k + 3)) (.rng1 (.var 2)) (envA [some (D.cell c, 0), some (D.int h, 0), some (D.int n, 0), some (D.int most, 0), some (D.int w, 0), none, none, none, none]) st1 ((rngI 0 n).map D.int) st1 := sr_rng1 (v_varF rfl rfl) ⟨by omega, by omega⟩
    obtain ⟨row, st2, p1, p2, p3, p4, p5⟩ := v_lcD (call := run T (k + 3)) (t := .nm 7) (v := .call iR (.cons (.var 0) (.cons (.bin .add (.var 3) (.con (.int 1))) .nil))) (f := D.int) (m := 2) (P := fun x => 0 ≤ x ∧ x ≤ most) (η1 := fun x => [some (D.cell c), some (D.int h), some (D.int n), some (D.int most), some (D.int w), none, none, some (D.int x), none]) 1 (N := N + 1) hs hG1 (fun _ _ => rfl) (fun x hx M st3 hM hle hl => by
      rw [rl] at hle
      obtain ⟨v, st4, q1, q2, q3, q4⟩ := r_random t (b := most + 1) ⟨by omega, by omega⟩ (c := c) hM (by omega) (by omega) (k + 1)
      exact ⟨v, st4, ⟨q1.1, by omega⟩, q2, by omega, v_call (vl_c (v_var rfl) (vl_c (v_add (v_varF rfl rfl) (v_con rfl)) vl_n)) q4⟩)
    rw [rl] at p1 p3
    obtain ⟨W, st5, r1, r2, r3, r4⟩ := rows_D (call := run T (k + 3)) (η := envA [some (D.cell c, 0), some (D.int h, 0), some (D.int n, 0), some (D.int most, 0), some (D.int w, 0), some (Lx D.int row, 0), none, none, none]) (v := .bi .max2 (.cons (.con (.int 0)) (.cons (.bin .sub (.bin .add (.var 8) (.call iR (.cons (.var 0) (.cons (.con (.int 3)) .nil)))) (.con (.int 1))) .nil))) (s1 := .rng1 (.var 1)) (s2 := .seq (.var 5)) (i := 6) (j := 8) (h := h) (n := n) (most := max 1 (most + 1)) (c := c) (fun st => sr_rng1 (v_varF rfl rfl) ⟨by omega, by omega⟩)
      (η1 := fun x => [some (D.cell c), some (D.int h), some (D.int n), some (D.int most), some (D.int w), some (Lx D.int row), some (D.int x), none, none]) (fun _ => rfl) p1 (fun x st => sr_seq (f := D.int) (v_var rfl)) (η2 := fun x y => [some (D.cell c), some (D.int h), some (D.int n), some (D.int most), some (D.int w), some (Lx D.int row), some (D.int x), none, some (D.int y)]) (fun _ _ => rfl) p3 (by omega) (by omega) (fun x y hy M st6 hM hle hl => by
        obtain ⟨v, st7, q1, q2, q3, q4⟩ := r_random t (b := 3) ⟨by decide, by decide⟩ (c := c) hM (by omega) hl (k + 1)
        have hy2 := p2 y hy
        exact ⟨_, st7, by split <;> omega, q2, q3, v_max2 (v_con rfl) (v_sub (v_add (v_varF rfl rfl) (v_call (vl_c (v_var rfl) (vl_c (v_con rfl) vl_n)) q4)) (v_con rfl))⟩)
    refine ⟨W, st5, r1, r2.mono (by omega), by omega, asg (by omega) (x_iteT eq0 rfl ?_)⟩
    refine y_asg (mo := 0) p5 rfl (.inl rfl) (.s (.s (.s (.s (.s (.z rfl)))))) (by decide) ?_
    exact x_retD r4 rfl
  · rw [show (w == 0) = false by simpa using q0] at eq0
    by_cases q1 : w = 1
    · rw [show (w == 1) = true by simp [q1]] at eq1
      obtain ⟨W, st5, r1, r2, r3, r4⟩ := rows_D (call := run T (k + 3)) (η := envA [some (D.cell c, 0), some (D.int h, 0), some (D.int n, 0), some (D.int most, 0), some (D.int w, 0), none, none, none, none]) (v := .call iP (.cons (.var 0) (.cons (.lst (.cons (.con (.int 0)) (.cons (.con (.int 0)) (.cons (.con (.int 1)) (.cons (.var 3) .nil))))) .nil))) (s1 := .rng1 (.var 1)) (s2 := .rng1 (.var 2)) (i := 6) (j := 7) (h := h) (n := n) (most := max 1 (most + 1)) (c := c) (fun st => sr_rng1 (v_varF rfl rfl) ⟨by omega, by omega⟩)
        (η1 := fun x => [some (D.cell c), some (D.int h), some (D.int n), some (D.int most), some (D.int w), none, some (D.int x), none, none]) (fun _ => rfl) rl (fun x st => sr_rng1 (v_varF rfl rfl) ⟨by omega, by omega⟩) (η2 := fun x y => [some (D.cell c), some (D.int h), some (D.int n), some (D.int most), some (D.int w), none, some (D.int x), some (D.int y), none]) (fun _ _ => rfl) hG1 (by omega) (by omega) (fun x y hy M st6 hM hle hl => by
          obtain ⟨v, st7, q1, q2, q3, q4⟩ := r_pickF t (f := D.int) (xs := [0, 0, 1, most]) (fun _ => rfl) ⟨by simp, by simp⟩ (c := c) hM (by omega) hl k
          refine ⟨v, st7, ?_, q2, q3, v_call (vl_c (v_var rfl) (vl_c (v_ls2 (f := D.int) (vx_c2 (f := D.int) (v_con rfl) (vx_c2 (f := D.int) (v_con rfl) (vx_c2 (f := D.int) (v_con rfl) (vx_c2 (f := D.int) (v_varF rfl rfl) vx_n))))) vl_n)) q4⟩
          simp only [List.mem_cons, List.not_mem_nil, or_false] at q1
          omega)
      exact ⟨W, st5, r1, r2.mono (by omega), by omega, asg (by omega) (x_iteF eq0 rfl (x_iteT eq1 rfl (x_retD r4 rfl)))⟩
    · rw [show (w == 1) = false by simpa using q1] at eq1
      obtain ⟨W, st5, r1, r2, r3, r4⟩ := rows_D (call := run T (k + 3)) (η := envA [some (D.cell c, 0), some (D.int h, 0), some (D.int n, 0), some (D.int most, 0), some (D.int w, 0), none, none, none, none]) (v := .call iR (.cons (.var 0) (.cons (.bin .add (.var 3) (.con (.int 1))) .nil))) (s1 := .rng1 (.var 1)) (s2 := .rng1 (.var 2)) (i := 6) (j := 7) (h := h) (n := n) (most := most) (c := c) (fun st => sr_rng1 (v_varF rfl rfl) ⟨by omega, by omega⟩)
        (η1 := fun x => [some (D.cell c), some (D.int h), some (D.int n), some (D.int most), some (D.int w), none, some (D.int x), none, none]) (fun _ => rfl) rl (fun x st => sr_rng1 (v_varF rfl rfl) ⟨by omega, by omega⟩) (η2 := fun x y => [some (D.cell c), some (D.int h), some (D.int n), some (D.int most), some (D.int w), none, some (D.int x), some (D.int y), none]) (fun _ _ => rfl) hG1 (by omega) (by omega) (fun x y hy M st6 hM hle hl => by
          obtain ⟨v, st7, q1, q2, q3, q4⟩ := r_random t (b := most + 1) ⟨by omega, by omega⟩ (c := c) hM (by omega) hl (k + 1)
          exact ⟨v, st7, by omega, q2, q3, v_call (vl_c (v_var rfl) (vl_c (v_add (v_varF rfl rfl) (v_con rfl)) vl_n)) q4⟩)
      exact ⟨W, st5, sub W r1, r2.mono (by omega), by omega, asg (by omega) (x_iteF eq0 rfl (x_iteF eq1 rfl (x_retD r4 rfl)))⟩
theorem r_drawn (t : DrawT T iH iR iC iG iP) (hW : T[iW]? = some ⟨4, 9, bWorths iR iP⟩) (hD : T[iD]? = some ⟨3, 5, bDrawn iR iP iW⟩) {mh mt : Nat} (hh : 1 ≤ mh ∧ mh ≤ 50) (hn : 1 ≤ mt ∧ mt ≤ 50) {c N : Nat} {st : Sto} (hG : Gs N st) (hN : N + 30000 ≤ 1000000000) (hc : c < st.length) (k : Nat) :
    ∃ (h n : Nat) (W : List (List Int)) (st' : Sto), (1 ≤ h ∧ h ≤ mh ∧ 1 ≤ n ∧ n ≤ mt ∧ Rows W h n 999) ∧ Gs (N + 30000) st' ∧ st'.length = st.length ∧ Cl (run T (k + 5)) iD [.cell c, .int mh, .int mt] st (Lx (Lx D.int) W) 2 st' := by
  obtain ⟨v1, st1, q1, q2, q3, q4⟩ := r_random t (b := mh) ⟨by omega, by omega⟩ (c := c) hG (by omega) hc (k + 2)
  obtain ⟨v2, st2, p1, p2, p3, p4⟩ := r_random t (b := mt) ⟨by omega, by omega⟩ (c := c) q2 (by omega) (by omega) (k + 2)
  obtain ⟨v3, st3, s1, s2, s3, s4⟩ := r_pickF t (f := D.int) (xs := [1, 2, 9, 100, 998]) (fun _ => rfl) ⟨by simp, by simp⟩ (c := c) p2 (by omega) (by omega) (k + 1)
  have m3 : 1 ≤ v3 ∧ v3 ≤ 998 := by
    simp only [List.mem_cons, List.not_mem_nil, or_false] at s1
    omega
  obtain ⟨W, st4, r1, r2, r3, r4⟩ := r_worths t hW (h := (1 + v1).toNat) (n := (1 + v2).toNat) (by omega) (by omega) (most := v3) ⟨by omega, by omega⟩ (c := c) s2 (by omega) (by omega) k
  have e1 : (((1 + v1).toNat : Nat) : Int) = 1 + v1 := by omega
  have e2 : (((1 + v2).toNat : Nat) : Int) = 1 + v2 := by omega
  rw [e1, e2] at r4
  refine ⟨(1 + v1).toNat, (1 + v2).toNat, W, st4, ⟨by omega, by omega, by omega, by omega, r1.1, fun r hr => ⟨(r1.2 r hr).1, fun v hv => ⟨((r1.2 r hr).2 v hv).1, by have := ((r1.2 r hr).2 v hv).2; omega⟩⟩⟩, r2.mono (by omega), by omega, ?_⟩
  refine y_fnD (T := T) (f := iD) hD rfl (.cons (.cons (.cons (.none (.none .nil))))) (by omega) ?_
  refine y_par (m' := 0) (m1' := 0) (v_add (v_con rfl) (v_call (vl_c (v_var rfl) (vl_c (v_varF rfl rfl) vl_n)) q4)) (v_add (v_con rfl) (v_call (vl_c (v_var rfl) (vl_c (v_varF rfl rfl) vl_n)) p4)) rfl rfl (.inl rfl) (.s (.s (.s (.z rfl)))) (.s (.s (.s (.s (.z rfl))))) (by decide) (by decide) (by decide) ?_
  exact x_retD (v_call (vl_c (v_var rfl) (vl_c (v_varF rfl rfl) (vl_c (v_varF rfl rfl) (vl_c (v_call (vl_c (v_var rfl) (vl_c (v_ls2 (f := D.int) (vx_c2 (f := D.int) (v_con rfl) (vx_c2 (f := D.int) (v_con rfl) (vx_c2 (f := D.int) (v_con rfl) (vx_c2 (f := D.int) (v_con rfl) (vx_c2 (f := D.int) (v_con rfl) vx_n)))))) vl_n)) s4) vl_n)))) r4) rfl
end
end IX
/-! JH: the text of lists of numbers. Own work. -/
namespace IX
open PySem

theorem strOk_app (a b : Str) : PyData.strOk (a ++ b) = (PyData.strOk a && PyData.strOk b) := by
  show (Str.append a b).cps.all _ = _
  simp [Str.append, PyData.strOk]
theorem strOk_of (s : String) : PyData.strOk (Str.ofString s) = true := by
  rw [Str.ofString_eq_toList]
  simp only [PyData.strOk, List.all_toArray, List.all_map, List.all_eq_true, Function.comp_apply, decide_eq_true_eq]
  intro c _
  have := c.valid
  have h : c.toNat = c.val.toNat := rfl
  rcases this with h1 | h1
  · have : c.val.toNat < 0xD800 := h1
    omega
  · have : c.val.toNat < 0x110000 := h1.2
    omega
mutual
def niceP : PyData → Bool
  | .none => true | .bool _ => true
  | .int i => decide (i.natAbs < 10 ^ 12)
  | .list xs => nicePL xs | .tuple xs => nicePL xs
  | _ => false
def nicePL : List PyData → Bool
  | [] => true
  | x :: xs => niceP x && nicePL xs
end
theorem strOk_text : ∀ (ts : List Str) (k : Nat) (acc : Str), PyData.strOk acc = true → (∀ t ∈ ts, PyData.strOk t = true) → PyData.strOk (textFrom k acc ts) = true
  | [], k, acc, h, _ => h
  | t :: ts, k, acc, h, hs => by
    simp only [textFrom]
    refine strOk_text ts _ _ ?_ fun u hu => hs u (List.mem_cons_of_mem _ hu)
    rw [strOk_app, strOk_app, h, hs t List.mem_cons_self]
    split <;> simp [strOk_of]
theorem strOk_join : ∀ (ts : List Str) (sep : Str), PyData.strOk sep = true → (∀ t ∈ ts, PyData.strOk t = true) → PyData.strOk (Str.join sep ts) = true
  | [], sep, h, _ => by simp [Str.join, Str.empty, PyData.strOk]
  | [t], sep, h, hs => hs t List.mem_cons_self
  | t :: u :: ts, sep, h, hs => by
    simp only [Str.join]
    rw [strOk_app, strOk_app, h, hs t List.mem_cons_self, strOk_join (u :: ts) sep h fun v hv => hs v (List.mem_cons_of_mem _ hv)]
    rfl
mutual
theorem nice_shown : ∀ p : PyData, niceP p = true → PyData.strOk p.shown = true
  | .none, _ => strOk_of _
  | .bool b, _ => by
    simp only [PyData.shown]
    split <;> exact strOk_of _
  | .int i, _ => strOk_of _
  | .list xs, h => by
    have hs := nice_shownL xs h
    simp only [PyData.shown, listText]
    rw [strOk_app, strOk_text _ _ _ (strOk_of _) hs]
    exact strOk_of _
  | .tuple xs, h => by
    have hs := nice_shownL xs h
    simp only [PyData.shown, tupleText]
    rw [strOk_app, strOk_app, strOk_join _ _ (strOk_of _) hs]
    split <;> simp [strOk_of]
  | .str x, h => by cases h
  | .dict x, h => by cases h
theorem nice_shownL : ∀ xs : List PyData, nicePL xs = true → ∀ t ∈ PyData.shownAll xs, PyData.strOk t = true
  | [], _, t, ht => by cases ht
  | x :: xs, h, t, ht => by
    simp only [nicePL, Bool.and_eq_true] at h
    simp only [PyData.shownAll] at ht
    rcases List.mem_cons.mp ht with rfl | ht
    · exact nice_shown x h.1
    · exact nice_shownL xs h.2 t ht
end
mutual
theorem nice_lay : ∀ p : PyData, niceP p = true → p.canLay0 = true
  | .none, _ => rfl
  | .bool b, _ => rfl
  | .int i, _ => rfl
  | .list xs, h => by
    simp only [PyData.canLay0]
    exact nice_layL xs h
  | .tuple xs, h => by
    simp only [PyData.canLay0]
    exact nice_layL xs h
  | .str x, h => by cases h
  | .dict x, h => by cases h
theorem nice_layL : ∀ xs : List PyData, nicePL xs = true → PyData.canLayAll0 xs = true
  | [], _ => rfl
  | x :: xs, h => by
    simp only [nicePL, Bool.and_eq_true] at h
    simp only [PyData.canLayAll0, nice_lay x h.1, nice_layL xs h.2, Bool.and_self]
end
mutual
theorem nice_showable : ∀ p : PyData, niceP p = true → p.showable = true
  | .none, _ => rfl
  | .bool b, _ => rfl
  | .int i, h => by
    simp only [niceP, decide_eq_true_eq] at h
    simp only [PyData.showable, decide_eq_true_eq]
    have : i.natAbs.log2 ≤ 40 := by
      by_cases q : i.natAbs = 0
      · rw [q]; decide
      · have := (Nat.log2_lt q (k := 40)).mpr (by omega)
        omega
    omega
  | .list xs, h => by
    simp only [PyData.showable]
    exact nice_showableL xs h
  | .tuple xs, h => by
    simp only [PyData.showable]
    exact nice_showableL xs h
  | .str x, h => by cases h
  | .dict x, h => by cases h
theorem nice_showableL : ∀ xs : List PyData, nicePL xs = true → PyData.showableAll xs = true
  | [], _ => rfl
  | x :: xs, h => by
    simp only [nicePL, Bool.and_eq_true] at h
    simp only [PyData.showableAll, nice_showable x h.1, nice_showableL xs h.2, Bool.and_self]
end
mutual
theorem nice_short : ∀ p : PyData, niceP p = true → p.intsShort 13 = true
  | .none, _ => rfl
  | .bool b, _ => rfl
  | .int i, h => by
    simp only [niceP, decide_eq_true_eq] at h
    simp only [PyData.intsShort, decide_eq_true_eq]
    exact PyData.shown_int_le h
  | .list xs, h => by
    simp only [PyData.intsShort]
    exact nice_shortL xs h
  | .tuple xs, h => by
    simp only [PyData.intsShort]
    exact nice_shortL xs h
  | .str x, h => by cases h
  | .dict x, h => by cases h
theorem nice_shortL : ∀ xs : List PyData, nicePL xs = true → PyData.intsShortAll 13 xs = true
  | [], _ => rfl
  | x :: xs, h => by
    simp only [nicePL, Bool.and_eq_true] at h
    simp only [PyData.intsShortAll, nice_short x h.1, nice_shortL xs h.2, Bool.and_self]
end
theorem nice_repr {p : PyData} (h : niceP p = true) (hd : p.depth ≤ 64) (hw : p.weight ≤ 2 ^ 20) (hi : PyProof.Rows.isDisplay p = true) : reprOk p = true := by
  have hl : p.layable0 = true := by
    show (p.canLay0 && decide (p.depth ≤ 64) && decide (p.weight ≤ 2 ^ 20)) = true
    rw [nice_lay p h, decide_eq_true hd, decide_eq_true hw]
    rfl
  have h1 := PyData.shown_fits_of_layable0 (B := 13) (by decide) (by decide) hl (nice_short p h)
  simp only [reprOk, nice_showable p h, PyData.hasDict_of_canLay p (nice_lay p h), Bool.not_false, decide_eq_true h1, decide_eq_true hd, hi, Bool.and_self]
def textD (d : D) : Str := (d.py.getD .none).shown
section
variable {call : Nat → List D → Sto → R DL} {η : Env} {st st1 st2 : Sto} {a b : E} {d : D} {m m1 : Nat}
theorem v_reprN {p : PyData} (h : Ev call a η st d m st1) (hp : d.py = some p) (hn : niceP p = true) (hd : p.depth ≤ 64) (hw : p.weight ≤ 2 ^ 20) (hi : PyProof.Rows.isDisplay p = true) : Ev call (.bi .repr (.cons a .nil)) η st (.str p.shown) 2 st1 := v_repr h hp (nice_repr hn hd hw hi)
theorem v_eqS {x : Str} (h : Ev call a η st (.str x) m st1) (g : Ev call b η st1 (.str x) m1 st2) (ok : PyData.strOk x = true) : Ev call (.cmp .eq a b) η st (.bl true) 2 st2 := by
  refine evcmp h g ?_
  have hs : SeqAt.shaped (PyData.str x) = true := by simp [SeqAt.shaped, PyData.canLay0, PyData.depth, ok]
  simp only [cmpD, eqD, pyPair, D.py, hs, Bool.and_self, if_true, Option.map_some]
  simp [PyData.eqv]
end
/-! lists of lists of numbers -/
theorem nice_ints : ∀ xs : List Int, (∀ x ∈ xs, x.natAbs < 10 ^ 12) → nicePL (xs.map .int) = true
  | [], _ => rfl
  | x :: xs, h => by
    simp only [List.map_cons, nicePL, niceP, decide_eq_true (h x List.mem_cons_self), nice_ints xs fun y hy => h y (List.mem_cons_of_mem _ hy), Bool.and_self]
def pyLL (W : List (List Int)) : PyData := .list (W.map fun r => .list (r.map .int))
theorem py_LL (W : List (List Int)) : (Lx (Lx D.int) W).py = some (pyLL W) := EqE.int.lst.lst.py W
theorem dep_LL (W : List (List Int)) : (pyLL W).depth ≤ 2 := EqE.int.lst.lst.dep W
theorem weight_ints : ∀ xs : List Int, (∀ x ∈ xs, x.natAbs < 10 ^ 12) → PyData.weightAll (xs.map .int) ≤ 42 * xs.length
  | [], _ => by simp [PyData.weightAll]
  | x :: xs, h => by
    have h1 := weight_ints xs fun y hy => h y (List.mem_cons_of_mem _ hy)
    have h2 : PyData.weight (.int x) ≤ 41 := by
      simp only [PyData.weight]
      split
      · omega
      · by_cases q : x.natAbs = 0
        · rw [q]; decide
        · have := (Nat.log2_lt q (k := 40)).mpr (by have := h x List.mem_cons_self; omega)
          omega
    simp only [List.map_cons, PyData.weightAll, List.length_cons]
    omega
theorem weight_rows : ∀ (W : List (List Int)) (n : Nat), (∀ r ∈ W, r.length ≤ n ∧ ∀ x ∈ r, x.natAbs < 10 ^ 12) → PyData.weightAll (W.map fun r => .list (r.map .int)) ≤ W.length * (42 * n + 1)
  | [], n, _ => by simp [PyData.weightAll]
  | r :: W, n, h => by
    have h1 := h r List.mem_cons_self
    have h2 := weight_rows W n fun s hs => h s (List.mem_cons_of_mem _ hs)
    have h3 := weight_ints r h1.2
    have h4 : (W.length + 1) * (42 * n + 1) = W.length * (42 * n + 1) + (42 * n + 1) := Nat.succ_mul _ _
    simp only [List.map_cons, PyData.weightAll, PyData.weight, List.length_cons, h4]
    omega
theorem nice_rows : ∀ (W : List (List Int)), (∀ r ∈ W, ∀ x ∈ r, x.natAbs < 10 ^ 12) → nicePL (W.map fun r => .list (r.map .int)) = true
  | [], _ => rfl
  | r :: W, h => by
    simp only [List.map_cons, nicePL, niceP, nice_ints r (h r List.mem_cons_self), nice_rows W fun s hs => h s (List.mem_cons_of_mem _ hs), Bool.and_self]
theorem v_reprLL {call : Nat → List D → Sto → R DL} {η : Env} {st st1 : Sto} {a : E} {m : Nat} {W : List (List Int)} (h : Ev call a η st (Lx (Lx D.int) W) m st1) (h1 : W.length ≤ 100) (h2 : ∀ r ∈ W, r.length ≤ 100 ∧ ∀ x ∈ r, x.natAbs < 10 ^ 12) : Ev call (.bi .repr (.cons a .nil)) η st (.str (pyLL W).shown) 2 st1 := by
  have w := weight_rows W 100 h2
  have d := dep_LL W
  refine v_reprN h (py_LL W) (nice_rows W fun r hr => (h2 r hr).2) (by omega) ?_ rfl
  have e : (pyLL W).weight = PyData.weightAll (W.map fun r => .list (r.map .int)) := by simp only [pyLL, PyData.weight]
  have : W.length * (42 * 100 + 1) ≤ 100 * (42 * 100 + 1) := Nat.mul_le_mul_right _ h1
  omega
theorem strOk_LL {W : List (List Int)} (h2 : ∀ r ∈ W, r.length ≤ 100 ∧ ∀ x ∈ r, x.natAbs < 10 ^ 12) : PyData.strOk (pyLL W).shown = true := nice_shown _ (nice_rows W fun r hr => (h2 r hr).2)
end IX
/-! JI: plain facts about lists of numbers. Own work. -/
namespace IX
open PySem

theorem rngI_cons {lo hi : Int} (h : lo < hi) : rngI lo hi = lo :: rngI (lo + 1) hi := by
  unfold rngI
  have e : (hi - lo).toNat = (hi - (lo + 1)).toNat + 1 := by omega
  rw [e, List.range_succ_eq_map]
  simp only [List.map_cons, List.map_map, Int.natCast_zero, Int.add_zero, List.cons.injEq, true_and]
  refine List.map_congr_left fun i _ => ?_
  simp only [Function.comp_apply, Nat.succ_eq_add_one, Int.natCast_add, Int.natCast_one]
  omega
theorem rngI_nil {lo hi : Int} (h : hi ≤ lo) : rngI lo hi = [] := by
  unfold rngI
  have e : (hi - lo).toNat = 0 := by omega
  rw [e]
  rfl
theorem mem_rngI {lo hi n : Int} : n ∈ rngI lo hi ↔ lo ≤ n ∧ n < hi := by
  refine ⟨rngI_mem, fun h => ?_⟩
  unfold rngI
  exact List.mem_map.mpr ⟨(n - lo).toNat, List.mem_range.mpr (by omega), by omega⟩
theorem getL_cons0 {α : Type} [Inhabited α] (x : α) (xs : List α) : getL (x :: xs) 0 = x := rfl
theorem getL_consS {α : Type} [Inhabited α] (x : α) (xs : List α) {i : Int} (h : 0 < i) : getL (x :: xs) i = getL xs (i - 1) := by
  unfold getL
  have e : i.toNat = (i - 1).toNat + 1 := by omega
  rw [e]
  rfl
theorem map_getLk {α : Type} [Inhabited α] : ∀ (xs : List α) (k : Int), (rngI k (k + xs.length)).map (fun i => getL xs (i - k)) = xs
  | [], k => by rw [rngI_nil (by simp)]; rfl
  | x :: xs, k => by
    rw [rngI_cons (by simp only [List.length_cons]; omega), List.map_cons, Int.sub_self, getL_cons0]
    congr 1
    have ih := map_getLk xs (k + 1)
    have e : k + ((x :: xs).length : Int) = k + 1 + xs.length := by simp only [List.length_cons]; omega
    rw [e]
    refine Eq.trans (List.map_congr_left fun i hi => ?_) ih
    have := (mem_rngI.mp hi).1
    rw [getL_consS _ _ (by omega)]
    congr 1
    omega
theorem map_getL {α : Type} [Inhabited α] (xs : List α) : (rngI 0 xs.length).map (getL xs) = xs := by
  have := map_getLk xs 0
  simp only [Int.zero_add, Int.sub_zero] at this
  exact this
theorem enuI_len {α : Type} : ∀ (xs : List α) (k : Int), (enuI k xs).length = xs.length
  | [], k => rfl
  | x :: xs, k => by simp [enuI, enuI_len xs]
theorem enuI_eqk {α : Type} [Inhabited α] : ∀ (xs : List α) (k : Int), enuI k xs = (rngI k (k + xs.length)).map fun i => (i, getL xs (i - k))
  | [], k => by rw [rngI_nil (by simp)]; rfl
  | x :: xs, k => by
    rw [rngI_cons (by simp only [List.length_cons]; omega), List.map_cons, Int.sub_self, getL_cons0]
    have e : k + ((x :: xs).length : Int) = k + 1 + xs.length := by simp only [List.length_cons]; omega
    rw [e, enuI, enuI_eqk xs (k + 1)]
    congr 1
    refine List.map_congr_left fun i hi => ?_
    have := (mem_rngI.mp hi).1
    rw [getL_consS _ _ (by omega)]
    congr 2
    omega
theorem enuI_eq {α : Type} [Inhabited α] (xs : List α) : enuI 0 xs = (rngI 0 xs.length).map fun i => (i, getL xs i) := by
  have := enuI_eqk xs 0
  simp only [Int.zero_add, Int.sub_zero] at this
  exact this
theorem enuI_mem {α : Type} [Inhabited α] {xs : List α} {p : Int × α} (h : p ∈ enuI 0 xs) : inb xs p.1 ∧ p.2 = getL xs p.1 ∧ p.2 ∈ xs := by
  rw [enuI_eq] at h
  obtain ⟨i, hi, rfl⟩ := List.mem_map.mp h
  have := mem_rngI.mp hi
  exact ⟨this, rfl, getL_mem this⟩
/-- the things that w gives to h -/
def lotI (w : List Int) (h : Int) : List Int := (rngI 0 w.length).filter fun i => getL w i == h
theorem lot_eq (w : List Int) (h : Int) : ((enuI 0 w).filter fun x => x.2 == h).map (fun x => x.1) = lotI w h := by
  rw [enuI_eq, List.filter_map, List.map_map]
  unfold lotI
  rw [show (fun x : Int × Int => x.1) ∘ (fun i => (i, getL w i)) = id from rfl, List.map_id]
  rfl
theorem lotI_mem {w : List Int} {h i : Int} : i ∈ lotI w h ↔ (0 ≤ i ∧ i < w.length) ∧ getL w i = h := by
  unfold lotI
  rw [List.mem_filter, mem_rngI]
  simp
theorem getL_map {α β : Type} [Inhabited α] [Inhabited β] (f : α → β) {xs : List α} {i : Int} (h : inb xs i) : getL (xs.map f) i = f (getL xs i) := by
  obtain ⟨h0, h1⟩ := h
  have hj : i.toNat < xs.length := by omega
  simp [getL, List.getD_eq_getElem?_getD, List.getElem?_eq_getElem hj]
theorem inb_map {α β : Type} (f : α → β) {xs : List α} {i : Int} : inb (xs.map f) i ↔ inb xs i := by simp [inb]
theorem getL_rng {n : Nat} {i : Int} (h : 0 ≤ i ∧ i < n) : getL (rngI 0 n) i = i := by
  unfold rngI
  have hj : i.toNat < n := by omega
  simp [getL, List.getD_eq_getElem?_getD, List.getElem?_map, hj]
  omega
theorem inb_rng {n : Nat} {i : Int} : inb (rngI 0 n) i ↔ 0 ≤ i ∧ i < n := by
  unfold inb
  rw [rngI_len]
  simp
theorem getL_rmap {β : Type} [Inhabited β] {f : Int → β} {n : Nat} {i : Int} (h : 0 ≤ i ∧ i < n) : getL ((rngI 0 n).map f) i = f i := by
  rw [getL_map f (inb_rng.mpr h), getL_rng h]
theorem getL_ext {α : Type} [Inhabited α] {xs ys : List α} (hl : xs.length = ys.length) (h : ∀ i, inb xs i → getL xs i = getL ys i) : xs = ys := by
  rw [← map_getL xs, ← map_getL ys, ← hl]
  exact List.map_congr_left fun i hi => h i (mem_rngI.mp hi)
/-! greatest and least -/
theorem fold_max : ∀ (xs : List Int) (a : Int), let r := xs.foldl (fun a b => if a < b then b else a) a; (r = a ∨ r ∈ xs) ∧ a ≤ r ∧ ∀ x ∈ xs, x ≤ r
  | [], a => ⟨.inl rfl, Int.le_refl _, fun x h => by cases h⟩
  | x :: xs, a => by
    have ih := fold_max xs (if a < x then x else a)
    simp only [List.foldl_cons] at ih ⊢
    refine ⟨?_, ?_, fun y hy => ?_⟩
    · rcases ih.1 with h | h
      · rw [h]
        split
        · exact .inr List.mem_cons_self
        · exact .inl rfl
      · exact .inr (List.mem_cons_of_mem _ h)
    · refine Int.le_trans ?_ ih.2.1
      split <;> omega
    · rcases List.mem_cons.mp hy with rfl | hy
      · refine Int.le_trans ?_ ih.2.1
        split <;> omega
      · exact ih.2.2 y hy
theorem fold_min : ∀ (xs : List Int) (a : Int), let r := xs.foldl (fun a b => if b < a then b else a) a; (r = a ∨ r ∈ xs) ∧ r ≤ a ∧ ∀ x ∈ xs, r ≤ x
  | [], a => ⟨.inl rfl, Int.le_refl _, fun x h => by cases h⟩
  | x :: xs, a => by
    have ih := fold_min xs (if x < a then x else a)
    simp only [List.foldl_cons] at ih ⊢
    refine ⟨?_, ?_, fun y hy => ?_⟩
    · rcases ih.1 with h | h
      · rw [h]
        split
        · exact .inr List.mem_cons_self
        · exact .inl rfl
      · exact .inr (List.mem_cons_of_mem _ h)
    · refine Int.le_trans ih.2.1 ?_
      split <;> omega
    · rcases List.mem_cons.mp hy with rfl | hy
      · refine Int.le_trans ih.2.1 ?_
        split <;> omega
      · exact ih.2.2 y hy
theorem mxI_spec {xs : List Int} (h : xs ≠ []) : mxI xs ∈ xs ∧ ∀ x ∈ xs, x ≤ mxI xs := by
  cases xs with
  | nil => exact absurd rfl h
  | cons a r =>
    have := fold_max r a
    refine ⟨?_, fun x hx => ?_⟩
    · rcases this.1 with e | e
      · exact List.mem_cons.mpr (.inl e)
      · exact List.mem_cons_of_mem _ e
    · rcases List.mem_cons.mp hx with rfl | hx
      · exact this.2.1
      · exact this.2.2 x hx
theorem mnI_spec {xs : List Int} (h : xs ≠ []) : mnI xs ∈ xs ∧ ∀ x ∈ xs, mnI xs ≤ x := by
  cases xs with
  | nil => exact absurd rfl h
  | cons a r =>
    have := fold_min r a
    refine ⟨?_, fun x hx => ?_⟩
    · rcases this.1 with e | e
      · exact List.mem_cons.mpr (.inl e)
      · exact List.mem_cons_of_mem _ e
    · rcases List.mem_cons.mp hx with rfl | hx
      · exact this.2.1
      · exact this.2.2 x hx
theorem mxI_eq {xs : List Int} {v : Int} (h : v ∈ xs) (h2 : ∀ x ∈ xs, x ≤ v) : mxI xs = v := by
  have := mxI_spec (xs := xs) (List.ne_nil_of_mem h)
  have a := this.2 v h
  have b := h2 _ this.1
  omega
theorem mnI_eq {xs : List Int} {v : Int} (h : v ∈ xs) (h2 : ∀ x ∈ xs, v ≤ x) : mnI xs = v := by
  have := mnI_spec (xs := xs) (List.ne_nil_of_mem h)
  have a := this.2 v h
  have b := h2 _ this.1
  omega
/-- the first greatest mark -/
theorem best_fold {α β : Type} (f : α → Int) (g : α → β) (d : Int × β) : ∀ (xs : List α) (o : Option (Int × β)), (o.isSome = true ∨ xs ≠ []) →
    ∃ m b, xs.foldl (fun s x => cond (s.isNone || decide ((s.getD d).1 < f x)) (some (f x, g x)) s) o = some (m, b) ∧ (some (m, b) = o ∨ ∃ x ∈ xs, m = f x ∧ b = g x) ∧ (∀ x ∈ xs, f x ≤ m) ∧ (∀ p, o = some p → p.1 ≤ m)
  | [], o, h => by
    rcases h with h | h
    · cases o with
      | none => cases h
      | some p => exact ⟨p.1, p.2, rfl, .inl rfl, fun x h => (by cases h), fun q hq => by cases hq; exact Int.le_refl _⟩
    · exact absurd rfl h
  | x :: xs, o, h => by
    simp only [List.foldl_cons]
    cases o with
    | none =>
      obtain ⟨m, b, h1, h2, h3, h4⟩ := best_fold f g d xs (some (f x, g x)) (.inl rfl)
      refine ⟨m, b, h1, .inr ?_, fun y hy => ?_, fun p hp => by cases hp⟩
      · rcases h2 with h2 | ⟨y, hy, e⟩
        · cases h2
          exact ⟨x, List.mem_cons_self, rfl, rfl⟩
        · exact ⟨y, List.mem_cons_of_mem _ hy, e⟩
      · rcases List.mem_cons.mp hy with rfl | hy
        · exact h4 _ rfl
        · exact h3 y hy
    | some p =>
      simp only [Option.isNone_some, Bool.false_or, Option.getD_some]
      by_cases q : p.1 < f x
      · simp only [q, decide_true, cond_true]
        obtain ⟨m, b, h1, h2, h3, h4⟩ := best_fold f g d xs (some (f x, g x)) (.inl rfl)
        have hx := h4 _ rfl
        refine ⟨m, b, h1, .inr ?_, fun y hy => ?_, fun r hr => by cases hr; omega⟩
        · rcases h2 with h2 | ⟨y, hy, e⟩
          · cases h2
            exact ⟨x, List.mem_cons_self, rfl, rfl⟩
          · exact ⟨y, List.mem_cons_of_mem _ hy, e⟩
        · rcases List.mem_cons.mp hy with rfl | hy
          · exact hx
          · exact h3 y hy
      · simp only [q, decide_false, cond_false]
        obtain ⟨m, b, h1, h2, h3, h4⟩ := best_fold f g d xs (some p) (.inl rfl)
        have hp := h4 _ rfl
        refine ⟨m, b, h1, ?_, fun y hy => ?_, fun r hr => by cases hr; exact hp⟩
        · rcases h2 with h2 | ⟨y, hy, e⟩
          · exact .inl h2
          · exact .inr ⟨y, List.mem_cons_of_mem _ hy, e⟩
        · rcases List.mem_cons.mp hy with rfl | hy
          · omega
          · exact h3 y hy
/-! sums of parts -/
theorem sum_part {α : Type} (p : α → Bool) (f : α → Int) : ∀ xs : List α, ((xs.filter p).map f).sum + ((xs.filter fun x => !p x).map f).sum = (xs.map f).sum
  | [] => rfl
  | x :: xs => by
    have ih := sum_part p f xs
    simp only [List.filter_cons, List.map_cons, List.sum_cons]
    cases hp : p x with
    | true => simp; omega
    | false => simp; omega
/-! all wholes -/
theorem wholes_val {m : Nat} : ∀ {n : Nat} {w : List Int}, w ∈ wholesOf m n → ∀ v ∈ w, 0 ≤ v ∧ v < m
  | 0, w, h, v, hv => by
    rw [List.mem_singleton.mp h] at hv
    cases hv
  | n + 1, w, h, v, hv => by
    obtain ⟨l, h1, h2⟩ := List.mem_flatten.mp h
    obtain ⟨u, h3, rfl⟩ := List.mem_map.mp h1
    obtain ⟨j, h4, rfl⟩ := List.mem_map.mp h2
    rcases List.mem_append.mp hv with hv | hv
    · exact wholes_val h3 v hv
    · rw [List.mem_singleton.mp hv]
      have := List.mem_range.mp h4
      omega
theorem wholes_count {m : Nat} : ∀ n : Nat, (wholesOf m n).length = m ^ n
  | 0 => rfl
  | n + 1 => by
    have ih := wholes_count (m := m) n
    simp only [wholesOf, List.length_flatten, List.map_map]
    rw [List.map_congr_left (g := fun _ => m) (fun w _ => by simp), List.map_const', List.sum_replicate_nat, ih, Nat.pow_succ]
theorem wholes_iff {m n : Nat} {w : List Int} : w ∈ wholesOf m n ↔ w.length = n ∧ ∀ v ∈ w, 0 ≤ v ∧ v < m := ⟨fun h => ⟨wholes_len h, wholes_val h⟩, fun h => wholes_mem h.1 h.2⟩
theorem wholes_ne {m n : Nat} (hm : 1 ≤ m) : wholesOf m n ≠ [] := by
  have : List.replicate n (0 : Int) ∈ wholesOf m n := wholes_mem (by simp) fun v hv => by
    rw [(List.mem_replicate.mp hv).2]
    omega
  exact List.ne_nil_of_mem this
/-- one step of both programs -/
def wstep (m : Nat) (s : List (List Int)) : List (List Int) := (s.map fun w => (rngI 0 m).map fun h => w ++ [h]).flatten
theorem wholes_step (m n : Nat) : wholesOf m (n + 1) = wstep m (wholesOf m n) := by
  simp only [wholesOf, wstep, rngI, List.map_map]
  congr 1
  refine List.map_congr_left fun w _ => ?_
  rw [show ((m : Int) - 0).toNat = m by omega]
  refine List.map_congr_left fun i _ => ?_
  simp
theorem wholes_fold (m : Nat) {α : Type} : ∀ (xs : List α) (j : Nat), xs.foldl (fun s _ => wstep m s) (wholesOf m j) = wholesOf m (j + xs.length)
  | [], j => rfl
  | x :: xs, j => by
    rw [List.foldl_cons, ← wholes_step, wholes_fold m xs (j + 1), List.length_cons]
    congr 1
    omega
theorem grow_fold {α β : Type} (f : α → List β) : ∀ (xs : List α) (acc : List β), xs.foldl (fun s x => s ++ f x) acc = acc ++ (xs.map f).flatten
  | [], acc => by simp
  | x :: xs, acc => by
    rw [List.foldl_cons, grow_fold f xs]
    simp [List.append_assoc]
/-! more rules -/
section
variable {call : Nat → List D → Sto → R DL} {η : Env} {st st1 st2 : Sto} {a b : E} {m : Nat}
theorem evorF {v : Bool} (h : Ev call a η st (.bl false) m st1) (g : Ev call b η st1 (.bl v) 2 st2) : Ev call (.or a b) η st (.bl v) 2 st2 := by
  obtain ⟨l, h1, h2, h3⟩ := h
  obtain ⟨l2, g1, g2, g3⟩ := g
  exact ⟨l2, by simp only [evalE, h1, bind_ok, bool?, g1], g2, g3⟩
theorem v_list2 {α : Type} {f : α → D} {xs : List α} (h : Ev call a η st (Lx f xs) m st1) (hf : ∀ y, (f y).flat = true) : Ev call (.bi .list (.cons a .nil)) η st (Lx f xs) 2 st1 := by
  obtain ⟨l, h1, h2, h3⟩ := h
  have fl : D.flatL (xs.map f) = true := by
    clear h1
    induction xs with
    | nil => rfl
    | cons z r ih => simp [D.flatL, hf, ih]
  have e : lvItems l (xs.map f) = 2 := by simp [lvItems, fl]
  exact ⟨2, by simp only [evalE, evalEs, h1, bind_ok, biD, listD, Lx, of_some, e], Nat.le_refl _, Nat.le_refl _⟩
end
theorem same_lst {α : Type} {f : α → D} {xs : List α} {n : Nat} (h : ∀ x ∈ xs, sameOk (f x) = true ∧ sameD (f x) ≤ n) (hl : xs.length ≤ 100000) : sameOk (Lx f xs) = true ∧ sameD (Lx f xs) ≤ n + 1 := by
  have aux : ∀ ys : List α, (∀ x ∈ ys, sameOk (f x) = true ∧ sameD (f x) ≤ n) → sameOkL (ys.map f) = true ∧ sameDL (ys.map f) ≤ n := fun ys => by
    induction ys with
    | nil => exact fun _ => ⟨rfl, Nat.zero_le _⟩
    | cons y ys ih =>
      intro h
      have h1 := h y List.mem_cons_self
      have h2 := ih fun x hx => h x (List.mem_cons_of_mem _ hx)
      simp only [List.map_cons, sameOkL, sameDL, h1.1, h2.1, Bool.and_self, true_and]
      omega
  have := aux xs h
  simp only [Lx, sameOk, sameD, this.1, Bool.and_true, decide_eq_true_eq, List.length_map]
  exact ⟨hl, by omega⟩
theorem same_int (x : Int) : sameOk (D.int x) = true ∧ sameD (D.int x) ≤ 1 := ⟨rfl, Nat.le_refl _⟩
theorem same_bl (x : Bool) : sameOk (D.bl x) = true ∧ sameD (D.bl x) ≤ 1 := ⟨rfl, Nat.le_refl _⟩
theorem same_ints {xs : List Int} (hl : xs.length ≤ 100000) : sameOk (Lx D.int xs) = true ∧ sameD (Lx D.int xs) ≤ 2 := same_lst (fun x _ => same_int x) hl
theorem same_opt {α : Type} {f : α → D} {n : Nat} (hn : 1 ≤ n) {o : Option α} (h : ∀ x, o = some x → sameOk (f x) = true ∧ sameD (f x) ≤ n) : sameOk (Ox f o) = true ∧ sameD (Ox f o) ≤ n := by
  cases o with
  | none => exact ⟨rfl, hn⟩
  | some x => exact h x rfl
theorem first_of {α : Type} [Inhabited α] (p : α → Bool) (xs : List α) : (cond (!(xs.filter p).isEmpty) (some (getL (xs.filter p) 0)) none) = xs.find? p := by
  induction xs with
  | nil => rfl
  | cons x r ih =>
    rw [List.find?_cons, List.filter_cons]
    cases hp : p x with
    | true => rfl
    | false => exact ih
/-- a def's word, with cells that are somehow -/
theorem y_fnE {T : List Fn} {k f np nl m : Nat} {bd : Ss} {xs : List D} {A : List SA} {st : Sto} {d : D} {P : Sto → Prop} (hT : T[f]? = some ⟨np, nl, bd⟩) (hl : xs.length = np) (hA : StA nl xs A) (h : Ex (run T k) bd A st (fun f _ st' => (P st' ∧ st'.length = st.length) ∧ ∃ l, f = .ret d l ∧ m ≤ l ∧ l ≤ 2)) : ∃ st', P st' ∧ st'.length = st.length ∧ Cl (run T (k + 1)) f xs st d m st' := by
  subst hl
  have s0 := sat_start xs (nl - xs.length)
  rw [← hA.eq] at h
  obtain ⟨fl, ρ', st', h1, ⟨hP, hL⟩, l, rfl, h3, h4⟩ := h _ s0
  refine ⟨st', hP, hL, l, ?_, h3, h4⟩
  simp only [run, hT, if_true, startS]
  rw [h1]
  simp only [outOf, hL, if_true]
end IX
namespace K58
open PySem PySem.Spec PyProof.Rows L2 Evl IX
def topS (i : Nat) : Stmt := PySem.Challenge.pw_heirshares_k58_whole_cut_and_choose.main.body.getD i (.Pass ⟨0, 0, 0, 0⟩)
def ci : CI where
  fs := [fe "is_whole" ["value"], fe "is_count" ["value"], fe "is_below" ["value", "bound"], fe "is_worth_row" ["value"], fe "are_worths" ["value"], fe "is_whole_of" ["worths", "value"], fe "check_worths" ["worths"], fe "check_heir" ["worths", "heir"], fe "lot_of" ["whole", "heir"], fe "lots_in" ["worths", "whole"], fe "value_of" ["row", "lot"], fe "check_few" ["worths"], fe "all_wholes" ["worths"], fe "whole_gains" ["worths", "whole"], fe "best_parting" ["worths", "heir"], fe "check_known" ["worths", "heir"], fe "own_least" ["worths", "heir"], fe "check_two" ["worths", "heir"], fe "cut_and_choose" ["worths", "heir"], fe "is_cut_and_choose" ["worths", "heir", "value"], fe "all_least" ["worths"], fe "_law_hash" ["seed", "index"], fe "_law_random" ["generator", "bound"], fe "_law_cell" ["script", "index"], fe "_law_generator" ["script", "index"], fe "_law_pick" ["generator", "things"], fe "_law_same" ["told", "due"], fe "_law_worths" ["generator", "heirs", "things", "most"], fe "_law_drawn_worths" ["generator", "most_heirs", "most_things"], fe "_law_whole" ["generator", "worths"], fe "_law_lots" ["worths", "whole"], fe "_law_value" ["row", "lot"], fe "_law_whole_gains" ["worths", "whole"], fe "_law_is_below" ["bound", "value"], fe "_law_are_takers" ["heirs", "things", "value"], fe "_law_all_wholes" ["heirs", "things"], fe "_law_least" ["worths", "heir"], fe "_law_stands" ["worths", "heir", "value", "due"], fe "_law_two_right" ["generator", "worths"], fe "_law_all_right" ["worths"], fe "law" ["script"]]
  gl := [("MOST_HEIRS", .int 6), ("MOST_THINGS", .int 8), ("MOST_WORTH", .int 1000), ("MOST_WHOLES", .int 5000)]
  kw := [(18, 0, ["heir", "worths"]), (19, 0, ["value", "heir", "worths"]), (20, 0, ["worths"])]
  cells := [221]
  rl := []
  pl := [(205, 1)]
/-- is_whole -/
def cb0 : Option Ss := cSs ci ["value"] ["value"] (defScope (topS 7)) 60 (defBody (topS 7))
/-- is_count -/
def cb1 : Option Ss := cSs ci ["value"] ["value"] (defScope (topS 12)) 60 (defBody (topS 12))
/-- is_below -/
def cb2 : Option Ss := cSs ci ["value", "bound"] ["value", "bound"] (defScope (topS 13)) 60 (defBody (topS 13))
/-- is_worth_row -/
def cb3 : Option Ss := cSs ci ["value", "worth"] ["value"] (defScope (topS 14)) 60 (defBody (topS 14))
/-- are_worths -/
def cb4 : Option Ss := cSs ci ["value", "row"] ["value"] (defScope (topS 15)) 60 (defBody (topS 15))
/-- is_whole_of -/
def cb5 : Option Ss := cSs ci ["worths", "value", "heir"] ["worths", "value"] (defScope (topS 16)) 60 (defBody (topS 16))
/-- check_worths -/
def cb6 : Option Ss := cSs ci ["worths"] ["worths"] (defScope (topS 17)) 60 (defBody (topS 17))
/-- check_heir -/
def cb7 : Option Ss := cSs ci ["worths", "heir"] ["worths", "heir"] (defScope (topS 18)) 60 (defBody (topS 18))
/-- lot_of -/
def cb8 : Option Ss := cSs ci ["whole", "heir", "thing", "taker"] ["whole", "heir"] (defScope (topS 20)) 60 (defBody (topS 20))
/-- lots_in -/
def cb9 : Option Ss := cSs ci ["worths", "whole", "heir"] ["worths", "whole"] (defScope (topS 21)) 60 (defBody (topS 21))
/-- value_of -/
def cb10 : Option Ss := cSs ci ["row", "lot", "thing"] ["row", "lot"] (defScope (topS 22)) 60 (defBody (topS 22))
/-- check_few -/
def cb11 : Option Ss := cSs ci ["worths", "many", "thing"] ["worths"] (defScope (topS 25)) 60 (defBody (topS 25))
/-- all_wholes -/
def cb12 : Option Ss := cSs ci ["worths", "wholes", "thing", "longer", "whole", "heir"] ["worths"] (defScope (topS 26)) 60 (defBody (topS 26))
/-- whole_gains -/
def cb13 : Option Ss := cSs ci ["worths", "whole", "heir", "lot"] ["worths", "whole"] (defScope (topS 27)) 60 (defBody (topS 27))
/-- best_parting -/
def cb14 : Option Ss := cSs ci ["worths", "heir", "best", "whole", "lots", "least", "lot"] ["worths", "heir"] (defScope (topS 29)) 60 (defBody (topS 29))
/-- check_known -/
def cb15 : Option Ss := cSs ci ["worths", "heir"] ["worths", "heir"] (defScope (topS 30)) 60 (defBody (topS 30))
/-- own_least -/
def cb16 : Option Ss := cSs ci ["worths", "heir"] ["worths", "heir"] (defScope (topS 31)) 60 (defBody (topS 31))
/-- check_two -/
def cb17 : Option Ss := cSs ci ["worths", "heir"] ["worths", "heir"] (defScope (topS 32)) 60 (defBody (topS 32))
/-- cut_and_choose -/
def cb18 : Option Ss := cSs ci ["worths", "heir", "lots", "other", "taken", "thing"] ["worths", "heir"] (defScope (topS 33)) 60 (defBody (topS 33))
/-- is_cut_and_choose -/
def cb19 : Option Ss := cSs ci ["worths", "heir", "value", "lots", "other", "lot"] ["worths", "heir", "value"] (defScope (topS 34)) 60 (defBody (topS 34))
/-- all_least -/
def cb20 : Option Ss := cSs ci ["worths", "least", "whole", "gains", "heir", "gain"] ["worths"] (defScope (topS 35)) 60 (defBody (topS 35))
/-- _law_hash -/
def cb21 : Option Ss := cSs ci ["seed", "index", "mixed"] ["seed", "index"] (defScope (topS 37)) 60 (defBody (topS 37))
/-- _law_random -/
def cb22 : Option Ss := cSs ci ["generator", "bound", "drawn", "turn"] ["generator", "bound"] (defScope (topS 38)) 60 (defBody (topS 38))
/-- _law_cell -/
def cb23 : Option Ss := cSs ci ["script", "index"] ["script", "index"] (defScope (topS 39)) 60 (defBody (topS 39))
/-- _law_generator -/
def cb24 : Option Ss := cSs ci ["script", "index", "seed"] ["script", "index"] (defScope (topS 40)) 60 (defBody (topS 40))
/-- _law_pick -/
def cb25 : Option Ss := cSs ci ["generator", "things"] ["generator", "things"] (defScope (topS 41)) 60 (defBody (topS 41))
/-- _law_same -/
def cb26 : Option Ss := cSs ci ["told", "due", "at"] ["told", "due"] (defScope (topS 42)) 60 (defBody (topS 42))
/-- _law_worths -/
def cb27 : Option Ss := cSs ci ["generator", "heirs", "things", "most", "way", "row", "heir", "thing", "worth"] ["generator", "heirs", "things", "most"] (defScope (topS 43)) 60 (defBody (topS 43))
/-- _law_drawn_worths -/
def cb28 : Option Ss := cSs ci ["generator", "most_heirs", "most_things", "heirs", "things"] ["generator", "most_heirs", "most_things"] (defScope (topS 44)) 60 (defBody (topS 44))
/-- _law_whole -/
def cb29 : Option Ss := cSs ci ["generator", "worths", "thing"] ["generator", "worths"] (defScope (topS 45)) 60 (defBody (topS 45))
/-- _law_lots -/
def cb30 : Option Ss := cSs ci ["worths", "whole", "heir", "thing", "taker"] ["worths", "whole"] (defScope (topS 46)) 60 (defBody (topS 46))
/-- _law_value -/
def cb31 : Option Ss := cSs ci ["row", "lot", "thing"] ["row", "lot"] (defScope (topS 47)) 60 (defBody (topS 47))
/-- _law_whole_gains -/
def cb32 : Option Ss := cSs ci ["worths", "whole", "heir", "lot"] ["worths", "whole"] (defScope (topS 48)) 60 (defBody (topS 48))
/-- _law_is_below -/
def cb33 : Option Ss := cSs ci ["bound", "value"] ["bound", "value"] (defScope (topS 49)) 60 (defBody (topS 49))
/-- _law_are_takers -/
def cb34 : Option Ss := cSs ci ["heirs", "things", "value", "heir"] ["heirs", "things", "value"] (defScope (topS 50)) 60 (defBody (topS 50))
/-- _law_all_wholes -/
def cb35 : Option Ss := cSs ci ["heirs", "things", "wholes", "thing", "whole", "heir"] ["heirs", "things"] (defScope (topS 51)) 60 (defBody (topS 51))
/-- _law_least -/
def cb36 : Option Ss := cSs ci ["worths", "heir", "rows", "row", "lot"] ["worths", "heir"] (defScope (topS 52)) 60 (defBody (topS 52))
/-- _law_stands -/
def cb37 : Option Ss := cSs ci ["worths", "heir", "value", "due", "lots", "other", "lot"] ["worths", "heir", "value", "due"] (defScope (topS 53)) 60 (defBody (topS 53))
/-- _law_two_right -/
def cb38 : Option Ss := cSs ci ["generator", "worths", "heir", "kept", "leasts", "told", "gains", "values", "value", "copy", "due", "turn", "taker"] ["generator", "worths"] (defScope (topS 54)) 60 (defBody (topS 54))
/-- _law_all_right -/
def cb39 : Option Ss := cSs ci ["worths", "good", "due", "leasts", "rows", "row", "heir", "gain"] ["worths"] (defScope (topS 55)) 60 (defBody (topS 55))
/-- law -/
def cb40 : Option Ss := cSs ci ["script", "worths", "two", "generator", "other"] ["script"] (defScope (topS 56)) 60 (defBody (topS 56))
end K58
namespace K58
open PySem PySem.Spec PyProof.Rows L2 Evl IX
def b0 : Ss := (.cons (.ret (.and (.isi (.var 0) [.int]) (.not (.isi (.var 0) [.bool]))) [0, 0]) .nil)
theorem e0 : cb0 = some b0 := by kernel_rfl
def b1 : Ss := (.cons (.ret (.and (.call 0 (.cons (.var 0) .nil)) (.cmp .ge (.var 0) (.con (.int 0)))) [0, 0]) .nil)
theorem e1 : cb1 = some b1 := by kernel_rfl
def b2 : Ss := (.cons (.ret (.and (.call 1 (.cons (.var 0) .nil)) (.cmp .lt (.var 0) (.var 1))) [0, 0, 1]) .nil)
theorem e2 : cb2 = some b2 := by kernel_rfl
def b3 : Ss := (.cons (.ite (.or (.not (.isi (.var 0) [.list])) (.not (.cmp2 .le .le (.con (.int 1)) (.bi .len (.cons (.var 0) .nil)) (.glo "MOST_THINGS" (.int 8))))) [0, 0] (.cons (.ret (.con (.bl false)) []) .nil) .nil) (.cons (.ret (.cmp .eq (.lc (.var 1) (.nm 1) (.seq (.var 0)) (.cons (.not (.call 2 (.cons (.var 1) (.cons (.bin .add (.glo "MOST_WORTH" (.int 1000)) (.con (.int 1))) .nil)))) .nil)) (.lst .nil)) [1, 0, 1]) .nil))
theorem e3 : cb3 = some b3 := by kernel_rfl
def b4 : Ss := (.cons (.ite (.or (.not (.isi (.var 0) [.list])) (.not (.cmp2 .le .le (.con (.int 1)) (.bi .len (.cons (.var 0) .nil)) (.glo "MOST_HEIRS" (.int 6))))) [0, 0] (.cons (.ret (.con (.bl false)) []) .nil) .nil) (.cons (.ite (.cmp .ne (.lc (.var 1) (.nm 1) (.seq (.var 0)) (.cons (.not (.call 3 (.cons (.var 1) .nil))) .nil)) (.lst .nil)) [1, 0, 1] (.cons (.ret (.con (.bl false)) []) .nil) .nil) (.cons (.ret (.cmp .eq (.lc (.var 1) (.nm 1) (.seq (.var 0)) (.cons (.cmp .ne (.bi .len (.cons (.var 1) .nil)) (.bi .len (.cons (.ix (.var 0) (.con (.int 0))) .nil))) .nil)) (.lst .nil)) [1, 0, 1, 0]) .nil)))
theorem e4 : cb4 = some b4 := by kernel_rfl
def b5 : Ss := (.cons (.ite (.or (.not (.isi (.var 1) [.list])) (.cmp .ne (.bi .len (.cons (.var 1) .nil)) (.bi .len (.cons (.ix (.var 0) (.con (.int 0))) .nil)))) [1, 1, 0] (.cons (.ret (.con (.bl false)) []) .nil) .nil) (.cons (.ret (.cmp .eq (.lc (.var 2) (.nm 2) (.seq (.var 1)) (.cons (.not (.call 2 (.cons (.var 2) (.cons (.bi .len (.cons (.var 0) .nil)) .nil)))) .nil)) (.lst .nil)) [2, 1, 2, 0]) .nil))
theorem e5 : cb5 = some b5 := by kernel_rfl
def b6 : Ss := (.cons (.ite (.not (.call 4 (.cons (.var 0) .nil))) [0] (.cons (.rais (.con .non)) .nil) .nil) .nil)
theorem e6 : cb6 = some b6 := by kernel_rfl
def b7 : Ss := (.cons (.ite (.not (.call 2 (.cons (.var 1) (.cons (.bi .len (.cons (.var 0) .nil)) .nil)))) [1, 0] (.cons (.rais (.con .non)) .nil) .nil) .nil)
theorem e7 : cb7 = some b7 := by kernel_rfl
def b8 : Ss := (.cons (.ret (.lc (.var 2) (.tp [(.nm 2), (.nm 3)]) (.enu (.var 0)) (.cons (.cmp .eq (.var 3) (.var 1)) .nil)) [2, 0, 3, 1]) .nil)
theorem e8 : cb8 = some b8 := by kernel_rfl
def b9 : Ss := (.cons (.ret (.lc (.call 8 (.cons (.var 1) (.cons (.var 2) .nil))) (.nm 2) (.rng1 (.bi .len (.cons (.var 0) .nil))) .nil) [1, 2, 0]) .nil)
theorem e9 : cb9 = some b9 := by kernel_rfl
def b10 : Ss := (.cons (.ret (.bi .sum (.cons (.lc (.ix (.var 0) (.var 2)) (.nm 2) (.seq (.var 1)) .nil) .nil)) [0, 2, 1]) .nil)
theorem e10 : cb10 = some b10 := by kernel_rfl
def b11 : Ss := (.cons (.asg 1 (.con (.int 1)) []) (.cons (.for_ (.nm 2) (.seq (.ix (.var 0) (.con (.int 0)))) [0] (.cons (.asg 1 (.bin .mul (.var 1) (.bi .len (.cons (.var 0) .nil))) [1, 0]) .nil)) (.cons (.ite (.cmp .gt (.var 1) (.glo "MOST_WHOLES" (.int 5000))) [1] (.cons (.rais (.con .non)) .nil) .nil) .nil)))
theorem e11 : cb11 = some b11 := by kernel_rfl
def b12 : Ss := (.cons (.asg 1 (.lst (.cons (.lst .nil) .nil)) []) (.cons (.for_ (.nm 2) (.seq (.ix (.var 0) (.con (.int 0)))) [0] (.cons (.asg 3 (.lst .nil) []) (.cons (.for_ (.nm 4) (.seq (.var 1)) [1] (.cons (.asg 3 (.bin .add (.var 3) (.lc (.bin .add (.var 4) (.lst (.cons (.var 5) .nil))) (.nm 5) (.rng1 (.bi .len (.cons (.var 0) .nil))) .nil)) [3, 4, 5, 0]) .nil)) (.cons (.asg 1 (.var 3) [3]) .nil)))) (.cons (.retv 1) .nil)))
theorem e12 : cb12 = some b12 := by kernel_rfl
def b13 : Ss := (.cons (.ret (.lc (.call 10 (.cons (.ix (.var 0) (.var 2)) (.cons (.var 3) .nil))) (.tp [(.nm 2), (.nm 3)]) (.enu (.call 9 (.cons (.var 0) (.cons (.var 1) .nil)))) .nil) [0, 2, 3, 0, 1]) .nil)
theorem e13 : cb13 = some b13 := by kernel_rfl
def b14 : Ss := (.cons (.asg 2 (.con .non) []) (.cons (.for_ (.nm 3) (.seq (.call 12 (.cons (.var 0) .nil))) [0] (.cons (.asg 4 (.call 9 (.cons (.var 0) (.cons (.var 3) .nil))) [0, 3]) (.cons (.asg 5 (.bi .min (.cons (.lc (.call 10 (.cons (.ix (.var 0) (.var 1)) (.cons (.var 6) .nil))) (.nm 6) (.seq (.var 4)) .nil) .nil)) [0, 1, 6, 4]) (.cons (.ite (.or (.cmp .is_ (.var 2) (.con .non)) (.cmp .gt (.var 5) (.ix (.var 2) (.con (.int 0))))) [2, 5, 2] (.cons (.asg 2 (.tup (.cons (.var 5) (.cons (.var 4) .nil))) [5, 4]) .nil) .nil) .nil)))) (.cons (.retv 2) .nil)))
theorem e14 : cb14 = some b14 := by kernel_rfl
def b15 : Ss := (.cons (.expr (.call 6 (.cons (.var 0) .nil)) [0]) (.cons (.expr (.call 7 (.cons (.var 0) (.cons (.var 1) .nil))) [0, 1]) (.cons (.expr (.call 11 (.cons (.var 0) .nil)) [0]) .nil)))
theorem e15 : cb15 = some b15 := by kernel_rfl
def b16 : Ss := (.cons (.expr (.call 15 (.cons (.var 0) (.cons (.var 1) .nil))) [0, 1]) (.cons (.ret (.ix (.call 14 (.cons (.var 0) (.cons (.var 1) .nil))) (.con (.int 0))) [0, 1]) .nil))
theorem e16 : cb16 = some b16 := by kernel_rfl
def b17 : Ss := (.cons (.expr (.call 15 (.cons (.var 0) (.cons (.var 1) .nil))) [0, 1]) (.cons (.ite (.cmp .ne (.bi .len (.cons (.var 0) .nil)) (.con (.int 2))) [0] (.cons (.rais (.con .non)) .nil) .nil) .nil))
theorem e17 : cb17 = some b17 := by kernel_rfl
def b18 : Ss := (.cons (.expr (.call 17 (.cons (.var 0) (.cons (.var 1) .nil))) [0, 1]) (.cons (.asg 2 (.ix (.call 14 (.cons (.var 0) (.cons (.var 1) .nil))) (.con (.int 1))) [0, 1]) (.cons (.asg 3 (.bin .sub (.con (.int 1)) (.var 1)) [1]) (.cons (.asg 4 (.ife (.cmp .gt (.call 10 (.cons (.ix (.var 0) (.var 3)) (.cons (.ix (.var 2) (.con (.int 0))) .nil))) (.call 10 (.cons (.ix (.var 0) (.var 3)) (.cons (.ix (.var 2) (.con (.int 1))) .nil)))) (.con (.int 0)) (.con (.int 1))) [0, 3, 2, 0, 3, 2]) (.cons (.ret (.lc (.ife (.cmp .in_ (.var 5) (.ix (.var 2) (.var 4))) (.var 3) (.var 1)) (.nm 5) (.rng1 (.bi .len (.cons (.ix (.var 0) (.con (.int 0))) .nil))) .nil) [5, 2, 4, 3, 1, 0]) .nil)))))
theorem e18 : cb18 = some b18 := by kernel_rfl
def b19 : Ss := (.cons (.expr (.call 17 (.cons (.var 0) (.cons (.var 1) .nil))) [0, 1]) (.cons (.ite (.not (.call 5 (.cons (.var 0) (.cons (.var 2) .nil)))) [0, 2] (.cons (.ret (.con (.bl false)) []) .nil) .nil) (.cons (.asg 3 (.call 9 (.cons (.var 0) (.cons (.var 2) .nil))) [0, 2]) (.cons (.asg 4 (.bin .sub (.con (.int 1)) (.var 1)) [1]) (.cons (.ite (.cmp .lt (.call 10 (.cons (.ix (.var 0) (.var 4)) (.cons (.ix (.var 3) (.var 4)) .nil))) (.call 10 (.cons (.ix (.var 0) (.var 4)) (.cons (.ix (.var 3) (.var 1)) .nil)))) [0, 4, 3, 4, 0, 4, 3, 1] (.cons (.ret (.con (.bl false)) []) .nil) .nil) (.cons (.ret (.cmp .eq (.bi .min (.cons (.lc (.call 10 (.cons (.ix (.var 0) (.var 1)) (.cons (.var 5) .nil))) (.nm 5) (.seq (.var 3)) .nil) .nil)) (.ix (.call 14 (.cons (.var 0) (.cons (.var 1) .nil))) (.con (.int 0)))) [0, 1, 5, 3, 0, 1]) .nil))))))
theorem e19 : cb19 = some b19 := by kernel_rfl
def b20 : Ss := (.cons (.expr (.call 6 (.cons (.var 0) .nil)) [0]) (.cons (.expr (.call 11 (.cons (.var 0) .nil)) [0]) (.cons (.asg 1 (.lc (.ix (.call 14 (.cons (.var 0) (.cons (.var 4) .nil))) (.con (.int 0))) (.nm 4) (.rng1 (.bi .len (.cons (.var 0) .nil))) .nil) [0, 4, 0]) (.cons (.for_ (.nm 2) (.seq (.call 12 (.cons (.var 0) .nil))) [0] (.cons (.asg 3 (.call 13 (.cons (.var 0) (.cons (.var 2) .nil))) [0, 2]) (.cons (.ite (.cmp .eq (.lc (.var 4) (.tp [(.nm 4), (.nm 5)]) (.enu (.var 3)) (.cons (.cmp .lt (.var 5) (.ix (.var 1) (.var 4))) .nil)) (.lst .nil)) [4, 3, 5, 1, 4] (.cons (.retv 2) .nil) .nil) .nil))) (.cons (.ret (.con .non) []) .nil)))))
theorem e20 : cb20 = some b20 := by kernel_rfl
def b21 : Ss := (.cons (.asg 2 (.bin .mod (.bi .int (.cons (.bin .add (.bin .add (.bin .add (.bin .mul (.var 0) (.con (.int 1140671))) (.bin .mul (.bin .mul (.con (.int 27644437)) (.var 1)) (.var 1))) (.bin .mul (.con (.int 131)) (.var 1))) (.con (.int 19))) .nil)) (.con (.int 2147483629))) [0, 1, 1, 1]) (.cons (.asg 2 (.bin .mod (.bi .int (.cons (.bin .add (.bin .add (.bin .mul (.var 2) (.var 2)) (.bin .mul (.con (.int 62089)) (.var 1))) (.con (.int 32416187))) .nil)) (.con (.int 2147483587))) [2, 2, 1]) (.cons (.ret (.bin .mod (.bi .int (.cons (.bin .mul (.var 2) (.con (.int 48271))) .nil)) (.con (.int 2147483647))) [2]) .nil)))
theorem e21 : cb21 = some b21 := by kernel_rfl
def b22 : Ss := (.cons (.ite (.cmp .gt (.ix (.var 0) (.con (.int 0))) (.con (.int 0))) [0] (.cons (.asg 2 (.bin .mod (.bi .int (.cons (.ix (.var 0) (.con (.int 0))) .nil)) (.var 1)) [0, 1]) (.cons (.cset 0 (.con (.int 0)) (.bin .fdiv (.ix (.var 0) (.con (.int 0))) (.var 1)) [0, 1]) (.cons (.retv 2) .nil))) .nil) (.cons (.asg 2 (.con (.int 0)) []) (.cons (.for_ (.nm 3) (.rng1 (.bin .add (.con (.int 1)) (.bin .fdiv (.bi .bits (.cons (.var 1) .nil)) (.con (.int 30))))) [1] (.cons (.cset 0 (.con (.int 2)) (.bin .add (.ix (.var 0) (.con (.int 2))) (.con (.int 1))) [0]) (.cons (.asg 2 (.bin .add (.bin .mul (.var 2) (.con (.int 2147483587))) (.call 21 (.cons (.ix (.var 0) (.con (.int 1))) (.cons (.ix (.var 0) (.con (.int 2))) .nil)))) [2, 0, 0]) .nil))) (.cons (.ret (.bin .mod (.bi .int (.cons (.var 2) .nil)) (.var 1)) [2, 1]) .nil))))
theorem e22 : cb22 = some b22 := by kernel_rfl
def b23 : Ss := (.cons (.ite (.cmp .lt (.var 1) (.bi .len (.cons (.var 0) .nil))) [1, 0] (.cons (.ret (.ix (.var 0) (.var 1)) [0, 1]) .nil) .nil) (.cons (.ret (.bin .mod (.bi .sum (.cons (.sl (.var 0) .nil (.cons (.con (.int 1)) .nil)) .nil)) (.con (.int 1000003))) [0]) .nil))
theorem e23 : cb23 = some b23 := by kernel_rfl
def b24 : Ss := (.cons (.asg 2 (.call 23 (.cons (.var 0) (.cons (.var 1) .nil))) [0, 1]) (.cons (.ret (.lst (.cons (.bin .mod (.bi .int (.cons (.bi .max2 (.cons (.bin .sub (.var 2) (.bin .pow (.con (.int 10)) (.con (.int 18)))) (.cons (.con (.int 0)) .nil))) .nil)) (.bin .pow (.bin .pow (.con (.int 10)) (.con (.int 60))) (.con (.int 10)))) (.cons (.bin .mod (.bi .int (.cons (.var 2) .nil)) (.con (.int 2147483647))) (.cons (.bin .mul (.con (.int 1000)) (.var 1)) .nil)))) [2, 2, 1]) .nil))
theorem e24 : cb24 = some b24 := by kernel_rfl
def b25 : Ss := (.cons (.ret (.ix (.var 1) (.call 22 (.cons (.var 0) (.cons (.bi .len (.cons (.var 1) .nil)) .nil)))) [1, 0, 1]) .nil)
theorem e25 : cb25 = some b25 := by kernel_rfl
def b26 : Ss := (.cons (.ite (.or (.cmp .is_ (.var 1) (.con .non)) (.or (.cmp .is_ (.var 1) (.con (.bl true))) (.cmp .is_ (.var 1) (.con (.bl false))))) [1, 1, 1] (.cons (.ret (.ife (.cmp .is_ (.var 1) (.con .non)) (.cmp .is_ (.var 0) (.con .non)) (.ife (.cmp .is_ (.var 1) (.con (.bl true))) (.cmp .is_ (.var 0) (.con (.bl true))) (.cmp .is_ (.var 0) (.con (.bl false))))) [1, 0, 1, 0, 0]) .nil) .nil) (.cons (.ite (.isi (.var 1) [.list, .tuple]) [1] (.cons (.ite (.or (.and (.not (.isi (.var 0) [.list])) (.isi (.var 1) [.list])) (.and (.not (.isi (.var 0) [.tuple])) (.isi (.var 1) [.tuple]))) [0, 1, 0, 1] (.cons (.ret (.con (.bl false)) []) .nil) .nil) (.cons (.ret (.and (.cmp .eq (.bi .len (.cons (.var 0) .nil)) (.bi .len (.cons (.var 1) .nil))) (.cmp .eq (.lc (.var 2) (.nm 2) (.rng1 (.bi .len (.cons (.var 1) .nil))) (.cons (.not (.call 26 (.cons (.ix (.var 0) (.var 2)) (.cons (.ix (.var 1) (.var 2)) .nil)))) .nil)) (.lst .nil))) [0, 1, 2, 1, 0, 2, 1, 2]) .nil)) .nil) (.cons (.ite (.isi (.var 1) [.int]) [1] (.cons (.ret (.and (.isi (.var 0) [.int]) (.and (.not (.isi (.var 0) [.bool])) (.cmp .eq (.var 0) (.var 1)))) [0, 0, 0, 1]) .nil) .nil) (.cons (.ret (.and (.isi (.var 0) [.str]) (.cmp .eq (.var 0) (.var 1))) [0, 0, 1]) .nil))))
theorem e26 : cb26 = some b26 := by kernel_rfl
def b27 : Ss := (.cons (.asg 4 (.call 22 (.cons (.var 0) (.cons (.con (.int 4)) .nil))) [0]) (.cons (.ite (.cmp .eq (.var 4) (.con (.int 0))) [4] (.cons (.asg 5 (.lc (.call 22 (.cons (.var 0) (.cons (.bin .add (.var 3) (.con (.int 1))) .nil))) (.nm 7) (.rng1 (.var 2)) .nil) [0, 3, 2]) (.cons (.ret (.lc (.lc (.bi .max2 (.cons (.con (.int 0)) (.cons (.bin .sub (.bin .add (.var 8) (.call 22 (.cons (.var 0) (.cons (.con (.int 3)) .nil)))) (.con (.int 1))) .nil))) (.nm 8) (.seq (.var 5)) .nil) (.nm 6) (.rng1 (.var 1)) .nil) [8, 0, 5, 1]) .nil)) .nil) (.cons (.ite (.cmp .eq (.var 4) (.con (.int 1))) [4] (.cons (.ret (.lc (.lc (.call 25 (.cons (.var 0) (.cons (.lst (.cons (.con (.int 0)) (.cons (.con (.int 0)) (.cons (.con (.int 1)) (.cons (.var 3) .nil))))) .nil))) (.nm 7) (.rng1 (.var 2)) .nil) (.nm 6) (.rng1 (.var 1)) .nil) [0, 3, 2, 1]) .nil) .nil) (.cons (.ret (.lc (.lc (.call 22 (.cons (.var 0) (.cons (.bin .add (.var 3) (.con (.int 1))) .nil))) (.nm 7) (.rng1 (.var 2)) .nil) (.nm 6) (.rng1 (.var 1)) .nil) [0, 3, 2, 1]) .nil))))
theorem e27 : cb27 = some b27 := by kernel_rfl
def b28 : Ss := (.cons (.par 3 4 (.bin .add (.con (.int 1)) (.call 22 (.cons (.var 0) (.cons (.var 1) .nil)))) (.bin .add (.con (.int 1)) (.call 22 (.cons (.var 0) (.cons (.var 2) .nil)))) [0, 1, 0, 2]) (.cons (.ret (.call 27 (.cons (.var 0) (.cons (.var 3) (.cons (.var 4) (.cons (.call 25 (.cons (.var 0) (.cons (.lst (.cons (.con (.int 1)) (.cons (.con (.int 2)) (.cons (.con (.int 9)) (.cons (.con (.int 100)) (.cons (.con (.int 998)) .nil)))))) .nil))) .nil))))) [0, 3, 4, 0]) .nil))
theorem e28 : cb28 = some b28 := by kernel_rfl
def b29 : Ss := (.cons (.ret (.lc (.call 22 (.cons (.var 0) (.cons (.bi .len (.cons (.var 1) .nil)) .nil))) (.nm 2) (.seq (.ix (.var 1) (.con (.int 0)))) .nil) [0, 1, 1]) .nil)
theorem e29 : cb29 = some b29 := by kernel_rfl
def b30 : Ss := (.cons (.ret (.lc (.lc (.var 3) (.tp [(.nm 3), (.nm 4)]) (.enu (.var 1)) (.cons (.cmp .eq (.var 4) (.var 2)) .nil)) (.nm 2) (.rng1 (.bi .len (.cons (.var 0) .nil))) .nil) [3, 1, 4, 2, 0]) .nil)
theorem e30 : cb30 = some b30 := by kernel_rfl
def b31 : Ss := (.cons (.ret (.bi .sum (.cons (.lc (.ix (.var 0) (.var 2)) (.nm 2) (.seq (.var 1)) .nil) .nil)) [0, 2, 1]) .nil)
theorem e31 : cb31 = some b31 := by kernel_rfl
def b32 : Ss := (.cons (.ret (.lc (.call 31 (.cons (.ix (.var 0) (.var 2)) (.cons (.var 3) .nil))) (.tp [(.nm 2), (.nm 3)]) (.enu (.call 30 (.cons (.var 0) (.cons (.var 1) .nil)))) .nil) [0, 2, 3, 0, 1]) .nil)
theorem e32 : cb32 = some b32 := by kernel_rfl
def b33 : Ss := (.cons (.ret (.and (.isi (.var 1) [.int]) (.and (.not (.isi (.var 1) [.bool])) (.cmp2 .le .lt (.con (.int 0)) (.var 1) (.var 0)))) [1, 1, 1, 0]) .nil)
theorem e33 : cb33 = some b33 := by kernel_rfl
def b34 : Ss := (.cons (.ret (.and (.isi (.var 2) [.list]) (.and (.cmp .eq (.bi .len (.cons (.var 2) .nil)) (.var 1)) (.cmp .eq (.lc (.var 3) (.nm 3) (.seq (.var 2)) (.cons (.not (.call 33 (.cons (.var 0) (.cons (.var 3) .nil)))) .nil)) (.lst .nil)))) [2, 2, 1, 3, 2, 0, 3]) .nil)
theorem e34 : cb34 = some b34 := by kernel_rfl
def b35 : Ss := (.cons (.asg 2 (.lst (.cons (.lst .nil) .nil)) []) (.cons (.for_ (.nm 3) (.rng1 (.var 1)) [1] (.cons (.asg 2 (.bi .sumf (.cons (.lc (.lc (.bin .add (.var 4) (.lst (.cons (.var 5) .nil))) (.nm 5) (.rng1 (.var 0)) .nil) (.nm 4) (.seq (.var 2)) .nil) (.cons (.lst .nil) .nil))) [4, 5, 0, 2]) .nil)) (.cons (.retv 2) .nil)))
theorem e35 : cb35 = some b35 := by kernel_rfl
def b36 : Ss := (.cons (.asg 2 (.call 35 (.cons (.bi .len (.cons (.var 0) .nil)) (.cons (.bi .len (.cons (.ix (.var 0) (.con (.int 0))) .nil)) .nil))) [0, 0]) (.cons (.ret (.bi .max (.cons (.lc (.bi .min (.cons (.lc (.call 31 (.cons (.ix (.var 0) (.var 1)) (.cons (.var 4) .nil))) (.nm 4) (.seq (.call 30 (.cons (.var 0) (.cons (.var 3) .nil)))) .nil) .nil)) (.nm 3) (.seq (.var 2)) .nil) .nil)) [0, 1, 4, 0, 3, 2]) .nil))
theorem e36 : cb36 = some b36 := by kernel_rfl
def b37 : Ss := (.cons (.ite (.not (.call 34 (.cons (.con (.int 2)) (.cons (.bi .len (.cons (.ix (.var 0) (.con (.int 0))) .nil)) (.cons (.var 2) .nil))))) [0, 2] (.cons (.ret (.con (.bl false)) []) .nil) .nil) (.cons (.par 4 5 (.call 30 (.cons (.var 0) (.cons (.var 2) .nil))) (.bin .sub (.con (.int 1)) (.var 1)) [0, 2, 1]) (.cons (.ite (.cmp .lt (.call 31 (.cons (.ix (.var 0) (.var 5)) (.cons (.ix (.var 4) (.var 5)) .nil))) (.call 31 (.cons (.ix (.var 0) (.var 5)) (.cons (.ix (.var 4) (.var 1)) .nil)))) [0, 5, 4, 5, 0, 5, 4, 1] (.cons (.ret (.con (.bl false)) []) .nil) .nil) (.cons (.ret (.cmp .eq (.bi .min (.cons (.lc (.call 31 (.cons (.ix (.var 0) (.var 1)) (.cons (.var 6) .nil))) (.nm 6) (.seq (.var 4)) .nil) .nil)) (.var 3)) [0, 1, 6, 4, 3]) .nil))))
theorem e37 : cb37 = some b37 := by kernel_rfl
def b38 : Ss := (.cons (.par 3 4 (.bi .repr (.cons (.var 1) .nil)) (.lst (.cons (.call 36 (.cons (.var 1) (.cons (.con (.int 0)) .nil))) (.cons (.call 36 (.cons (.var 1) (.cons (.con (.int 1)) .nil))) .nil))) [1, 1, 1]) (.cons (.for_ (.nm 2) (.rng1 (.con (.int 2))) [] (.cons (.asg 5 (.call 18 (.cons (.var 1) (.cons (.var 2) .nil))) [1, 2]) (.cons (.ite (.not (.call 37 (.cons (.var 1) (.cons (.var 2) (.cons (.var 5) (.cons (.ix (.var 4) (.var 2)) .nil)))))) [1, 2, 5, 4, 2] (.cons (.ret (.con (.bl false)) []) .nil) .nil) (.cons (.asg 6 (.call 32 (.cons (.var 1) (.cons (.var 5) .nil))) [1, 5]) (.cons (.ite (.or (.cmp .lt (.ix (.var 6) (.var 2)) (.call 16 (.cons (.var 1) (.cons (.var 2) .nil)))) (.cmp .lt (.bin .mul (.con (.int 2)) (.ix (.var 6) (.bin .sub (.con (.int 1)) (.var 2)))) (.bi .sum (.cons (.ix (.var 1) (.bin .sub (.con (.int 1)) (.var 2))) .nil)))) [6, 2, 1, 2, 6, 2, 1, 2] (.cons (.ret (.con (.bl false)) []) .nil) .nil) (.prot [7, 8, 10] (.cons (.asg 7 (.bin .add (.lst (.cons (.var 5) (.cons (.lc (.bin .sub (.con (.int 1)) (.var 12)) (.nm 12) (.seq (.var 5)) .nil) (.cons (.bi .tuple (.cons (.var 5) .nil)) (.cons (.sl (.var 5) (.cons (.con (.int 1)) .nil) .nil) (.cons (.bin .add (.var 5) (.lst (.cons (.con (.int 0)) .nil))) (.cons (.con .non) (.cons (.con (.int 7)) (.cons .emp (.cons (.bin .add (.lst (.cons (.con .non) .nil)) (.sl (.var 5) (.cons (.con (.int 1)) .nil) .nil)) .nil)))))))))) (.lc (.call 29 (.cons (.var 0) (.cons (.var 1) .nil))) (.nm 11) (.rng1 (.con (.int 6))) .nil)) [5, 12, 5, 5, 5, 5, 5, 0, 1]) (.cons (.for_ (.nm 8) (.seq (.var 7)) [7] (.cons (.asg 10 (.call 37 (.cons (.var 1) (.cons (.var 2) (.cons (.var 8) (.cons (.ix (.var 4) (.var 2)) .nil))))) [1, 2, 8, 4, 2]) (.cons (.ite (.not (.call 26 (.cons (.lst (.cons (.call 19 (.cons (.var 1) (.cons (.var 2) (.cons (.var 8) .nil)))) (.cons (.callk 19 [2, 1, 0] .nil (.cons (.var 8) (.cons (.var 2) (.cons (.var 1) .nil)))) .nil))) (.cons (.lst (.cons (.var 10) (.cons (.var 10) .nil))) .nil)))) [1, 2, 8, 8, 2, 1, 10, 10] (.cons (.ret (.con (.bl false)) []) .nil) .nil) .nil))) .nil)) (.cons (.asg 9 (.bi .list (.cons (.var 5) .nil)) [5]) (.cons (.app 5 (.con (.int 7)) []) (.cons (.ite (.not (.call 26 (.cons (.callk 18 [1, 0] .nil (.cons (.var 2) (.cons (.var 1) .nil))) (.cons (.var 9) .nil)))) [2, 1, 9] (.cons (.ret (.con (.bl false)) []) .nil) .nil) .nil))))))))) (.cons (.ret (.and (.cmp .eq (.bi .repr (.cons (.var 1) .nil)) (.var 3)) (.cmp .isn (.call 20 (.cons (.var 1) .nil)) (.con .non))) [1, 3, 1]) .nil)))
theorem e38 : cb38 = some b38 := by kernel_rfl
def b39 : Ss := (.cons (.asgT (.tp [(.nm 3), (.nm 4)]) (.tup (.cons (.lc (.call 36 (.cons (.var 0) (.cons (.var 6) .nil))) (.nm 6) (.rng1 (.bi .len (.cons (.var 0) .nil))) .nil) (.cons (.call 35 (.cons (.bi .len (.cons (.var 0) .nil)) (.cons (.bi .len (.cons (.ix (.var 0) (.con (.int 0))) .nil)) .nil))) .nil))) [0, 6, 0, 0, 0]) (.cons (.asg 1 (.lc (.var 5) (.nm 5) (.seq (.var 4)) (.cons (.cmp .eq (.lc (.var 6) (.tp [(.nm 6), (.nm 7)]) (.enu (.call 32 (.cons (.var 0) (.cons (.var 5) .nil)))) (.cons (.cmp .lt (.var 7) (.ix (.var 3) (.var 6))) .nil)) (.lst .nil)) .nil)) [5, 4, 6, 0, 5, 7, 3, 6]) (.cons (.asg 2 (.ife (.cmp .ne (.var 1) (.lst .nil)) (.ix (.var 1) (.con (.int 0))) (.con .non)) [1, 1]) (.cons (.ret (.call 26 (.cons (.lst (.cons (.call 20 (.cons (.var 0) .nil)) (.cons (.callk 20 [0] .nil (.cons (.var 0) .nil)) .nil))) (.cons (.lst (.cons (.var 2) (.cons (.var 2) .nil))) .nil))) [0, 0, 2, 2]) .nil))))
theorem e39 : cb39 = some b39 := by kernel_rfl
def b40 : Ss := (.cons (.parc 3 4 (.call 24 (.cons (.var 0) (.cons (.con (.int 0)) .nil))) (.call 24 (.cons (.var 0) (.cons (.con (.int 1)) .nil)))) (.cons (.asg 1 (.call 27 (.cons (.var 3) (.cons (.con (.int 2)) (.cons (.bin .add (.con (.int 1)) (.call 22 (.cons (.var 3) (.cons (.con (.int 7)) .nil)))) (.cons (.call 25 (.cons (.var 3) (.cons (.lst (.cons (.con (.int 1)) (.cons (.con (.int 5)) (.cons (.con (.int 100)) .nil)))) .nil))) .nil))))) [3, 3, 3]) (.cons (.ite (.or (.not (.call 38 (.cons (.var 3) (.cons (.var 1) .nil)))) (.or (.not (.call 39 (.cons (.var 1) .nil))) (.not (.call 39 (.cons (.call 28 (.cons (.var 4) (.cons (.con (.int 4)) (.cons (.con (.int 5)) .nil)))) .nil))))) [3, 1, 1, 4] (.cons (.ret (.con (.bl false)) []) .nil) .nil) (.cons (.asg 2 (.lst (.cons (.lst (.cons (.con (.int 6)) (.cons (.con (.int 3)) (.cons (.con (.int 1)) .nil)))) (.cons (.lst (.cons (.con (.int 5)) (.cons (.con (.int 5)) (.cons (.con (.int 2)) .nil)))) .nil))) []) (.cons (.ret (.call 26 (.cons (.lst (.cons (.call 18 (.cons (.var 2) (.cons (.con (.int 0)) .nil))) (.cons (.call 19 (.cons (.var 2) (.cons (.con (.int 1)) (.cons (.lst (.cons (.con (.int 0)) (.cons (.con (.int 1)) (.cons (.con (.int 1)) .nil)))) .nil)))) (.cons (.call 19 (.cons (.var 2) (.cons (.con (.int 1)) (.cons (.lst (.cons (.con (.int 0)) (.cons (.con (.int 0)) (.cons (.con (.int 1)) .nil)))) .nil)))) (.cons (.call 20 (.cons (.var 2) .nil)) .nil))))) (.cons (.lst (.cons (.lst (.cons (.con (.int 0)) (.cons (.con (.int 1)) (.cons (.con (.int 1)) .nil)))) (.cons (.con (.bl true)) (.cons (.con (.bl false)) (.cons (.lst (.cons (.con (.int 0)) (.cons (.con (.int 1)) (.cons (.con (.int 0)) .nil)))) .nil))))) .nil))) [2, 2, 2, 2]) .nil)))))
theorem e40 : cb40 = some b40 := by kernel_rfl
def Tb : List Fn := [⟨1, 1, b0⟩, ⟨1, 1, b1⟩, ⟨2, 2, b2⟩, ⟨1, 2, b3⟩, ⟨1, 2, b4⟩, ⟨2, 3, b5⟩, ⟨1, 1, b6⟩, ⟨2, 2, b7⟩, ⟨2, 4, b8⟩, ⟨2, 3, b9⟩, ⟨2, 3, b10⟩, ⟨1, 3, b11⟩, ⟨1, 6, b12⟩, ⟨2, 4, b13⟩, ⟨2, 7, b14⟩, ⟨2, 2, b15⟩, ⟨2, 2, b16⟩, ⟨2, 2, b17⟩, ⟨2, 6, b18⟩, ⟨3, 6, b19⟩, ⟨1, 6, b20⟩, ⟨2, 3, b21⟩, ⟨2, 4, b22⟩, ⟨2, 2, b23⟩, ⟨2, 3, b24⟩, ⟨2, 2, b25⟩, ⟨2, 3, b26⟩, ⟨4, 9, b27⟩, ⟨3, 5, b28⟩, ⟨2, 3, b29⟩, ⟨2, 5, b30⟩, ⟨2, 3, b31⟩, ⟨2, 4, b32⟩, ⟨2, 2, b33⟩, ⟨3, 4, b34⟩, ⟨2, 6, b35⟩, ⟨2, 5, b36⟩, ⟨4, 7, b37⟩, ⟨2, 13, b38⟩, ⟨1, 8, b39⟩, ⟨1, 5, b40⟩]
end K58
namespace K58
open IX PySem
def F_law_same (_ _ : D) : Bool := true
def S_law_same (x y : D) : Prop := SameS x y
theorem R_law_same (x y : D) (h : SameS x y) (k : Nat) (st : Sto) : Cl (run Tb (k + 10)) 26 [x, y] st (D.bl (F_law_same x y)) 2 st := by
  obtain ⟨rfl, h2, h3⟩ := h
  exact same_refl (T := Tb) (i := 26) rfl 10 x h2 h3 k st
theorem draws : DrawT Tb 21 22 23 24 25 := ⟨rfl, rfl, rfl, rfl, rfl⟩
def F_is_whole (value1 : Int) : Bool := (true && ((!false)))
theorem R_is_whole (value1 : Int) (k : Nat) (st : Sto) : Cl (run Tb (k + 1)) 0 [D.int value1] st (D.bl (F_is_whole value1)) 2 st := by
  refine y_fn (g := D.bl) rfl rfl (.cons (.nil)) ?_
  exact x_ret (g := D.bl) (evand (v_isi (v_varF rfl rfl) rfl) (fun e2 => (evnot (v_isi (v_varF rfl rfl) rfl)))) rfl (by decide)
def F_is_whole' (value3 : D) : Bool := (((tysB [Ty.int] value3)) && ((!((tysB [Ty.bool] value3)))))
def S_is_whole' (value3 : D) : Prop := tyOk value3 = true ∧ (((tysB [Ty.int] value3)) = true → tyOk value3 = true)
theorem R_is_whole' (value3 : D) (h : S_is_whole' value3) (k : Nat) (st : Sto) : Cl (run Tb (k + 1)) 0 [value3] st (D.bl (F_is_whole' value3)) 2 st := by
  refine y_fn (g := D.bl) rfl rfl (.cons (.nil)) ?_
  exact x_ret (g := D.bl) (evand (v_isiD (v_var rfl) h.1) (fun e4 => (evnot (v_isiD (v_var rfl) (h.2 e4))))) rfl (by decide)
def F_is_count (value5 : Int) : Bool := (((F_is_whole value5)) && (decide ((0 : Int) ≤ value5)))
theorem R_is_count (value5 : Int) (k : Nat) (st : Sto) : Cl (run Tb (k + 2)) 1 [D.int value5] st (D.bl (F_is_count value5)) 2 st := by
  refine y_fn (g := D.bl) rfl rfl (.cons (.nil)) ?_
  exact x_ret (g := D.bl) (evand (v_call (vl_c (v_varF rfl rfl) vl_n) (R_is_whole _ (k) _)) (fun e6 => (v_ge (v_varF rfl rfl) (v_con rfl)))) rfl (by decide)
def F_is_count' (value7 : D) : Bool := (((F_is_whole' value7)) && (decide ((0 : Int) ≤ (toI value7))))
def S_is_count' (value7 : D) : Prop := S_is_whole' value7 ∧ (((F_is_whole' value7)) = true → value7 = D.int (toI value7))
theorem R_is_count' (value7 : D) (h : S_is_count' value7) (k : Nat) (st : Sto) : Cl (run Tb (k + 2)) 1 [value7] st (D.bl (F_is_count' value7)) 2 st := by
  refine y_fn (g := D.bl) rfl rfl (.cons (.nil)) ?_
  exact x_ret (g := D.bl) (evand (v_call (vl_c (v_var rfl) vl_n) (R_is_whole' _ h.1 (k) _)) (fun e8 => (v_ge (v_toI (v_var rfl) (h.2 e8)) (v_con rfl)))) rfl (by decide)
def F_is_below (value9 : Int) (bound10 : Int) : Bool := (((F_is_count value9)) && (decide (value9 < bound10)))
theorem R_is_below (value9 : Int) (bound10 : Int) (k : Nat) (st : Sto) : Cl (run Tb (k + 3)) 2 [D.int value9, D.int bound10] st (D.bl (F_is_below value9 bound10)) 2 st := by
  refine y_fn (g := D.bl) rfl rfl (.cons (.cons (.nil))) ?_
  exact x_ret (g := D.bl) (evand (v_call (vl_c (v_varF rfl rfl) vl_n) (R_is_count _ (k) _)) (fun e11 => (v_lt (v_varF rfl rfl) (v_varF rfl rfl)))) rfl (by decide)
def F_is_below' (value12 : D) (bound13 : Int) : Bool := (((F_is_count' value12)) && (decide ((toI value12) < bound13)))
def S_is_below' (value12 : D) (bound13 : Int) : Prop := S_is_count' value12 ∧ (((F_is_count' value12)) = true → value12 = D.int (toI value12))
theorem R_is_below' (value12 : D) (bound13 : Int) (h : S_is_below' value12 bound13) (k : Nat) (st : Sto) : Cl (run Tb (k + 3)) 2 [value12, D.int bound13] st (D.bl (F_is_below' value12 bound13)) 2 st := by
  refine y_fn (g := D.bl) rfl rfl (.cons (.cons (.nil))) ?_
  exact x_ret (g := D.bl) (evand (v_call (vl_c (v_var rfl) vl_n) (R_is_count' _ h.1 (k) _)) (fun e14 => (v_lt (v_toI (v_var rfl) (h.2 e14)) (v_varF rfl rfl)))) rfl (by decide)
def F_is_worth_row (value15 : (List Int)) : Bool := (cond ((((!true)) || ((!((decide ((1 : Int) ≤ (value15.length : Int)) && decide ((value15.length : Int) ≤ (8 : Int)))))))) false (((value15.filter fun x16 => (!((F_is_below x16 (((1000 : Int) + (1 : Int))))))).map fun x16 => x16)).isEmpty)
theorem R_is_worth_row (value15 : (List Int)) (k : Nat) (st : Sto) : Cl (run Tb (k + 4)) 3 [(Lx D.int) value15] st (D.bl (F_is_worth_row value15)) 2 st := by
  refine y_fn (g := D.bl) rfl rfl (.cons (.none (.nil))) ?_
  refine x_ite (evor (evnot (v_isi (v_var rfl) rfl)) (fun e19 => (evnot (evcmp2 (v_con rfl) (v_len (f := D.int) (v_var rfl)) (v_glo rfl) rfl rfl)))) rfl (fun e17 => ?_) (fun e18 => ?_)
  · skip
    exact x_ret (g := D.bl) (v_con rfl) rfl (by decide)
  · skip
    exact x_ret (g := D.bl) (v_eqN (f := D.int) (EqE.int.nil (by decide) _) (v_lcT2 (f := D.int) (sr_seq (f := D.int) (v_var rfl)) (fun _ _ => rfl) (fun x16 h20 => vt_c (evnot (v_call (vl_c (v_varF rfl rfl) (vl_c (v_add (v_glo rfl) (v_con rfl)) vl_n)) (R_is_below _ _ (k) _)))) (fun x16 h20 h21 => (v_varF rfl rfl)))) rfl (by decide)
def F_are_worths (value22 : (List (List Int))) : Bool := (cond ((((!true)) || ((!((decide ((1 : Int) ≤ (value22.length : Int)) && decide ((value22.length : Int) ≤ (6 : Int)))))))) false (cond ((!(((value22.filter fun x23 => (!((F_is_worth_row x23)))).map fun x23 => x23)).isEmpty)) false (((value22.filter fun x24 => (!((x24.length : Int) == (((getL value22 ((0 : Int)))).length : Int)))).map fun x24 => x24)).isEmpty))
def S_are_worths (value22 : (List (List Int))) : Prop := (((((!true)) || ((!((decide ((1 : Int) ≤ (value22.length : Int)) && decide ((value22.length : Int) ≤ (6 : Int)))))))) = false → (((!(((value22.filter fun x23 => (!((F_is_worth_row x23)))).map fun x23 => x23)).isEmpty)) = false → (∀ x24 ∈ value22, inb value22 ((0 : Int)))))
theorem R_are_worths (value22 : (List (List Int))) (h : S_are_worths value22) (k : Nat) (st : Sto) : Cl (run Tb (k + 5)) 4 [(Lx (Lx D.int)) value22] st (D.bl (F_are_worths value22)) 2 st := by
  refine y_fn (g := D.bl) rfl rfl (.cons (.none (.nil))) ?_
  refine x_ite (evor (evnot (v_isi (v_var rfl) rfl)) (fun e27 => (evnot (evcmp2 (v_con rfl) (v_len (f := (Lx D.int)) (v_var rfl)) (v_glo rfl) rfl rfl)))) rfl (fun e25 => ?_) (fun e26 => ?_)
  · skip
    exact x_ret (g := D.bl) (v_con rfl) rfl (by decide)
  · skip
    refine x_ite (v_neN (f := (Lx D.int)) (EqE.int.lst.nil (by decide) _) (v_lcT (f := (Lx D.int)) (sr_seq (f := (Lx D.int)) (v_var rfl)) (fun _ _ => rfl) (fun x23 h30 => vt_c (evnot (v_call (vl_c (v_var rfl) vl_n) (R_is_worth_row _ (k) _)))) (fun x23 h30 h31 => (v_var rfl)))) rfl (fun e28 => ?_) (fun e29 => ?_)
    · skip
      exact x_ret (g := D.bl) (v_con rfl) rfl (by decide)
    · skip
      exact x_ret (g := D.bl) (v_eqN (f := (Lx D.int)) (EqE.int.lst.nil (by decide) _) (v_lcT (f := (Lx D.int)) (sr_seq (f := (Lx D.int)) (v_var rfl)) (fun _ _ => rfl) (fun x24 h32 => vt_c (v_ne (f := D.int) eq_int (v_len (f := D.int) (v_var rfl)) (v_len (f := D.int) (v_ix (f := (Lx D.int)) (v_var rfl) (v_con rfl) (((h e26) e29) x24 h32))))) (fun x24 h32 h33 => (v_var rfl)))) rfl (by decide)
def F_is_whole_of (worths34 : (List (List Int))) (value35 : D) : Bool := (cond ((((!((tysB [Ty.list] value35)))) || ((!((((toL value35)).length : Int) == (((getL worths34 ((0 : Int)))).length : Int)))))) false (((((toL value35)).filter fun x36 => (!((F_is_below' x36 ((worths34.length : Int)))))).map fun x36 => x36)).isEmpty)
def S_is_whole_of (worths34 : (List (List Int))) (value35 : D) : Prop := tyOk value35 = true ∧ (((!((tysB [Ty.list] value35)))) = false → (value35 = Lx id (toL value35) ∧ inb worths34 ((0 : Int)))) ∧ (((((!((tysB [Ty.list] value35)))) || ((!((((toL value35)).length : Int) == (((getL worths34 ((0 : Int)))).length : Int)))))) = false → (value35 = Lx id (toL value35) ∧ (∀ x36 ∈ (toL value35), S_is_below' x36 ((worths34.length : Int))) ∧ eqD (Lx id (((((toL value35)).filter fun x36 => (!((F_is_below' x36 ((worths34.length : Int)))))).map fun x36 => x36))) (.lst []) = some (((((toL value35)).filter fun x36 => (!((F_is_below' x36 ((worths34.length : Int)))))).map fun x36 => x36)).isEmpty))
theorem R_is_whole_of (worths34 : (List (List Int))) (value35 : D) (h : S_is_whole_of worths34 value35) (k : Nat) (st : Sto) : Cl (run Tb (k + 4)) 5 [(Lx (Lx D.int)) worths34, value35] st (D.bl (F_is_whole_of worths34 value35)) 2 st := by
  refine y_fn (g := D.bl) rfl rfl (.cons (.cons (.none (.nil)))) ?_
  refine x_ite (evor (evnot (v_isiD (v_var rfl) h.1)) (fun e39 => (v_ne (f := D.int) eq_int (v_len (f := id) (v_toL (v_var rfl) (h.2.1 e39).1)) (v_len (f := D.int) (v_ix (f := (Lx D.int)) (v_var rfl) (v_con rfl) (h.2.1 e39).2))))) rfl (fun e37 => ?_) (fun e38 => ?_)
  · skip
    exact x_ret (g := D.bl) (v_con rfl) rfl (by decide)
  · skip
    exact x_ret (g := D.bl) (v_eqN (f := id) (h.2.2 e38).2.2 (v_lcT (f := id) (sr_seq (f := id) (v_toL (v_var rfl) (h.2.2 e38).1)) (fun _ _ => rfl) (fun x36 h40 => vt_c (evnot (v_call (vl_c (v_var rfl) (vl_c (v_len (f := (Lx D.int)) (v_var rfl)) vl_n)) (R_is_below' _ _ ((h.2.2 e38).2.1 x36 h40) (k) _)))) (fun x36 h40 h41 => (v_var rfl)))) rfl (by decide)
def F_check_worths (worths42 : (List (List Int))) : Unit := (cond ((!((F_are_worths worths42)))) () ())
def S_check_worths (worths42 : (List (List Int))) : Prop := S_are_worths worths42 ∧ (((!((F_are_worths worths42)))) = true → False)
theorem R_check_worths (worths42 : (List (List Int))) (h : S_check_worths worths42) (k : Nat) (st : Sto) : Cl (run Tb (k + 6)) 6 [(Lx (Lx D.int)) worths42] st (Nx (F_check_worths worths42)) 2 st := by
  refine y_fn (g := Nx) rfl rfl (.cons (.nil)) ?_
  refine x_ite (evnot (v_call (vl_c (v_var rfl) vl_n) (R_are_worths _ h.1 (k) _))) rfl (fun e43 => ?_) (fun e44 => ?_)
  · skip
    exact ((h.2 e43) : False).elim
  · skip
    exact x_end rfl (by decide)
def F_check_heir (worths45 : (List (List Int))) (heir46 : Int) : Unit := (cond ((!((F_is_below heir46 ((worths45.length : Int)))))) () ())
def S_check_heir (worths45 : (List (List Int))) (heir46 : Int) : Prop := (((!((F_is_below heir46 ((worths45.length : Int)))))) = true → False)
theorem R_check_heir (worths45 : (List (List Int))) (heir46 : Int) (h : S_check_heir worths45 heir46) (k : Nat) (st : Sto) : Cl (run Tb (k + 4)) 7 [(Lx (Lx D.int)) worths45, D.int heir46] st (Nx (F_check_heir worths45 heir46)) 2 st := by
  refine y_fn (g := Nx) rfl rfl (.cons (.cons (.nil))) ?_
  refine x_ite (evnot (v_call (vl_c (v_varF rfl rfl) (vl_c (v_len (f := (Lx D.int)) (v_var rfl)) vl_n)) (R_is_below _ _ (k) _))) rfl (fun e47 => ?_) (fun e48 => ?_)
  · skip
    exact ((h e47) : False).elim
  · skip
    exact x_end rfl (by decide)
def F_lot_of (whole49 : (List Int)) (heir50 : Int) : (List Int) := ((((enuI 0 whole49)).filter fun x51 => (x51.2 == heir50)).map fun x51 => x51.1)
theorem R_lot_of (whole49 : (List Int)) (heir50 : Int) (k : Nat) (st : Sto) : Cl (run Tb (k + 1)) 8 [(Lx D.int) whole49, D.int heir50] st ((Lx D.int) (F_lot_of whole49 heir50)) 0 st := by
  refine y_fn (g := (Lx D.int)) rfl rfl (.cons (.cons (.none (.none (.nil))))) ?_
  exact x_ret (g := (Lx D.int)) (v_lcT2 (f := D.int) (sr_enu (f := D.int) (v_var rfl)) (fun _ _ => rfl) (fun x51 h52 => vt_c (v_eq (f := D.int) eq_int (v_varF rfl rfl) (v_varF rfl rfl))) (fun x51 h52 h53 => (v_varF rfl rfl))) rfl (by decide)
def F_lots_in (worths54 : (List (List Int))) (whole55 : (List Int)) : (List (List Int)) := (((rngI 0 ((worths54.length : Int)))).map fun x56 => (F_lot_of whole55 x56))
def S_lots_in (worths54 : (List (List Int))) (whole55 : (List Int)) : Prop := (-100000 ≤ (worths54.length : Int) ∧ (worths54.length : Int) ≤ 100000)
theorem R_lots_in (worths54 : (List (List Int))) (whole55 : (List Int)) (h : S_lots_in worths54 whole55) (k : Nat) (st : Sto) : Cl (run Tb (k + 2)) 9 [(Lx (Lx D.int)) worths54, (Lx D.int) whole55] st ((Lx (Lx D.int)) (F_lots_in worths54 whole55)) 0 st := by
  refine y_fn (g := (Lx (Lx D.int))) rfl rfl (.cons (.cons (.none (.nil)))) ?_
  exact x_ret (g := (Lx (Lx D.int))) (v_lc (f := (Lx D.int)) (sr_rng1 (v_len (f := (Lx D.int)) (v_var rfl)) h) (fun _ _ => rfl) (fun x56 h57 => (v_call (vl_c (v_var rfl) (vl_c (v_varF rfl rfl) vl_n)) (R_lot_of _ _ (k) _)))) rfl (by decide)
def F_value_of (row58 : (List Int)) (lot59 : (List Int)) : Int := ((lot59.map fun x60 => (getL row58 x60))).sum
def S_value_of (row58 : (List Int)) (lot59 : (List Int)) : Prop := (∀ x60 ∈ lot59, inb row58 x60)
theorem R_value_of (row58 : (List Int)) (lot59 : (List Int)) (h : S_value_of row58 lot59) (k : Nat) (st : Sto) : Cl (run Tb (k + 1)) 10 [(Lx D.int) row58, (Lx D.int) lot59] st (D.int (F_value_of row58 lot59)) 2 st := by
  refine y_fn (g := D.int) rfl rfl (.cons (.cons (.none (.nil)))) ?_
  exact x_ret (g := D.int) (v_sum (v_lc2 (f := D.int) (sr_seq (f := D.int) (v_var rfl)) (fun _ _ => rfl) (fun x60 h61 => (v_ixF (f := D.int) (v_var rfl) (v_varF rfl rfl) (h x60 h61) (fun _ => rfl))))) rfl (by decide)
def F_check_few (worths62 : (List (List Int))) : Unit := (let many63 := (1 : Int); (let s69 := List.foldl (fun (s64 : Int) (x65 : Int) => (let many68 := (s64 * (worths62.length : Int)); many68)) many63 ((getL worths62 ((0 : Int)))); (cond (decide ((5000 : Int) < s69)) () ())))
def S_check_few (worths62 : (List (List Int))) : Prop := (let many63 := (1 : Int); inb worths62 ((0 : Int)) ∧ foldS (fun (s64 : Int) (x65 : Int) => mulOk s64 ((worths62.length : Int)) = true) (fun (s64 : Int) (x65 : Int) => (let many68 := (s64 * (worths62.length : Int)); many68)) ((getL worths62 ((0 : Int)))) many63 ∧ (let s69 := List.foldl (fun (s64 : Int) (x65 : Int) => (let many68 := (s64 * (worths62.length : Int)); many68)) many63 ((getL worths62 ((0 : Int)))); ((decide ((5000 : Int) < s69)) = true → False)))
theorem R_check_few (worths62 : (List (List Int))) (h : S_check_few worths62) (k : Nat) (st : Sto) : Cl (run Tb (k + 1)) 11 [(Lx (Lx D.int)) worths62] st (Nx (F_check_few worths62)) 2 st := by
  refine y_fn (g := Nx) rfl rfl (.cons (.none (.none (.nil)))) ?_
  refine y_asg (v_con rfl) rfl (.inl rfl) (.s (.z rfl)) (by decide : 0 ≤ 2) ?_
  refine y_fold (σ := Int) (.keep (.put (fun s64 => some (D.int s64, 0)) (.put (fun _ => none) (.nil)))) (f := D.int) h.2.1 (sr_seq (f := D.int) (v_ix (f := (Lx D.int)) (v_var rfl) (v_con rfl) h.1)) rfl (wk_s (by decide) (wk_s (by decide) (wk_n rfl wk_e))) rfl (fun x65 m67 s64 h66 => ⟨_, (.nm (.s (.s (.z rfl)))), ?_⟩) (fun _ => rfl) ?_
  · skip
    refine y_asg (v_mul (v_varF rfl rfl) (v_len (f := (Lx D.int)) (v_var rfl)) h66) rfl (.inl rfl) (.s (.z rfl)) (by decide : 0 ≤ 2) ?_
    exact x_endN (wk_s (by decide) (wk_s (by decide) (wk_n rfl wk_e)))
  refine x_ite (v_gt (v_varF rfl rfl) (v_glo rfl)) rfl (fun e70 => ?_) (fun e71 => ?_)
  · skip
    exact ((h.2.2 e70) : False).elim
  · skip
    exact x_end rfl (by decide)
def F_all_wholes (worths72 : (List (List Int))) : (List (List Int)) := (let wholes73 := [[]]; (let s87 := List.foldl (fun (s74 : (List (List Int))) (x75 : Int) => (let longer78 := []; (let s85 := List.foldl (fun (s79 : (List (List Int))) (x80 : (List Int)) => (let longer84 := (s79 ++ (((rngI 0 ((worths72.length : Int)))).map fun x83 => (x80 ++ [x83]))); longer84)) longer78 s74; (let wholes86 := s85; wholes86)))) wholes73 ((getL worths72 ((0 : Int)))); s87))
def S_all_wholes (worths72 : (List (List Int))) : Prop := (let wholes73 := [[]]; inb worths72 ((0 : Int)) ∧ foldS (fun (s74 : (List (List Int))) (x75 : Int) => (let longer78 := []; foldS (fun (s79 : (List (List Int))) (x80 : (List Int)) => (-100000 ≤ (worths72.length : Int) ∧ (worths72.length : Int) ≤ 100000) ∧ (∀ x83 ∈ (rngI 0 ((worths72.length : Int))), x80.length + ([x83]).length ≤ 100000) ∧ s79.length + ((((rngI 0 ((worths72.length : Int)))).map fun x83 => (x80 ++ [x83]))).length ≤ 100000) (fun (s79 : (List (List Int))) (x80 : (List Int)) => (let longer84 := (s79 ++ (((rngI 0 ((worths72.length : Int)))).map fun x83 => (x80 ++ [x83]))); longer84)) s74 longer78)) (fun (s74 : (List (List Int))) (x75 : Int) => (let longer78 := []; (let s85 := List.foldl (fun (s79 : (List (List Int))) (x80 : (List Int)) => (let longer84 := (s79 ++ (((rngI 0 ((worths72.length : Int)))).map fun x83 => (x80 ++ [x83]))); longer84)) longer78 s74; (let wholes86 := s85; wholes86)))) ((getL worths72 ((0 : Int)))) wholes73)
theorem R_all_wholes (worths72 : (List (List Int))) (h : S_all_wholes worths72) (k : Nat) (st : Sto) : Cl (run Tb (k + 1)) 12 [(Lx (Lx D.int)) worths72] st ((Lx (Lx D.int)) (F_all_wholes worths72)) 0 st := by
  refine y_fn (g := (Lx (Lx D.int))) rfl rfl (.cons (.none (.none (.none (.none (.none (.nil))))))) ?_
  refine y_asg (v_ls2 (f := (Lx D.int)) (vx_c2 (f := (Lx D.int)) (v_ls2 (f := D.int) vx_n) vx_n)) rfl (.inl rfl) (.s (.z rfl)) (by decide : 0 ≤ 2) ?_
  refine y_fold (σ := (List (List Int))) (.keep (.put (fun s74 => some ((Lx (Lx D.int)) s74, 0)) (.put (fun _ => none) (.put (fun _ => none) (.put (fun _ => none) (.keep (.nil))))))) (f := D.int) h.2 (sr_seq (f := D.int) (v_ix (f := (Lx D.int)) (v_var rfl) (v_con rfl) h.1)) rfl (wk_s (by decide) (wk_s (by decide) (wk_n rfl (wk_n rfl (wk_n rfl (wk_n rfl wk_e)))))) rfl (fun x75 m77 s74 h76 => ⟨_, (.nm (.s (.s (.z rfl)))), ?_⟩) (fun _ => rfl) ?_
  · skip
    refine y_asg (v_ls2 (f := (Lx D.int)) vx_n) rfl (.inl rfl) (.s (.s (.s (.z rfl)))) (by decide : 0 ≤ 2) ?_
    refine y_fold (σ := (List (List Int))) (.keep (.keep (.keep (.put (fun s79 => some ((Lx (Lx D.int)) s79, 0)) (.put (fun _ => none) (.keep (.nil))))))) (f := (Lx D.int)) h76 (sr_seq (f := (Lx D.int)) (v_var rfl)) rfl (wk_s (by decide) (wk_s (by decide) (wk_s (by decide) (wk_s (by decide) (wk_n rfl (wk_n rfl wk_e)))))) rfl (fun x80 m82 s79 h81 => ⟨_, (.nm (.s (.s (.s (.s (.z rfl)))))), ?_⟩) (fun _ => rfl) ?_
    · skip
      refine y_asg (v_addL (f := (Lx D.int)) (v_var rfl) (v_lc2 (f := (Lx D.int)) (sr_rng1 (v_len (f := (Lx D.int)) (v_var rfl)) h81.1) (fun _ _ => rfl) (fun x83 h88 => (v_addL2 (f := D.int) (v_var rfl) (v_ls2 (f := D.int) (vx_c2 (f := D.int) (v_varF rfl rfl) vx_n)) (h81.2.1 x83 h88) (fun _ => rfl)))) h81.2.2) rfl (.inl rfl) (.s (.s (.s (.z rfl)))) (by decide : 0 ≤ 1) ?_
      exact x_endN (wk_s (by decide) (wk_s (by decide) (wk_s (by decide) (wk_s (by decide) (wk_n rfl (wk_n rfl wk_e))))))
    refine y_asg (v_var rfl) rfl (.inl rfl) (.s (.z rfl)) (by decide : 0 ≤ 0) ?_
    exact x_endN (wk_s (by decide) (wk_s (by decide) (wk_n rfl (wk_n rfl (wk_n rfl (wk_n rfl wk_e))))))
  exact x_retv (g := (Lx (Lx D.int))) rfl (by decide) (.inl (by decide))
def F_whole_gains (worths89 : (List (List Int))) (whole90 : (List Int)) : (List Int) := (((enuI 0 ((F_lots_in worths89 whole90)))).map fun x91 => (F_value_of ((getL worths89 x91.1)) x91.2))
def S_whole_gains (worths89 : (List (List Int))) (whole90 : (List Int)) : Prop := S_lots_in worths89 whole90 ∧ (∀ x91 ∈ (enuI 0 ((F_lots_in worths89 whole90))), inb worths89 x91.1 ∧ S_value_of ((getL worths89 x91.1)) x91.2)
theorem R_whole_gains (worths89 : (List (List Int))) (whole90 : (List Int)) (h : S_whole_gains worths89 whole90) (k : Nat) (st : Sto) : Cl (run Tb (k + 3)) 13 [(Lx (Lx D.int)) worths89, (Lx D.int) whole90] st ((Lx D.int) (F_whole_gains worths89 whole90)) 0 st := by
  refine y_fn (g := (Lx D.int)) rfl rfl (.cons (.cons (.none (.none (.nil))))) ?_
  exact x_ret (g := (Lx D.int)) (v_lc2 (f := D.int) (sr_enu (f := (Lx D.int)) (v_call (vl_c (v_var rfl) (vl_c (v_var rfl) vl_n)) (R_lots_in _ _ h.1 (k) _))) (fun _ _ => rfl) (fun x91 h92 => (v_call (vl_c (v_ix (f := (Lx D.int)) (v_var rfl) (v_varF rfl rfl) (h.2 x91 h92).1) (vl_c (v_var rfl) vl_n)) (R_value_of _ _ (h.2 x91 h92).2 (k + 1) _)))) rfl (by decide)
def F_best_parting (worths93 : (List (List Int))) (heir94 : Int) : (Option (Int × (List (List Int)))) := (let best95 := none; (let s104 := List.foldl (fun (s96 : (Option (Int × (List (List Int))))) (x97 : (List Int)) => (let lots100 := (F_lots_in worths93 x97); (let least102 := (mnI ((lots100.map fun x101 => (F_value_of ((getL worths93 heir94)) x101)))); (cond ((s96.isNone || (decide (((s96.getD default)).1 < least102)))) (let best103 := (some ((least102, lots100))); best103) s96)))) best95 ((F_all_wholes worths93)); s104))
def S_best_parting (worths93 : (List (List Int))) (heir94 : Int) : Prop := (let best95 := none; S_all_wholes worths93 ∧ foldS (fun (s96 : (Option (Int × (List (List Int))))) (x97 : (List Int)) => S_lots_in worths93 x97 ∧ (let lots100 := (F_lots_in worths93 x97); (∀ x101 ∈ lots100, inb worths93 heir94 ∧ S_value_of ((getL worths93 heir94)) x101) ∧ ((lots100.map fun x101 => (F_value_of ((getL worths93 heir94)) x101))) ≠ [] ∧ (let least102 := (mnI ((lots100.map fun x101 => (F_value_of ((getL worths93 heir94)) x101)))); (s96.isNone = false → s96.isSome = true)))) (fun (s96 : (Option (Int × (List (List Int))))) (x97 : (List Int)) => (let lots100 := (F_lots_in worths93 x97); (let least102 := (mnI ((lots100.map fun x101 => (F_value_of ((getL worths93 heir94)) x101)))); (cond ((s96.isNone || (decide (((s96.getD default)).1 < least102)))) (let best103 := (some ((least102, lots100))); best103) s96)))) ((F_all_wholes worths93)) best95)
theorem R_best_parting (worths93 : (List (List Int))) (heir94 : Int) (h : S_best_parting worths93 heir94) (k : Nat) (st : Sto) : Cl (run Tb (k + 3)) 14 [(Lx (Lx D.int)) worths93, D.int heir94] st ((Ox (Tx2 D.int (Lx (Lx D.int)))) (F_best_parting worths93 heir94)) 0 st := by
  refine y_fn (g := (Ox (Tx2 D.int (Lx (Lx D.int))))) rfl rfl (.cons (.cons (.none (.none (.none (.none (.none (.nil)))))))) ?_
  refine y_asg (v_none (f := (Tx2 D.int (Lx (Lx D.int)))) (v_con rfl)) rfl (.inl rfl) (.s (.s (.z rfl))) (by decide : 0 ≤ 2) ?_
  refine y_fold (σ := (Option (Int × (List (List Int))))) (.keep (.keep (.put (fun s96 => some ((Ox (Tx2 D.int (Lx (Lx D.int)))) s96, 0)) (.put (fun _ => none) (.put (fun _ => none) (.put (fun _ => none) (.keep (.nil)))))))) (f := (Lx D.int)) h.2 (sr_seq (f := (Lx D.int)) (v_call (vl_c (v_var rfl) vl_n) (R_all_wholes _ h.1 (k + 1) _))) rfl (wk_s (by decide) (wk_s (by decide) (wk_s (by decide) (wk_n rfl (wk_n rfl (wk_n rfl (wk_n rfl wk_e))))))) rfl (fun x97 m99 s96 h98 => ⟨_, (.nm (.s (.s (.s (.z rfl))))), ?_⟩) (fun _ => rfl) ?_
  · skip
    refine y_asg (v_call (vl_c (v_var rfl) (vl_c (v_var rfl) vl_n)) (R_lots_in _ _ h98.1 (k) _)) rfl (.inl rfl) (.s (.s (.s (.s (.z rfl))))) (by decide : 0 ≤ 0) ?_
    refine y_asg (v_min (v_lc2 (f := D.int) (sr_seq (f := (Lx D.int)) (v_var rfl)) (fun _ _ => rfl) (fun x101 h105 => (v_call (vl_c (v_ix (f := (Lx D.int)) (v_var rfl) (v_varF rfl rfl) (h98.2.1 x101 h105).1) (vl_c (v_var rfl) vl_n)) (R_value_of _ _ (h98.2.1 x101 h105).2 (k + 1) _)))) h98.2.2.1) rfl (.inl rfl) (.s (.s (.s (.s (.s (.z rfl)))))) (by decide : 0 ≤ 2) ?_
    refine x_ite (evor (v_isN (fun _ => rfl) (v_var rfl)) (fun e108 => (v_gt (v_varF rfl rfl) (v_21F (f := D.int) (g := (Lx (Lx D.int))) (v_get (f := (Tx2 D.int (Lx (Lx D.int)))) (v_var rfl) (h98.2.2.2 e108)) (fun _ => rfl))))) rfl (fun e106 => ?_) (fun e107 => ?_)
    · skip
      refine y_asg (v_some (f := (Tx2 D.int (Lx (Lx D.int)))) (v_tp2 (f := D.int) (g := (Lx (Lx D.int))) (v_varF rfl rfl) (v_var rfl))) rfl (.inl rfl) (.s (.s (.z rfl))) (by decide : 0 ≤ 0) ?_
      exact x_endN (wk_s (by decide) (wk_s (by decide) (wk_s (by decide) (wk_n rfl (wk_n rfl (wk_n rfl (wk_n rfl wk_e)))))))
    · skip
      exact x_endN (wk_s (by decide) (wk_s (by decide) (wk_s (by decide) (wk_n rfl (wk_n rfl (wk_n rfl (wk_n rfl wk_e)))))))
  exact x_retv (g := (Ox (Tx2 D.int (Lx (Lx D.int))))) rfl (by decide) (.inl (by decide))
def F_check_known (worths109 : (List (List Int))) (heir110 : Int) : Unit := ()
def S_check_known (worths109 : (List (List Int))) (heir110 : Int) : Prop := S_check_worths worths109 ∧ S_check_heir worths109 heir110 ∧ S_check_few worths109
theorem R_check_known (worths109 : (List (List Int))) (heir110 : Int) (h : S_check_known worths109 heir110) (k : Nat) (st : Sto) : Cl (run Tb (k + 7)) 15 [(Lx (Lx D.int)) worths109, D.int heir110] st (Nx (F_check_known worths109 heir110)) 2 st := by
  refine y_fn (g := Nx) rfl rfl (.cons (.cons (.nil))) ?_
  refine x_expr (v_call (vl_c (v_var rfl) vl_n) (R_check_worths _ h.1 (k) _)) rfl ?_
  refine x_expr (v_call (vl_c (v_var rfl) (vl_c (v_varF rfl rfl) vl_n)) (R_check_heir _ _ h.2.1 (k + 2) _)) rfl ?_
  refine x_expr (v_call (vl_c (v_var rfl) vl_n) (R_check_few _ h.2.2 (k + 5) _)) rfl ?_
  exact x_end rfl (by decide)
def F_own_least (worths111 : (List (List Int))) (heir112 : Int) : Int := ((((F_best_parting worths111 heir112)).getD default)).1
def S_own_least (worths111 : (List (List Int))) (heir112 : Int) : Prop := S_check_known worths111 heir112 ∧ S_best_parting worths111 heir112 ∧ ((F_best_parting worths111 heir112)).isSome = true
theorem R_own_least (worths111 : (List (List Int))) (heir112 : Int) (h : S_own_least worths111 heir112) (k : Nat) (st : Sto) : Cl (run Tb (k + 8)) 16 [(Lx (Lx D.int)) worths111, D.int heir112] st (D.int (F_own_least worths111 heir112)) 2 st := by
  refine y_fn (g := D.int) rfl rfl (.cons (.cons (.nil))) ?_
  refine x_expr (v_call (vl_c (v_var rfl) (vl_c (v_varF rfl rfl) vl_n)) (R_check_known _ _ h.1 (k) _)) rfl ?_
  exact x_ret (g := D.int) (v_21F (f := D.int) (g := (Lx (Lx D.int))) (v_get (f := (Tx2 D.int (Lx (Lx D.int)))) (v_call (vl_c (v_var rfl) (vl_c (v_varF rfl rfl) vl_n)) (R_best_parting _ _ h.2.1 (k + 4) _)) h.2.2) (fun _ => rfl)) rfl (by decide)
def F_check_two (worths113 : (List (List Int))) (heir114 : Int) : Unit := (cond ((!((worths113.length : Int) == (2 : Int)))) () ())
def S_check_two (worths113 : (List (List Int))) (heir114 : Int) : Prop := S_check_known worths113 heir114 ∧ (((!((worths113.length : Int) == (2 : Int)))) = true → False)
theorem R_check_two (worths113 : (List (List Int))) (heir114 : Int) (h : S_check_two worths113 heir114) (k : Nat) (st : Sto) : Cl (run Tb (k + 8)) 17 [(Lx (Lx D.int)) worths113, D.int heir114] st (Nx (F_check_two worths113 heir114)) 2 st := by
  refine y_fn (g := Nx) rfl rfl (.cons (.cons (.nil))) ?_
  refine x_expr (v_call (vl_c (v_var rfl) (vl_c (v_varF rfl rfl) vl_n)) (R_check_known _ _ h.1 (k) _)) rfl ?_
  refine x_ite (v_ne (f := D.int) eq_int (v_len (f := (Lx D.int)) (v_var rfl)) (v_con rfl)) rfl (fun e115 => ?_) (fun e116 => ?_)
  · skip
    exact ((h.2 e115) : False).elim
  · skip
    exact x_end rfl (by decide)
def F_cut_and_choose (worths117 : (List (List Int))) (heir118 : Int) : (List Int) := (let lots119 := ((((F_best_parting worths117 heir118)).getD default)).2; (let other120 := ((1 : Int) - heir118); (let taken121 := (cond (decide ((F_value_of ((getL worths117 other120)) ((getL lots119 ((1 : Int))))) < (F_value_of ((getL worths117 other120)) ((getL lots119 ((0 : Int))))))) ((0 : Int)) ((1 : Int))); (((rngI 0 ((((getL worths117 ((0 : Int)))).length : Int)))).map fun x122 => (cond ((((getL lots119 taken121)).elem x122)) other120 heir118)))))
def S_cut_and_choose (worths117 : (List (List Int))) (heir118 : Int) : Prop := S_check_two worths117 heir118 ∧ S_best_parting worths117 heir118 ∧ ((F_best_parting worths117 heir118)).isSome = true ∧ (let lots119 := ((((F_best_parting worths117 heir118)).getD default)).2; (let other120 := ((1 : Int) - heir118); inb worths117 other120 ∧ inb lots119 ((0 : Int)) ∧ S_value_of ((getL worths117 other120)) ((getL lots119 ((0 : Int)))) ∧ inb worths117 other120 ∧ inb lots119 ((1 : Int)) ∧ S_value_of ((getL worths117 other120)) ((getL lots119 ((1 : Int)))) ∧ (let taken121 := (cond (decide ((F_value_of ((getL worths117 other120)) ((getL lots119 ((1 : Int))))) < (F_value_of ((getL worths117 other120)) ((getL lots119 ((0 : Int))))))) ((0 : Int)) ((1 : Int))); inb worths117 ((0 : Int)) ∧ (-100000 ≤ (((getL worths117 ((0 : Int)))).length : Int) ∧ (((getL worths117 ((0 : Int)))).length : Int) ≤ 100000) ∧ (∀ x122 ∈ (rngI 0 ((((getL worths117 ((0 : Int)))).length : Int))), inb lots119 taken121))))
theorem R_cut_and_choose (worths117 : (List (List Int))) (heir118 : Int) (h : S_cut_and_choose worths117 heir118) (k : Nat) (st : Sto) : Cl (run Tb (k + 9)) 18 [(Lx (Lx D.int)) worths117, D.int heir118] st ((Lx D.int) (F_cut_and_choose worths117 heir118)) 1 st := by
  refine y_fn (g := (Lx D.int)) rfl rfl (.cons (.cons (.none (.none (.none (.none (.nil))))))) ?_
  refine x_expr (v_call (vl_c (v_var rfl) (vl_c (v_varF rfl rfl) vl_n)) (R_check_two _ _ h.1 (k) _)) rfl ?_
  refine y_asg (v_22 (f := D.int) (g := (Lx (Lx D.int))) (v_get (f := (Tx2 D.int (Lx (Lx D.int)))) (v_call (vl_c (v_var rfl) (vl_c (v_varF rfl rfl) vl_n)) (R_best_parting _ _ h.2.1 (k + 5) _)) h.2.2.1)) rfl (.inl rfl) (.s (.s (.z rfl))) (by decide : 0 ≤ 0) ?_
  refine y_asg (v_sub (v_con rfl) (v_varF rfl rfl)) rfl (.inl rfl) (.s (.s (.s (.z rfl)))) (by decide : 0 ≤ 2) ?_
  refine y_asg (v_ife (f := D.int) (v_gt (v_call (vl_c (v_ix (f := (Lx D.int)) (v_var rfl) (v_varF rfl rfl) h.2.2.2.1) (vl_c (v_ix (f := (Lx D.int)) (v_var rfl) (v_con rfl) h.2.2.2.2.1) vl_n)) (R_value_of _ _ h.2.2.2.2.2.1 (k + 7) _)) (v_call (vl_c (v_ix (f := (Lx D.int)) (v_var rfl) (v_varF rfl rfl) h.2.2.2.2.2.2.1) (vl_c (v_ix (f := (Lx D.int)) (v_var rfl) (v_con rfl) h.2.2.2.2.2.2.2.1) vl_n)) (R_value_of _ _ h.2.2.2.2.2.2.2.2.1 (k + 7) _))) (fun e123 => (v_con rfl)) (fun e123 => (v_con rfl))) rfl (.inl rfl) (.s (.s (.s (.s (.z rfl))))) (by decide : 0 ≤ 2) ?_
  exact x_ret (g := (Lx D.int)) (v_lc2 (f := D.int) (sr_rng1 (v_len (f := D.int) (v_ix (f := (Lx D.int)) (v_var rfl) (v_con rfl) h.2.2.2.2.2.2.2.2.2.1)) h.2.2.2.2.2.2.2.2.2.2.1) (fun _ _ => rfl) (fun x122 h124 => (v_ife (f := D.int) (v_in (f := D.int) (EqE.int.inL (by decide) _ _) (v_varF rfl rfl) (v_ix (f := (Lx D.int)) (v_var rfl) (v_varF rfl rfl) (h.2.2.2.2.2.2.2.2.2.2.2 x122 h124))) (fun e125 => (v_varF rfl rfl)) (fun e125 => (v_varF rfl rfl))))) rfl (by decide)
def F_is_cut_and_choose (worths126 : (List (List Int))) (heir127 : Int) (value128 : D) : Bool := (cond ((!((F_is_whole_of worths126 value128)))) false (let lots129 := (F_lots_in worths126 ((toLI value128))); (let other130 := ((1 : Int) - heir127); (cond (decide ((F_value_of ((getL worths126 other130)) ((getL lots129 other130))) < (F_value_of ((getL worths126 other130)) ((getL lots129 heir127))))) false ((mnI ((lots129.map fun x131 => (F_value_of ((getL worths126 heir127)) x131)))) == ((((F_best_parting worths126 heir127)).getD default)).1)))))
def S_is_cut_and_choose (worths126 : (List (List Int))) (heir127 : Int) (value128 : D) : Prop := S_check_two worths126 heir127 ∧ S_is_whole_of worths126 value128 ∧ (((!((F_is_whole_of worths126 value128)))) = false → (value128 = (Lx D.int) (toLI value128) ∧ S_lots_in worths126 ((toLI value128)) ∧ (let lots129 := (F_lots_in worths126 ((toLI value128))); (let other130 := ((1 : Int) - heir127); inb worths126 other130 ∧ inb lots129 other130 ∧ S_value_of ((getL worths126 other130)) ((getL lots129 other130)) ∧ inb worths126 other130 ∧ inb lots129 heir127 ∧ S_value_of ((getL worths126 other130)) ((getL lots129 heir127)) ∧ ((decide ((F_value_of ((getL worths126 other130)) ((getL lots129 other130))) < (F_value_of ((getL worths126 other130)) ((getL lots129 heir127))))) = false → ((∀ x131 ∈ lots129, inb worths126 heir127 ∧ S_value_of ((getL worths126 heir127)) x131) ∧ ((lots129.map fun x131 => (F_value_of ((getL worths126 heir127)) x131))) ≠ [] ∧ S_best_parting worths126 heir127 ∧ ((F_best_parting worths126 heir127)).isSome = true))))))
theorem R_is_cut_and_choose (worths126 : (List (List Int))) (heir127 : Int) (value128 : D) (h : S_is_cut_and_choose worths126 heir127 value128) (k : Nat) (st : Sto) : Cl (run Tb (k + 9)) 19 [(Lx (Lx D.int)) worths126, D.int heir127, value128] st (D.bl (F_is_cut_and_choose worths126 heir127 value128)) 2 st := by
  refine y_fn (g := D.bl) rfl rfl (.cons (.cons (.cons (.none (.none (.none (.nil))))))) ?_
  refine x_expr (v_call (vl_c (v_var rfl) (vl_c (v_varF rfl rfl) vl_n)) (R_check_two _ _ h.1 (k) _)) rfl ?_
  refine x_ite (evnot (v_call (vl_c (v_var rfl) (vl_c (v_var rfl) vl_n)) (R_is_whole_of _ _ h.2.1 (k + 4) _))) rfl (fun e132 => ?_) (fun e133 => ?_)
  · skip
    exact x_ret (g := D.bl) (v_con rfl) rfl (by decide)
  · skip
    refine y_asg (v_call (vl_c (v_var rfl) (vl_c (v_toX (f := (Lx D.int)) (v_var rfl) (h.2.2 e133).1) vl_n)) (R_lots_in _ _ (h.2.2 e133).2.1 (k + 6) _)) rfl (.inl rfl) (.s (.s (.s (.z rfl)))) (by decide : 0 ≤ 0) ?_
    refine y_asg (v_sub (v_con rfl) (v_varF rfl rfl)) rfl (.inl rfl) (.s (.s (.s (.s (.z rfl))))) (by decide : 0 ≤ 2) ?_
    refine x_ite (v_lt (v_call (vl_c (v_ix (f := (Lx D.int)) (v_var rfl) (v_varF rfl rfl) (h.2.2 e133).2.2.1) (vl_c (v_ix (f := (Lx D.int)) (v_var rfl) (v_varF rfl rfl) (h.2.2 e133).2.2.2.1) vl_n)) (R_value_of _ _ (h.2.2 e133).2.2.2.2.1 (k + 7) _)) (v_call (vl_c (v_ix (f := (Lx D.int)) (v_var rfl) (v_varF rfl rfl) (h.2.2 e133).2.2.2.2.2.1) (vl_c (v_ix (f := (Lx D.int)) (v_var rfl) (v_varF rfl rfl) (h.2.2 e133).2.2.2.2.2.2.1) vl_n)) (R_value_of _ _ (h.2.2 e133).2.2.2.2.2.2.2.1 (k + 7) _))) rfl (fun e134 => ?_) (fun e135 => ?_)
    · skip
      exact x_ret (g := D.bl) (v_con rfl) rfl (by decide)
    · skip
      exact x_ret (g := D.bl) (v_eq (f := D.int) eq_int (v_min (v_lc2 (f := D.int) (sr_seq (f := (Lx D.int)) (v_var rfl)) (fun _ _ => rfl) (fun x131 h136 => (v_call (vl_c (v_ix (f := (Lx D.int)) (v_var rfl) (v_varF rfl rfl) (((h.2.2 e133).2.2.2.2.2.2.2.2 e135).1 x131 h136).1) (vl_c (v_var rfl) vl_n)) (R_value_of _ _ (((h.2.2 e133).2.2.2.2.2.2.2.2 e135).1 x131 h136).2 (k + 7) _)))) ((h.2.2 e133).2.2.2.2.2.2.2.2 e135).2.1) (v_21F (f := D.int) (g := (Lx (Lx D.int))) (v_get (f := (Tx2 D.int (Lx (Lx D.int)))) (v_call (vl_c (v_var rfl) (vl_c (v_varF rfl rfl) vl_n)) (R_best_parting _ _ ((h.2.2 e133).2.2.2.2.2.2.2.2 e135).2.2.1 (k + 5) _)) ((h.2.2 e133).2.2.2.2.2.2.2.2 e135).2.2.2) (fun _ => rfl))) rfl (by decide)
def F_all_least (worths137 : (List (List Int))) : (Option (List Int)) := (let least139 := (((rngI 0 ((worths137.length : Int)))).map fun x138 => ((((F_best_parting worths137 x138)).getD default)).1); ((forT (fun (s140 : Unit) (x141 : (List Int)) => (let gains144 := (F_whole_gains worths137 x141); (cond ((((((enuI 0 gains144)).filter fun x145 => decide (x145.2 < (getL least139 x145.1))).map fun x145 => x145.1)).isEmpty) (.ret ((some x141))) (.nx (()))))) ((F_all_wholes worths137)) (())).run (fun s146 => none) (fun b => b)))
def S_all_least (worths137 : (List (List Int))) : Prop := S_check_worths worths137 ∧ S_check_few worths137 ∧ (-100000 ≤ (worths137.length : Int) ∧ (worths137.length : Int) ≤ 100000) ∧ (∀ x138 ∈ (rngI 0 ((worths137.length : Int))), S_best_parting worths137 x138 ∧ ((F_best_parting worths137 x138)).isSome = true) ∧ (let least139 := (((rngI 0 ((worths137.length : Int)))).map fun x138 => ((((F_best_parting worths137 x138)).getD default)).1); S_all_wholes worths137 ∧ forS (fun (s140 : Unit) (x141 : (List Int)) => S_whole_gains worths137 x141 ∧ (let gains144 := (F_whole_gains worths137 x141); (∀ x145 ∈ (enuI 0 gains144), inb least139 x145.1))) (fun (s140 : Unit) (x141 : (List Int)) => (let gains144 := (F_whole_gains worths137 x141); (cond ((((((enuI 0 gains144)).filter fun x145 => decide (x145.2 < (getL least139 x145.1))).map fun x145 => x145.1)).isEmpty) (.ret ((some x141))) (.nx (()))))) ((F_all_wholes worths137)) (()))
theorem R_all_least (worths137 : (List (List Int))) (h : S_all_least worths137) (k : Nat) (st : Sto) : Cl (run Tb (k + 7)) 20 [(Lx (Lx D.int)) worths137] st ((Ox (Lx D.int)) (F_all_least worths137)) 0 st := by
  refine y_fn (g := (Ox (Lx D.int))) rfl rfl (.cons (.none (.none (.none (.none (.none (.nil))))))) ?_
  refine x_expr (v_call (vl_c (v_var rfl) vl_n) (R_check_worths _ h.1 (k) _)) rfl ?_
  refine x_expr (v_call (vl_c (v_var rfl) vl_n) (R_check_few _ h.2.1 (k + 5) _)) rfl ?_
  refine y_asg (v_lc2 (f := D.int) (sr_rng1 (v_len (f := (Lx D.int)) (v_var rfl)) h.2.2.1) (fun _ _ => rfl) (fun x138 h147 => (v_21F (f := D.int) (g := (Lx (Lx D.int))) (v_get (f := (Tx2 D.int (Lx (Lx D.int)))) (v_call (vl_c (v_var rfl) (vl_c (v_varF rfl rfl) vl_n)) (R_best_parting _ _ (h.2.2.2.1 x138 h147).1 (k + 3) _)) (h.2.2.2.1 x138 h147).2) (fun _ => rfl)))) rfl (.inl rfl) (.s (.z rfl)) (by decide : 0 ≤ 2) ?_
  refine y_for (σ := Unit) (.keep (.keep (.put (fun _ => none) (.put (fun _ => none) (.keep (.keep (.nil))))))) (g := (Ox (Lx D.int))) (mo := 0) (f := (Lx D.int)) h.2.2.2.2.2 (sr_seq (f := (Lx D.int)) (v_call (vl_c (v_var rfl) vl_n) (R_all_wholes _ h.2.2.2.2.1 (k + 5) _))) rfl (wk_s (by decide) (wk_s (by decide) (wk_n rfl (wk_n rfl (wk_n rfl (wk_n rfl wk_e)))))) rfl (fun x141 m143 s140 h142 => ⟨_, (.nm (.s (.s (.z rfl)))), ?_⟩) (fun _ => rfl) (fun s146 e148 => ?_) (fun _ _ _ _ h1 h2 => ret_fn h1 h2)
  · skip
    refine y_asg (v_call (vl_c (v_var rfl) (vl_c (v_var rfl) vl_n)) (R_whole_gains _ _ h142.1 (k + 3) _)) rfl (.inl rfl) (.s (.s (.s (.z rfl)))) (by decide : 0 ≤ 0) ?_
    refine x_ite (v_eqN (f := D.int) (EqE.int.nil (by decide) _) (v_lcT2 (f := D.int) (sr_enu (f := D.int) (v_var rfl)) (fun _ _ => rfl) (fun x145 h151 => vt_c (v_lt (v_varF rfl rfl) (v_ixF (f := D.int) (v_var rfl) (v_varF rfl rfl) (h142.2 x145 h151) (fun _ => rfl)))) (fun x145 h151 h152 => (v_varF rfl rfl)))) rfl (fun e149 => ?_) (fun e150 => ?_)
    · skip
      exact x_retvC (g := (Ox (Lx D.int))) rfl (by decide) (.inl (by decide))
    · skip
      exact x_endC (wk_s (by decide) (wk_s (by decide) (wk_n rfl (wk_n rfl (wk_n rfl (wk_n rfl wk_e))))))
  · skip
    exact x_ret (g := (Ox (Lx D.int))) (v_none (f := (Lx D.int)) (v_con rfl)) rfl (by decide)
def F_law_lots (worths153 : (List (List Int))) (whole154 : (List Int)) : (List (List Int)) := (((rngI 0 ((worths153.length : Int)))).map fun x155 => ((((enuI 0 whole154)).filter fun x156 => (x156.2 == x155)).map fun x156 => x156.1))
def S_law_lots (worths153 : (List (List Int))) (whole154 : (List Int)) : Prop := (-100000 ≤ (worths153.length : Int) ∧ (worths153.length : Int) ≤ 100000)
theorem R_law_lots (worths153 : (List (List Int))) (whole154 : (List Int)) (h : S_law_lots worths153 whole154) (k : Nat) (st : Sto) : Cl (run Tb (k + 1)) 30 [(Lx (Lx D.int)) worths153, (Lx D.int) whole154] st ((Lx (Lx D.int)) (F_law_lots worths153 whole154)) 0 st := by
  refine y_fn (g := (Lx (Lx D.int))) rfl rfl (.cons (.cons (.none (.none (.none (.nil)))))) ?_
  exact x_ret (g := (Lx (Lx D.int))) (v_lc2 (f := (Lx D.int)) (sr_rng1 (v_len (f := (Lx D.int)) (v_var rfl)) h) (fun _ _ => rfl) (fun x155 h157 => (v_lcT2 (f := D.int) (sr_enu (f := D.int) (v_var rfl)) (fun _ _ => rfl) (fun x156 h158 => vt_c (v_eq (f := D.int) eq_int (v_varF rfl rfl) (v_varF rfl rfl))) (fun x156 h158 h159 => (v_varF rfl rfl))))) rfl (by decide)
def F_law_value (row160 : (List Int)) (lot161 : (List Int)) : Int := ((lot161.map fun x162 => (getL row160 x162))).sum
def S_law_value (row160 : (List Int)) (lot161 : (List Int)) : Prop := (∀ x162 ∈ lot161, inb row160 x162)
theorem R_law_value (row160 : (List Int)) (lot161 : (List Int)) (h : S_law_value row160 lot161) (k : Nat) (st : Sto) : Cl (run Tb (k + 1)) 31 [(Lx D.int) row160, (Lx D.int) lot161] st (D.int (F_law_value row160 lot161)) 2 st := by
  refine y_fn (g := D.int) rfl rfl (.cons (.cons (.none (.nil)))) ?_
  exact x_ret (g := D.int) (v_sum (v_lc2 (f := D.int) (sr_seq (f := D.int) (v_var rfl)) (fun _ _ => rfl) (fun x162 h163 => (v_ixF (f := D.int) (v_var rfl) (v_varF rfl rfl) (h x162 h163) (fun _ => rfl))))) rfl (by decide)
def F_law_whole_gains (worths164 : (List (List Int))) (whole165 : (List Int)) : (List Int) := (((enuI 0 ((F_law_lots worths164 whole165)))).map fun x166 => (F_law_value ((getL worths164 x166.1)) x166.2))
def S_law_whole_gains (worths164 : (List (List Int))) (whole165 : (List Int)) : Prop := S_law_lots worths164 whole165 ∧ (∀ x166 ∈ (enuI 0 ((F_law_lots worths164 whole165))), inb worths164 x166.1 ∧ S_law_value ((getL worths164 x166.1)) x166.2)
theorem R_law_whole_gains (worths164 : (List (List Int))) (whole165 : (List Int)) (h : S_law_whole_gains worths164 whole165) (k : Nat) (st : Sto) : Cl (run Tb (k + 2)) 32 [(Lx (Lx D.int)) worths164, (Lx D.int) whole165] st ((Lx D.int) (F_law_whole_gains worths164 whole165)) 2 st := by
  refine y_fn (g := (Lx D.int)) rfl rfl (.cons (.cons (.none (.none (.nil))))) ?_
  exact x_ret (g := (Lx D.int)) (v_lc2 (f := D.int) (sr_enu (f := (Lx D.int)) (v_call (vl_c (v_var rfl) (vl_c (v_var rfl) vl_n)) (R_law_lots _ _ h.1 (k) _))) (fun _ _ => rfl) (fun x166 h167 => (v_call (vl_c (v_ix (f := (Lx D.int)) (v_var rfl) (v_varF rfl rfl) (h.2 x166 h167).1) (vl_c (v_var rfl) vl_n)) (R_law_value _ _ (h.2 x166 h167).2 (k) _)))) rfl (by decide)
def F_law_is_below (bound168 : Int) (value169 : D) : Bool := (((tysB [Ty.int] value169)) && ((((!((tysB [Ty.bool] value169)))) && ((decide ((0 : Int) ≤ (toI value169)) && decide ((toI value169) < bound168))))))
def S_law_is_below (bound168 : Int) (value169 : D) : Prop := tyOk value169 = true ∧ (((tysB [Ty.int] value169)) = true → (tyOk value169 = true ∧ (((!((tysB [Ty.bool] value169)))) = true → value169 = D.int (toI value169))))
theorem R_law_is_below (bound168 : Int) (value169 : D) (h : S_law_is_below bound168 value169) (k : Nat) (st : Sto) : Cl (run Tb (k + 1)) 33 [D.int bound168, value169] st (D.bl (F_law_is_below bound168 value169)) 2 st := by
  refine y_fn (g := D.bl) rfl rfl (.cons (.cons (.nil))) ?_
  exact x_ret (g := D.bl) (evand (v_isiD (v_var rfl) h.1) (fun e170 => (evand (evnot (v_isiD (v_var rfl) (h.2 e170).1)) (fun e171 => (evcmp2 (v_con rfl) (v_toI (v_var rfl) ((h.2 e170).2 e171)) (v_varF rfl rfl) rfl rfl))))) rfl (by decide)
def F_law_are_takers (heirs172 : Int) (things173 : Int) (value174 : D) : Bool := (((tysB [Ty.list] value174)) && (((((((toL value174)).length : Int) == things173)) && ((((((toL value174)).filter fun x175 => (!((F_law_is_below heirs172 x175)))).map fun x175 => x175)).isEmpty))))
def S_law_are_takers (heirs172 : Int) (things173 : Int) (value174 : D) : Prop := tyOk value174 = true ∧ (((tysB [Ty.list] value174)) = true → (value174 = Lx id (toL value174) ∧ ((((((toL value174)).length : Int) == things173)) = true → (value174 = Lx id (toL value174) ∧ (∀ x175 ∈ (toL value174), S_law_is_below heirs172 x175) ∧ eqD (Lx id (((((toL value174)).filter fun x175 => (!((F_law_is_below heirs172 x175)))).map fun x175 => x175))) (.lst []) = some (((((toL value174)).filter fun x175 => (!((F_law_is_below heirs172 x175)))).map fun x175 => x175)).isEmpty))))
theorem R_law_are_takers (heirs172 : Int) (things173 : Int) (value174 : D) (h : S_law_are_takers heirs172 things173 value174) (k : Nat) (st : Sto) : Cl (run Tb (k + 2)) 34 [D.int heirs172, D.int things173, value174] st (D.bl (F_law_are_takers heirs172 things173 value174)) 2 st := by
  refine y_fn (g := D.bl) rfl rfl (.cons (.cons (.cons (.none (.nil))))) ?_
  exact x_ret (g := D.bl) (evand (v_isiD (v_var rfl) h.1) (fun e176 => (evand (v_eq (f := D.int) eq_int (v_len (f := id) (v_toL (v_var rfl) (h.2 e176).1)) (v_varF rfl rfl)) (fun e177 => (v_eqN (f := id) ((h.2 e176).2 e177).2.2 (v_lcT (f := id) (sr_seq (f := id) (v_toL (v_var rfl) ((h.2 e176).2 e177).1)) (fun _ _ => rfl) (fun x175 h178 => vt_c (evnot (v_call (vl_c (v_varF rfl rfl) (vl_c (v_var rfl) vl_n)) (R_law_is_below _ _ (((h.2 e176).2 e177).2.1 x175 h178) (k) _)))) (fun x175 h178 h179 => (v_var rfl)))))))) rfl (by decide)
def F_law_all_wholes (heirs180 : Int) (things181 : Int) : (List (List Int)) := (let wholes182 := [[]]; (let s190 := List.foldl (fun (s183 : (List (List Int))) (x184 : Int) => (let wholes189 := ((s183.map fun x187 => (((rngI 0 heirs180)).map fun x188 => (x187 ++ [x188])))).flatten; wholes189)) wholes182 ((rngI 0 things181)); s190))
def S_law_all_wholes (heirs180 : Int) (things181 : Int) : Prop := (let wholes182 := [[]]; (-100000 ≤ things181 ∧ things181 ≤ 100000) ∧ foldS (fun (s183 : (List (List Int))) (x184 : Int) => (∀ x187 ∈ s183, (-100000 ≤ heirs180 ∧ heirs180 ≤ 100000) ∧ (∀ x188 ∈ (rngI 0 heirs180), x187.length + ([x188]).length ≤ 100000)) ∧ ((s183.map fun x187 => (((rngI 0 heirs180)).map fun x188 => (x187 ++ [x188])))).flatten.length ≤ 100000) (fun (s183 : (List (List Int))) (x184 : Int) => (let wholes189 := ((s183.map fun x187 => (((rngI 0 heirs180)).map fun x188 => (x187 ++ [x188])))).flatten; wholes189)) ((rngI 0 things181)) wholes182)
theorem R_law_all_wholes (heirs180 : Int) (things181 : Int) (h : S_law_all_wholes heirs180 things181) (k : Nat) (st : Sto) : Cl (run Tb (k + 1)) 35 [D.int heirs180, D.int things181] st ((Lx (Lx D.int)) (F_law_all_wholes heirs180 things181)) 0 st := by
  refine y_fn (g := (Lx (Lx D.int))) rfl rfl (.cons (.cons (.none (.none (.none (.none (.nil))))))) ?_
  refine y_asg (v_ls2 (f := (Lx D.int)) (vx_c2 (f := (Lx D.int)) (v_ls2 (f := D.int) vx_n) vx_n)) rfl (.inl rfl) (.s (.s (.z rfl))) (by decide : 0 ≤ 2) ?_
  refine y_fold (σ := (List (List Int))) (.keep (.keep (.put (fun s183 => some ((Lx (Lx D.int)) s183, 0)) (.put (fun _ => none) (.keep (.keep (.nil))))))) (f := D.int) h.2 (sr_rng1 (v_varF rfl rfl) h.1) rfl (wk_s (by decide) (wk_s (by decide) (wk_s (by decide) (wk_n rfl (wk_n rfl (wk_n rfl wk_e)))))) rfl (fun x184 m186 s183 h185 => ⟨_, (.nm (.s (.s (.s (.z rfl))))), ?_⟩) (fun _ => rfl) ?_
  · skip
    refine y_asg (v_sumf (f := (Lx D.int)) (v_lc2 (f := (Lx (Lx D.int))) (sr_seq (f := (Lx D.int)) (v_var rfl)) (fun _ _ => rfl) (fun x187 h191 => (v_lc2 (f := (Lx D.int)) (sr_rng1 (v_varF rfl rfl) (h185.1 x187 h191).1) (fun _ _ => rfl) (fun x188 h192 => (v_addL2 (f := D.int) (v_var rfl) (v_ls2 (f := D.int) (vx_c2 (f := D.int) (v_varF rfl rfl) vx_n)) ((h185.1 x187 h191).2 x188 h192) (fun _ => rfl)))))) h185.2) rfl (.inl rfl) (.s (.s (.z rfl))) (by decide : 0 ≤ 1) ?_
    exact x_endN (wk_s (by decide) (wk_s (by decide) (wk_s (by decide) (wk_n rfl (wk_n rfl (wk_n rfl wk_e))))))
  exact x_retv (g := (Lx (Lx D.int))) rfl (by decide) (.inl (by decide))
def F_law_least (worths193 : (List (List Int))) (heir194 : Int) : Int := (let rows195 := (F_law_all_wholes ((worths193.length : Int)) ((((getL worths193 ((0 : Int)))).length : Int))); (mxI ((rows195.map fun x196 => (mnI ((((F_law_lots worths193 x196)).map fun x197 => (F_law_value ((getL worths193 heir194)) x197))))))))
def S_law_least (worths193 : (List (List Int))) (heir194 : Int) : Prop := inb worths193 ((0 : Int)) ∧ S_law_all_wholes ((worths193.length : Int)) ((((getL worths193 ((0 : Int)))).length : Int)) ∧ (let rows195 := (F_law_all_wholes ((worths193.length : Int)) ((((getL worths193 ((0 : Int)))).length : Int))); (∀ x196 ∈ rows195, S_law_lots worths193 x196 ∧ (∀ x197 ∈ (F_law_lots worths193 x196), inb worths193 heir194 ∧ S_law_value ((getL worths193 heir194)) x197) ∧ ((((F_law_lots worths193 x196)).map fun x197 => (F_law_value ((getL worths193 heir194)) x197))) ≠ []) ∧ ((rows195.map fun x196 => (mnI ((((F_law_lots worths193 x196)).map fun x197 => (F_law_value ((getL worths193 heir194)) x197)))))) ≠ [])
theorem R_law_least (worths193 : (List (List Int))) (heir194 : Int) (h : S_law_least worths193 heir194) (k : Nat) (st : Sto) : Cl (run Tb (k + 2)) 36 [(Lx (Lx D.int)) worths193, D.int heir194] st (D.int (F_law_least worths193 heir194)) 2 st := by
  refine y_fn (g := D.int) rfl rfl (.cons (.cons (.none (.none (.none (.nil)))))) ?_
  refine y_asg (v_call (vl_c (v_len (f := (Lx D.int)) (v_var rfl)) (vl_c (v_len (f := D.int) (v_ix (f := (Lx D.int)) (v_var rfl) (v_con rfl) h.1)) vl_n)) (R_law_all_wholes _ _ h.2.1 (k) _)) rfl (.inl rfl) (.s (.s (.z rfl))) (by decide : 0 ≤ 0) ?_
  exact x_ret (g := D.int) (v_max (v_lc2 (f := D.int) (sr_seq (f := (Lx D.int)) (v_var rfl)) (fun _ _ => rfl) (fun x196 h198 => (v_min (v_lc2 (f := D.int) (sr_seq (f := (Lx D.int)) (v_call (vl_c (v_var rfl) (vl_c (v_var rfl) vl_n)) (R_law_lots _ _ (h.2.2.1 x196 h198).1 (k) _))) (fun _ _ => rfl) (fun x197 h199 => (v_call (vl_c (v_ix (f := (Lx D.int)) (v_var rfl) (v_varF rfl rfl) ((h.2.2.1 x196 h198).2.1 x197 h199).1) (vl_c (v_var rfl) vl_n)) (R_law_value _ _ ((h.2.2.1 x196 h198).2.1 x197 h199).2 (k) _)))) (h.2.2.1 x196 h198).2.2))) h.2.2.2) rfl (by decide)
def F_law_stands (worths200 : (List (List Int))) (heir201 : Int) (value202 : D) (due203 : Int) : Bool := (cond ((!((F_law_are_takers ((2 : Int)) ((((getL worths200 ((0 : Int)))).length : Int)) value202)))) false (let lots204 := (F_law_lots worths200 ((toLI value202))); let other205 := ((1 : Int) - heir201); (cond (decide ((F_law_value ((getL worths200 other205)) ((getL lots204 other205))) < (F_law_value ((getL worths200 other205)) ((getL lots204 heir201))))) false ((mnI ((lots204.map fun x206 => (F_law_value ((getL worths200 heir201)) x206)))) == due203))))
def S_law_stands (worths200 : (List (List Int))) (heir201 : Int) (value202 : D) (due203 : Int) : Prop := inb worths200 ((0 : Int)) ∧ S_law_are_takers ((2 : Int)) ((((getL worths200 ((0 : Int)))).length : Int)) value202 ∧ (((!((F_law_are_takers ((2 : Int)) ((((getL worths200 ((0 : Int)))).length : Int)) value202)))) = false → (value202 = (Lx D.int) (toLI value202) ∧ S_law_lots worths200 ((toLI value202)) ∧ (let lots204 := (F_law_lots worths200 ((toLI value202))); let other205 := ((1 : Int) - heir201); inb worths200 other205 ∧ inb lots204 other205 ∧ S_law_value ((getL worths200 other205)) ((getL lots204 other205)) ∧ inb worths200 other205 ∧ inb lots204 heir201 ∧ S_law_value ((getL worths200 other205)) ((getL lots204 heir201)) ∧ ((decide ((F_law_value ((getL worths200 other205)) ((getL lots204 other205))) < (F_law_value ((getL worths200 other205)) ((getL lots204 heir201))))) = false → ((∀ x206 ∈ lots204, inb worths200 heir201 ∧ S_law_value ((getL worths200 heir201)) x206) ∧ ((lots204.map fun x206 => (F_law_value ((getL worths200 heir201)) x206))) ≠ [])))))
theorem R_law_stands (worths200 : (List (List Int))) (heir201 : Int) (value202 : D) (due203 : Int) (h : S_law_stands worths200 heir201 value202 due203) (k : Nat) (st : Sto) : Cl (run Tb (k + 3)) 37 [(Lx (Lx D.int)) worths200, D.int heir201, value202, D.int due203] st (D.bl (F_law_stands worths200 heir201 value202 due203)) 2 st := by
  refine y_fn (g := D.bl) rfl rfl (.cons (.cons (.cons (.cons (.none (.none (.none (.nil)))))))) ?_
  refine x_ite (evnot (v_call (vl_c (v_con rfl) (vl_c (v_len (f := D.int) (v_ix (f := (Lx D.int)) (v_var rfl) (v_con rfl) h.1)) (vl_c (v_var rfl) vl_n))) (R_law_are_takers _ _ _ h.2.1 (k) _))) rfl (fun e207 => ?_) (fun e208 => ?_)
  · skip
    exact x_ret (g := D.bl) (v_con rfl) rfl (by decide)
  · skip
    refine y_par (v_call (vl_c (v_var rfl) (vl_c (v_toX (f := (Lx D.int)) (v_var rfl) (h.2.2 e208).1) vl_n)) (R_law_lots _ _ (h.2.2 e208).2.1 (k + 1) _)) (v_sub (v_con rfl) (v_varF rfl rfl)) rfl rfl (.inl rfl) (.s (.s (.s (.s (.z rfl))))) (.s (.s (.s (.s (.s (.z rfl)))))) (by decide) (by decide : 0 ≤ 0) (by decide : 0 ≤ 2) ?_
    refine x_ite (v_lt (v_call (vl_c (v_ix (f := (Lx D.int)) (v_var rfl) (v_varF rfl rfl) (h.2.2 e208).2.2.1) (vl_c (v_ix (f := (Lx D.int)) (v_var rfl) (v_varF rfl rfl) (h.2.2 e208).2.2.2.1) vl_n)) (R_law_value _ _ (h.2.2 e208).2.2.2.2.1 (k + 1) _)) (v_call (vl_c (v_ix (f := (Lx D.int)) (v_var rfl) (v_varF rfl rfl) (h.2.2 e208).2.2.2.2.2.1) (vl_c (v_ix (f := (Lx D.int)) (v_var rfl) (v_varF rfl rfl) (h.2.2 e208).2.2.2.2.2.2.1) vl_n)) (R_law_value _ _ (h.2.2 e208).2.2.2.2.2.2.2.1 (k + 1) _))) rfl (fun e209 => ?_) (fun e210 => ?_)
    · skip
      exact x_ret (g := D.bl) (v_con rfl) rfl (by decide)
    · skip
      exact x_ret (g := D.bl) (v_eq (f := D.int) eq_int (v_min (v_lc2 (f := D.int) (sr_seq (f := (Lx D.int)) (v_var rfl)) (fun _ _ => rfl) (fun x206 h211 => (v_call (vl_c (v_ix (f := (Lx D.int)) (v_var rfl) (v_varF rfl rfl) (((h.2.2 e208).2.2.2.2.2.2.2.2 e210).1 x206 h211).1) (vl_c (v_var rfl) vl_n)) (R_law_value _ _ (((h.2.2 e208).2.2.2.2.2.2.2.2 e210).1 x206 h211).2 (k + 1) _)))) ((h.2.2 e208).2.2.2.2.2.2.2.2 e210).2) (v_varF rfl rfl)) rfl (by decide)
def F_law_all_right (worths212 : (List (List Int))) : Bool := (let t214 := ((((rngI 0 ((worths212.length : Int)))).map fun x213 => (F_law_least worths212 x213)), (F_law_all_wholes ((worths212.length : Int)) ((((getL worths212 ((0 : Int)))).length : Int)))); (let good217 := ((t214.2.filter fun x215 => (((((enuI 0 ((F_law_whole_gains worths212 x215)))).filter fun x216 => decide (x216.2 < (getL t214.1 x216.1))).map fun x216 => x216.1)).isEmpty).map fun x215 => x215); (let due218 := (cond ((!good217.isEmpty)) ((some ((getL good217 ((0 : Int)))))) none); (F_law_same (((Lx (Ox (Lx D.int))) ([(F_all_least worths212), (F_all_least worths212)]))) (((Lx (Ox (Lx D.int))) ([due218, due218])))))))
def S_law_all_right (worths212 : (List (List Int))) : Prop := (-100000 ≤ (worths212.length : Int) ∧ (worths212.length : Int) ≤ 100000) ∧ (∀ x213 ∈ (rngI 0 ((worths212.length : Int))), S_law_least worths212 x213) ∧ inb worths212 ((0 : Int)) ∧ S_law_all_wholes ((worths212.length : Int)) ((((getL worths212 ((0 : Int)))).length : Int)) ∧ (let t214 := ((((rngI 0 ((worths212.length : Int)))).map fun x213 => (F_law_least worths212 x213)), (F_law_all_wholes ((worths212.length : Int)) ((((getL worths212 ((0 : Int)))).length : Int)))); (∀ x215 ∈ t214.2, S_law_whole_gains worths212 x215 ∧ (∀ x216 ∈ (enuI 0 ((F_law_whole_gains worths212 x215))), inb t214.1 x216.1)) ∧ (let good217 := ((t214.2.filter fun x215 => (((((enuI 0 ((F_law_whole_gains worths212 x215)))).filter fun x216 => decide (x216.2 < (getL t214.1 x216.1))).map fun x216 => x216.1)).isEmpty).map fun x215 => x215); (((!good217.isEmpty)) = true → inb good217 ((0 : Int))) ∧ (let due218 := (cond ((!good217.isEmpty)) ((some ((getL good217 ((0 : Int)))))) none); S_all_least worths212 ∧ S_all_least worths212 ∧ S_law_same (((Lx (Ox (Lx D.int))) ([(F_all_least worths212), (F_all_least worths212)]))) (((Lx (Ox (Lx D.int))) ([due218, due218]))))))
theorem R_law_all_right (worths212 : (List (List Int))) (h : S_law_all_right worths212) (k : Nat) (st : Sto) : Cl (run Tb (k + 11)) 39 [(Lx (Lx D.int)) worths212] st (D.bl (F_law_all_right worths212)) 2 st := by
  refine y_fn (g := D.bl) rfl rfl (.cons (.none (.none (.none (.none (.none (.none (.none (.nil))))))))) ?_
  refine y_asgT (v_tp2 (f := (Lx D.int)) (g := (Lx (Lx D.int))) (v_lc2 (f := D.int) (sr_rng1 (v_len (f := (Lx D.int)) (v_var rfl)) h.1) (fun _ _ => rfl) (fun x213 h219 => (v_call (vl_c (v_var rfl) (vl_c (v_varF rfl rfl) vl_n)) (R_law_least _ _ (h.2.1 x213 h219) (k + 8) _)))) (v_call (vl_c (v_len (f := (Lx D.int)) (v_var rfl)) (vl_c (v_len (f := D.int) (v_ix (f := (Lx D.int)) (v_var rfl) (v_con rfl) h.2.2.1)) vl_n)) (R_law_all_wholes _ _ h.2.2.2.1 (k + 9) _))) rfl (.inl rfl) (.tp2 (by decide) (.s (.s (.s (.z rfl)))) (.s (.s (.s (.s (.z rfl)))))) ?_
  refine y_asg (v_lcT (f := (Lx D.int)) (sr_seq (f := (Lx D.int)) (v_var rfl)) (fun _ _ => rfl) (fun x215 h220 => vt_c (v_eqN (f := D.int) (EqE.int.nil (by decide) _) (v_lcT2 (f := D.int) (sr_enu (f := D.int) (v_call (vl_c (v_var rfl) (vl_c (v_var rfl) vl_n)) (R_law_whole_gains _ _ (h.2.2.2.2.1 x215 h220).1 (k + 8) _))) (fun _ _ => rfl) (fun x216 h222 => vt_c (v_lt (v_varF rfl rfl) (v_ixF (f := D.int) (v_var rfl) (v_varF rfl rfl) ((h.2.2.2.2.1 x215 h220).2 x216 h222) (fun _ => rfl)))) (fun x216 h222 h223 => (v_varF rfl rfl))))) (fun x215 h220 h221 => (v_var rfl))) rfl (.inl rfl) (.s (.z rfl)) (by decide : 0 ≤ 1) ?_
  refine y_asg (v_ife (f := (Ox (Lx D.int))) (v_neN (f := (Lx D.int)) (EqE.int.lst.nil (by decide) _) (v_var rfl)) (fun e224 => (v_some (f := (Lx D.int)) (v_ix (f := (Lx D.int)) (v_var rfl) (v_con rfl) (h.2.2.2.2.2.1 e224)))) (fun e224 => ((v_none (f := (Lx D.int)) (v_con rfl)).weak (by decide)))) rfl (.inl rfl) (.s (.s (.z rfl))) (by decide : 0 ≤ 0) ?_
  exact x_ret (g := D.bl) (v_call (vl_c (v_ls (f := (Ox (Lx D.int))) (vx_c (f := (Ox (Lx D.int))) (v_call (vl_c (v_var rfl) vl_n) (R_all_least _ h.2.2.2.2.2.2.1 (k + 3) _)) (vx_c (f := (Ox (Lx D.int))) (v_callk vl_n (vl_c (v_var rfl) vl_n) rfl (R_all_least _ h.2.2.2.2.2.2.2.1 (k + 3) _)) vx_n))) (vl_c (v_ls (f := (Ox (Lx D.int))) (vx_c (f := (Ox (Lx D.int))) (v_var rfl) (vx_c (f := (Ox (Lx D.int))) (v_var rfl) vx_n))) vl_n)) (R_law_same _ _ h.2.2.2.2.2.2.2.2 (k) _)) rfl (by decide)
end K58
namespace K58
open IX PySem

section
variable {W : List (List Int)} {n : Nat} {i : Int} {w : List Int}
theorem row0 (hW : Worths W n) : inb W 0 := ⟨by decide, by have := hW.h1; omega⟩
theorem row_len (hW : Worths W n) (hi : inb W i) : (getL W i).length = n := hW.len _ (getL_mem hi)
theorem are_worths_ok (hW : Worths W n) : F_are_worths W = true := by
  have h1 := hW.h1
  have h2 := hW.h2
  have e0 : ∀ r ∈ W, F_is_worth_row r = true := fun r hr => by
    have l := hW.len r hr
    have n1 := hW.n1
    have n2 := hW.n2
    have e : (r.filter fun x => !F_is_below x (1000 + 1)) = [] := List.filter_eq_nil_iff.mpr fun x hx => by
      have := hW.val r hr x hx
      simp [F_is_below, F_is_count, F_is_whole]
      omega
    unfold F_is_worth_row
    rw [e]
    have c1 : (1 : Int) ≤ r.length := by omega
    have c2 : (r.length : Int) ≤ 8 := by omega
    simp [c1, c2]
  have e1 : (W.filter fun x => !F_is_worth_row x) = [] := List.filter_eq_nil_iff.mpr fun x hx => by simp [e0 x hx]
  have e2 : (W.filter fun x => !((x.length : Int) == ((getL W 0).length : Int))) = [] := List.filter_eq_nil_iff.mpr fun x hx => by
    simp [hW.len x hx, row_len hW (row0 hW)]
  unfold F_are_worths
  rw [e1, e2]
  have c1 : (1 : Int) ≤ W.length := by omega
  have c2 : (W.length : Int) ≤ 6 := by omega
  simp [c1, c2]
theorem check_worths_ok (hW : Worths W n) : S_check_worths W := ⟨fun _ _ _ _ => row0 hW, fun h => by simp [are_worths_ok hW] at h⟩
theorem check_heir_ok (hi : inb W i) : S_check_heir W i := fun h => by
  obtain ⟨a, b⟩ := hi
  simp [F_is_below, F_is_count, F_is_whole, a, b] at h
theorem mulOk_small {x y : Nat} (hx : x ≤ 5000) (hy : y ≤ 5000) : mulOk (x : Int) (y : Int) = true := mulOk_of (by
    have : (5000 : Nat) < 2 ^ 400 := by decide +kernel
    omega) (by
    have : (5000 : Nat) < 2 ^ 400 := by decide +kernel
    omega)
theorem pow_fold (m : Nat) : ∀ (xs : List Int) (a : Int), xs.foldl (fun s _ => s * (m : Int)) a = a * (m : Int) ^ xs.length
  | [], a => by simp
  | x :: xs, a => by rw [List.foldl_cons, pow_fold m xs, List.length_cons, Int.pow_succ, Int.mul_assoc, Int.mul_comm (m : Int)]
theorem check_few_ok (hW : Worths W n) (few : W.length ^ n ≤ 5000) : S_check_few W := by
  have l := row_len hW (row0 hW)
  refine ⟨row0 hW, ?_, ?_⟩
  · refine foldS_inv (fun r s => ∃ j : Nat, j + r.length = n ∧ s = ((W.length ^ j : Nat) : Int)) ⟨0, by simpa using l, by simp⟩ ?_
    rintro x r s ⟨j, hj, rfl⟩
    simp only [List.length_cons] at hj
    have hb : W.length ^ j ≤ 5000 := Nat.le_trans (Nat.pow_le_pow_right hW.h1 (by omega)) few
    refine ⟨mulOk_small hb (by have := hW.h2; omega), j + 1, by omega, ?_⟩
    rw [Nat.pow_succ]
    simp
  · have e := pow_fold W.length (getL W 0) 1
    intro s h
    have h' : (5000 : Int) < (getL W 0).foldl (fun s _ => s * (W.length : Int)) 1 := of_decide_eq_true h
    rw [e, l, Int.one_mul] at h'
    have : ((W.length ^ n : Nat) : Int) ≤ 5000 := by omega
    rw [Int.natCast_pow] at this
    omega
theorem all_wholes_eq (hW : Worths W n) : F_all_wholes W = wholesOf W.length n := by
  have l := row_len hW (row0 hW)
  have e : F_all_wholes W = (getL W 0).foldl (fun s _ => wstep W.length s) (wholesOf W.length 0) := by
    unfold F_all_wholes
    show List.foldl _ _ _ = _
    congr 1
    funext s x
    show List.foldl _ _ _ = _
    rw [grow_fold (fun y : List Int => (rngI 0 (W.length : Int)).map fun x => y ++ [x])]
    rfl
  rw [e, wholes_fold, l, Nat.zero_add]
theorem all_wholes_ok (hW : Worths W n) (few : W.length ^ n ≤ 5000) : S_all_wholes W := by
  have l := row_len hW (row0 hW)
  have h6 := hW.h2
  have n8 := hW.n2
  refine ⟨row0 hW, ?_⟩
  have big : ∀ j, j ≤ n → W.length ^ j ≤ 5000 := fun j hj => Nat.le_trans (Nat.pow_le_pow_right hW.h1 hj) few
  refine foldS_inv (fun r s => ∃ j : Nat, j + r.length = n ∧ s = wholesOf W.length j) ⟨0, by simpa using l, rfl⟩ ?_
  rintro x r s ⟨j, hj, rfl⟩
  simp only [List.length_cons] at hj
  refine ⟨?_, j + 1, by omega, ?_⟩
  · refine foldS_inv (fun q t => (∀ y ∈ q, y.length = j) ∧ t.length + q.length * W.length ≤ 5000) ⟨fun y hy => wholes_len hy, ?_⟩ ?_
    · have := big (j + 1) (by omega)
      rw [Nat.pow_succ] at this
      rw [wholes_count]
      simpa using this
    · rintro y q t ⟨h1, h2⟩
      have hy := h1 y List.mem_cons_self
      rw [List.length_cons, Nat.succ_mul] at h2
      refine ⟨⟨⟨by omega, by omega⟩, fun z hz => ?_, ?_⟩, fun z hz => h1 z (List.mem_cons_of_mem _ hz), ?_⟩
      · simp only [List.length_singleton]
        omega
      · rw [List.length_map, rngI_len]
        omega
      · simp only [List.length_append, List.length_map, rngI_len]
        omega
  · show List.foldl _ _ _ = _
    rw [grow_fold (fun y : List Int => (rngI 0 (W.length : Int)).map fun x => y ++ [x]), wholes_step]
    rfl
theorem lots_eq : F_lots_in W w = (rngI 0 W.length).map (lotI w) := by
  unfold F_lots_in
  refine List.map_congr_left fun i _ => ?_
  exact lot_eq w i
theorem law_lots_eq : F_law_lots W w = (rngI 0 W.length).map (lotI w) := by
  unfold F_law_lots
  refine List.map_congr_left fun i _ => ?_
  exact lot_eq w i
theorem lots_ok (hW : Worths W n) : S_lots_in W w := ⟨by omega, by have := hW.h2; omega⟩
theorem lots_mem {l : List Int} (h : l ∈ F_lots_in W w) : ∃ j, (0 ≤ j ∧ j < (W.length : Int)) ∧ l = lotI w j := by
  rw [lots_eq] at h
  obtain ⟨j, hj, rfl⟩ := List.mem_map.mp h
  exact ⟨j, mem_rngI.mp hj, rfl⟩
theorem value_ok {row : List Int} {j : Int} (h : row.length = w.length) : S_value_of row (lotI w j) := fun x hx => by
  have := (lotI_mem.mp hx).1
  exact ⟨this.1, by omega⟩
/-- the least worth of w's lots for i -/
def least (W : List (List Int)) (i : Int) (w : List Int) : Int := mnI ((F_lots_in W w).map fun l => F_value_of (getL W i) l)
theorem lots_ne (hW : Worths W n) : ((F_lots_in W w).map fun l => F_value_of (getL W i) l) ≠ [] := by
  rw [lots_eq]
  intro h
  have := congrArg List.length h
  simp only [List.length_map, rngI_len, List.length_nil] at this
  have := hW.h1
  omega
/-- what an heir makes sure of -/
structure Best (W : List (List Int)) (n : Nat) (i m : Int) (w : List Int) : Prop where
  eq : F_best_parting W i = some (m, F_lots_in W w)
  mem : w ∈ wholesOf W.length n
  val : m = least W i w
  top : ∀ x ∈ wholesOf W.length n, least W i x ≤ m
theorem best_ex (hW : Worths W n) (i : Int) : ∃ m w, Best W n i m w := by
  obtain ⟨m, b, h1, h2, h3, _⟩ := best_fold (least W i) (fun w => F_lots_in W w) default (wholesOf W.length n) none (.inr (wholes_ne hW.h1))
  rcases h2 with h2 | ⟨w, hw, e1, e2⟩
  · cases h2
  · refine ⟨m, w, ?_, hw, e1, h3⟩
    rw [← e2, ← h1, ← all_wholes_eq hW]
    rfl
theorem best_ok (hW : Worths W n) (few : W.length ^ n ≤ 5000) (hi : inb W i) : S_best_parting W i := by
  refine ⟨all_wholes_ok hW few, foldS_all fun w hw s => ⟨lots_ok hW, fun l hl => ⟨hi, ?_⟩, lots_ne hW, fun h => ?_⟩⟩
  · obtain ⟨j, _, rfl⟩ := lots_mem hl
    rw [all_wholes_eq hW] at hw
    exact value_ok (by rw [row_len hW hi, wholes_len hw])
  · cases s with
    | none => cases h
    | some p => rfl
theorem own_ok (hW : Worths W n) (few : W.length ^ n ≤ 5000) (hi : inb W i) : S_own_least W i := by
  obtain ⟨m, w, b⟩ := best_ex hW i
  exact ⟨⟨check_worths_ok hW, check_heir_ok hi, check_few_ok hW few⟩, best_ok hW few hi, by rw [b.eq]; rfl⟩
theorem own_eq {m : Int} (b : Best W n i m w) : F_own_least W i = m := by
  unfold F_own_least
  rw [b.eq]
  rfl
/-! the law's own -/
theorem law_wholes_eq (m n : Nat) : F_law_all_wholes (m : Int) (n : Int) = wholesOf m n := by
  have e : F_law_all_wholes (m : Int) (n : Int) = (rngI 0 n).foldl (fun s _ => wstep m s) (wholesOf m 0) := rfl
  rw [e, wholes_fold, rngI_len]
  simp
theorem wstep_len (m : Nat) (s : List (List Int)) : (wstep m s).length = s.length * m := by
  unfold wstep
  rw [List.length_flatten, List.map_map, List.map_congr_left (g := fun _ => m) (fun w _ => by simp [rngI_len]), List.map_const', List.sum_replicate_nat]
theorem law_wholes_ok {m n : Nat} (hm : 1 ≤ m ∧ m ≤ 6) (hn : n ≤ 8) (few : m ^ n ≤ 5000) : S_law_all_wholes (m : Int) (n : Int) := by
  refine ⟨⟨by omega, by omega⟩, ?_⟩
  have big : ∀ j, j ≤ n → m ^ j ≤ 5000 := fun j hj => Nat.le_trans (Nat.pow_le_pow_right hm.1 hj) few
  refine foldS_inv (fun r s => ∃ j : Nat, j + r.length = n ∧ s = wholesOf m j) ⟨0, by rw [rngI_len]; simp, rfl⟩ ?_
  rintro x r s ⟨j, hj, rfl⟩
  simp only [List.length_cons] at hj
  refine ⟨⟨fun w hw => ⟨⟨by omega, by omega⟩, fun z hz => ?_⟩, ?_⟩, j + 1, by omega, ?_⟩
  · have := wholes_len hw
    simp only [List.length_singleton]
    omega
  · have := wstep_len m (wholesOf m j)
    have h2 := big (j + 1) (by omega)
    rw [wholes_count, show m ^ j * m = m ^ (j + 1) from (Nat.pow_succ m j).symm] at this
    unfold wstep at this
    omega
  · exact (wholes_step m j).symm
theorem law_value_eq (row lot : List Int) : F_law_value row lot = F_value_of row lot := rfl
theorem law_least_eq {m : Int} (hW : Worths W n) (b : Best W n i m w) : F_law_least W i = m := by
  have l := row_len hW (row0 hW)
  unfold F_law_least
  show mxI _ = m
  rw [l, law_wholes_eq]
  have e : ∀ x, mnI ((F_law_lots W x).map fun l => F_law_value (getL W i) l) = least W i x := fun x => by
    unfold least
    rw [law_lots_eq, lots_eq]
    rfl
  simp only [e]
  refine mxI_eq (List.mem_map.mpr ⟨w, b.mem, b.val.symm⟩) fun x hx => ?_
  obtain ⟨y, hy, rfl⟩ := List.mem_map.mp hx
  exact b.top y hy
theorem law_lots_ok (hW : Worths W n) : S_law_lots W w := ⟨by omega, by have := hW.h2; omega⟩
theorem law_least_ok (hW : Worths W n) (few : W.length ^ n ≤ 5000) (hi : inb W i) : S_law_least W i := by
  have l := row_len hW (row0 hW)
  refine ⟨row0 hW, ?_, ?_, ?_⟩
  · rw [l]
    exact law_wholes_ok ⟨hW.h1, hW.h2⟩ hW.n2 few
  · intro w hw
    rw [l, law_wholes_eq] at hw
    refine ⟨law_lots_ok hW, fun x hx => ⟨hi, ?_⟩, ?_⟩
    · rw [law_lots_eq, ← lots_eq] at hx
      obtain ⟨j, _, rfl⟩ := lots_mem hx
      exact value_ok (by rw [row_len hW hi, wholes_len hw])
    · rw [law_lots_eq, ← lots_eq]
      exact lots_ne hW
  · rw [l, law_wholes_eq]
    simpa using wholes_ne (n := n) hW.h1
theorem gains_eq : F_law_whole_gains W w = F_whole_gains W w := by
  unfold F_law_whole_gains F_whole_gains
  rw [law_lots_eq, lots_eq]
  rfl
theorem gains_get (hi : inb W i) : getL (F_whole_gains W w) i = F_value_of (getL W i) (lotI w i) := by
  unfold F_whole_gains
  rw [lots_eq, enuI_eq, List.map_map, List.length_map, rngI_len, show ((W.length : Int).toNat : Int) = W.length by omega, getL_rmap hi]
  simp only [Function.comp_apply]
  rw [getL_rmap hi]
theorem gains_len : (F_whole_gains W w).length = W.length := by
  unfold F_whole_gains
  rw [List.length_map, enuI_len, lots_eq, List.length_map, rngI_len]
  omega
theorem gains_ok (hW : Worths W n) (hw : w.length = n) : S_whole_gains W w := by
  refine ⟨lots_ok hW, fun x hx => ?_⟩
  obtain ⟨h1, h2, h3⟩ := enuI_mem hx
  have hb : inb W x.1 := by
    rw [lots_eq] at h1
    obtain ⟨a, b⟩ := h1
    simp only [List.length_map, rngI_len] at b
    exact ⟨a, by omega⟩
  obtain ⟨j, _, e⟩ := lots_mem h3
  rw [e]
  exact ⟨hb, value_ok (by rw [row_len hW hb, hw])⟩
theorem law_gains_ok (hW : Worths W n) (hw : w.length = n) : S_law_whole_gains W w := by
  have := (gains_ok hW hw).2
  refine ⟨law_lots_ok hW, fun x hx => this x ?_⟩
  rw [law_lots_eq, ← lots_eq] at hx
  exact hx
/-! all_least -/
/-- each gains its own least -/
def good (W : List (List Int)) (w : List Int) : Bool := ((enuI 0 (F_whole_gains W w)).filter fun x => decide (x.2 < getL ((rngI 0 W.length).map fun j => ((F_best_parting W j).getD default).1) x.1)).isEmpty
theorem good_iff {m : Int → Int} (hm : ∀ i, inb W i → ((F_best_parting W i).getD default).1 = m i) : good W w = true ↔ ∀ i, inb W i → m i ≤ F_value_of (getL W i) (lotI w i) := by
  unfold good
  rw [List.isEmpty_iff, List.filter_eq_nil_iff]
  refine ⟨fun h i hi => ?_, fun h x hx => ?_⟩
  · have hi2 : inb (F_whole_gains W w) i := ⟨hi.1, by rw [gains_len]; exact hi.2⟩
    have := h (i, getL (F_whole_gains W w) i) (by rw [enuI_eq]; exact List.mem_map.mpr ⟨i, mem_rngI.mpr hi2, rfl⟩)
    simp only [decide_eq_true_eq] at this
    rw [getL_rmap hi, gains_get hi, hm i hi] at this
    omega
  · obtain ⟨h1, h2, _⟩ := enuI_mem hx
    have hi : inb W x.1 := ⟨h1.1, by have := h1.2; rw [gains_len] at this; exact this⟩
    simp only [decide_eq_true_eq]
    rw [h2, getL_rmap hi, gains_get hi, hm _ hi]
    have := h _ hi
    omega
theorem find_forT {α : Type} (p : α → Bool) : ∀ xs : List α, (forT (σ := Unit) (fun _ x => cond (p x) (.ret (some x)) (.nx ())) xs ()).run (fun _ => none) (fun b => b) = xs.find? p
  | [] => rfl
  | x :: xs => by
    simp only [forT, List.find?_cons]
    cases hp : p x with
    | true => rfl
    | false => exact find_forT p xs
theorem all_least_eq (hW : Worths W n) : F_all_least W = (wholesOf W.length n).find? (good W) := by
  rw [← find_forT, ← all_wholes_eq hW]
  unfold F_all_least good
  simp only [List.isEmpty_map]
theorem all_least_ok (hW : Worths W n) (few : W.length ^ n ≤ 5000) : S_all_least W := by
  have h6 := hW.h2
  refine ⟨check_worths_ok hW, check_few_ok hW few, ⟨by omega, by omega⟩, fun j hj => ?_, all_wholes_ok hW few, forS_all fun w hw s => ?_⟩
  · have hi : inb W j := mem_rngI.mp hj
    obtain ⟨m, w, b⟩ := best_ex hW j
    exact ⟨best_ok hW few hi, by rw [b.eq]; rfl⟩
  · rw [all_wholes_eq hW] at hw
    refine ⟨gains_ok hW (wholes_len hw), fun x hx => ?_⟩
    have h1 := (enuI_mem hx).1
    rw [inb_map, inb_rng]
    obtain ⟨a, b⟩ := h1
    rw [gains_len] at b
    exact ⟨a, b⟩
end
end K58
namespace K58
open IX PySem

section
variable {W : List (List Int)} {n : Nat} {i : Int} {w : List Int} {d : D}
/-! values of any kind -/
theorem ni_below {x : D} (h : ni x = true) (b : Int) : S_is_below' x b ∧ F_is_below' x b = below x b := by
  cases x with
  | non => exact ⟨⟨⟨⟨rfl, fun _ => rfl⟩, fun h => by cases h⟩, fun h => by cases h⟩, rfl⟩
  | int j =>
    exact ⟨⟨⟨⟨rfl, fun _ => rfl⟩, fun _ => rfl⟩, fun _ => rfl⟩, rfl⟩
  | _ => cases h
theorem ni_law_below {x : D} (h : ni x = true) (b : Int) : S_law_is_below b x ∧ F_law_is_below b x = below x b := by
  cases x with
  | non => exact ⟨⟨rfl, fun h => by cases h⟩, rfl⟩
  | int j =>
    exact ⟨⟨rfl, fun _ => ⟨rfl, fun _ => rfl⟩⟩, rfl⟩
  | _ => cases h
theorem Lx_id (xs : List D) : D.lst xs = Lx id xs := by simp [Lx]
theorem niD_tyOk (h : niD d = true) : tyOk d = true := by cases d <;> first | rfl | cases h
theorem filt_all {xs : List D} {p q : D → Bool} (h : ∀ x ∈ xs, p x = q x) : (xs.filter fun x => !p x).isEmpty = xs.all q := by
  rw [← filt_empty]
  congr 1
  exact List.filter_congr fun x hx => by rw [h x hx]
theorem whole_of (hW : Worths W n) (h : niD d = true) : S_is_whole_of W d ∧ F_is_whole_of W d = takersB W.length n d := by
  have l := row_len hW (row0 hW)
  have no : tysB [.list] d = false → (S_is_whole_of W d ∧ F_is_whole_of W d = false) := fun t => by
    refine ⟨⟨niD_tyOk h, fun e => (by rw [t] at e; cases e), fun e => (by rw [t] at e; cases e)⟩, ?_⟩
    unfold F_is_whole_of
    rw [t]
    rfl
  cases d with
  | lst xs =>
    have hx : xs.all ni = true := h
    have hx' := List.all_eq_true.mp hx
    have e1 : ∀ x ∈ xs, F_is_below' x W.length = below x W.length := fun x hm => (ni_below (hx' x hm) _).2
    have e2 := filt_all e1
    have e3 : (xs.filter fun x => !F_is_below' x W.length).map (fun x => x) = xs.filter fun x => !F_is_below' x W.length := by simp
    refine ⟨⟨rfl, fun _ => ⟨Lx_id xs, row0 hW⟩, fun _ => ⟨Lx_id xs, fun x hm => (ni_below (hx' x hm) _).1, ?_⟩⟩, ?_⟩
    · rw [← Lx_id]
      show eqD (D.lst ((xs.filter fun x => !F_is_below' x W.length).map (fun x => x))) _ = some ((xs.filter fun x => !F_is_below' x W.length).map (fun x => x)).isEmpty
      rw [e3]
      exact ni_nil (all_filter hx)
    · unfold F_is_whole_of
      show cond (!true || !((xs.length : Int) == ((getL W 0).length : Int))) false ((xs.filter fun x => !F_is_below' x W.length).map (fun x => x)).isEmpty = (xs.length == n && xs.all fun x => below x W.length)
      rw [e3, e2, l]
      by_cases q : xs.length = n
      · simp [q]
      · have q' : ¬ (xs.length : Int) = n := by omega
        have c1 : ((xs.length : Int) == (n : Int)) = false := by simpa using q'
        have c2 : (xs.length == n) = false := by simpa using q
        simp [c1, c2]
  | _ => first | exact no rfl | cases h
theorem law_takers {m : Nat} (h : niD d = true) : S_law_are_takers m n d ∧ F_law_are_takers m n d = takersB m n d := by
  have no : tysB [.list] d = false → (S_law_are_takers m n d ∧ F_law_are_takers m n d = false) := fun t => by
    refine ⟨⟨niD_tyOk h, fun e => (by rw [t] at e; cases e)⟩, ?_⟩
    unfold F_law_are_takers
    rw [t]
    rfl
  cases d with
  | lst xs =>
    have hx : xs.all ni = true := h
    have hx' := List.all_eq_true.mp hx
    have e1 : ∀ x ∈ xs, F_law_is_below m x = below x m := fun x hm => (ni_law_below (hx' x hm) _).2
    have e2 := filt_all e1
    have e3 : (xs.filter fun x => !F_law_is_below m x).map (fun x => x) = xs.filter fun x => !F_law_is_below m x := by simp
    refine ⟨⟨rfl, fun _ => ⟨Lx_id xs, fun _ => ⟨Lx_id xs, fun x hm => (ni_law_below (hx' x hm) _).1, ?_⟩⟩⟩, ?_⟩
    · rw [← Lx_id]
      show eqD (D.lst ((xs.filter fun x => !F_law_is_below m x).map (fun x => x))) _ = some ((xs.filter fun x => !F_law_is_below m x).map (fun x => x)).isEmpty
      rw [e3]
      exact ni_nil (all_filter hx)
    · unfold F_law_are_takers
      show (true && (((xs.length : Int) == (n : Int)) && ((xs.filter fun x => !F_law_is_below m x).map (fun x => x)).isEmpty)) = (xs.length == n && xs.all fun x => below x m)
      rw [e3, e2]
      by_cases q : xs.length = n
      · simp [q]
      · have q' : ¬ (xs.length : Int) = n := by omega
        have c1 : ((xs.length : Int) == (n : Int)) = false := by simpa using q'
        have c2 : (xs.length == n) = false := by simpa using q
        simp [c1, c2]
  | _ => first | exact no rfl | cases h
theorem takers_whole {m : Nat} (h : takersB m n d = true) : d = Lx D.int (toLI d) ∧ toLI d ∈ wholesOf m n := by
  cases d with
  | lst xs =>
    simp only [takersB, Bool.and_eq_true, beq_iff_eq] at h
    have hb := List.all_eq_true.mp h.2
    have ei : ∀ x ∈ xs, x = D.int (toI x) ∧ 0 ≤ toI x ∧ toI x < m := fun x hx => by
      have := hb x hx
      cases x with
      | int j =>
        simp only [below, Bool.and_eq_true, decide_eq_true_eq] at this
        exact ⟨rfl, this⟩
      | _ => cases this
    refine ⟨?_, wholes_mem ?_ fun v hv => ?_⟩
    · show D.lst xs = D.lst ((xs.map toI).map D.int)
      rw [List.map_map]
      congr 1
      exact (List.map_id xs).symm.trans (List.map_congr_left fun x hx => (ei x hx).1)
    · show (xs.map toI).length = n
      rw [List.length_map, h.1]
    · obtain ⟨x, hx, rfl⟩ := List.mem_map.mp hv
      exact (ei x hx).2
  | _ => cases h
/-! two heirs -/
theorem rng2 : rngI 0 2 = [0, 1] := rfl
theorem lots2 (h2 : W.length = 2) (w : List Int) : F_lots_in W w = [lotI w 0, lotI w 1] := by
  rw [lots_eq, h2]
  rfl
theorem get01 {α : Type} [Inhabited α] (f : Int → α) {i : Int} (hi : i = 0 ∨ i = 1) : getL [f 0, f 1] i = f i ∧ inb [f 0, f 1] i := by
  rcases hi with rfl | rfl
  · exact ⟨rfl, by decide, by simp⟩
  · exact ⟨rfl, by decide, by simp⟩
theorem in2 (h2 : W.length = 2) (hi : i = 0 ∨ i = 1) : inb W i ∧ inb W (1 - i) := by
  unfold inb
  rw [h2]
  omega
theorem vl (hW : Worths W n) {j k : Int} (hj : inb W j) (hw : w.length = n) : S_value_of (getL W j) (lotI w k) := value_ok (by rw [row_len hW hj, hw])
/-- the chooser's and the cutter's word on w -/
def stands (W : List (List Int)) (i m : Int) (w : List Int) : Bool := cond (decide (F_value_of (getL W (1 - i)) (lotI w (1 - i)) < F_value_of (getL W (1 - i)) (lotI w i))) false (least W i w == m)
theorem is_cut_eq (hW : Worths W n) (few : W.length ^ n ≤ 5000) (h2 : W.length = 2) (hi : i = 0 ∨ i = 1) (hd : niD d = true) {m : Int} {b : List Int} (hb : Best W n i m b) : S_is_cut_and_choose W i d ∧ F_is_cut_and_choose W i d = (takersB 2 n d && stands W i m (toLI d)) := by
  have io := in2 h2 hi
  obtain ⟨w1, w2⟩ := whole_of hW hd
  rw [h2] at w2
  have ho : (1 - i) = 0 ∨ (1 - i) = 1 := by omega
  refine ⟨⟨⟨⟨check_worths_ok hW, check_heir_ok io.1, check_few_ok hW few⟩, fun h => by simp [h2] at h⟩, w1, fun ht => ?_⟩, ?_⟩
  · have ht' : takersB 2 n d = true := by rw [w2] at ht; simpa using ht
    obtain ⟨e, hw⟩ := takers_whole ht'
    have hl := wholes_len hw
    refine ⟨e, lots_ok hW, ?_⟩
    show inb W (1 - i) ∧ _
    rw [lots2 h2]
    rw [(get01 (lotI (toLI d)) ho).1, (get01 (lotI (toLI d)) hi).1]
    refine ⟨io.2, (get01 (lotI (toLI d)) ho).2, vl hW io.2 hl, io.2, (get01 (lotI (toLI d)) hi).2, vl hW io.2 hl, fun _ => ⟨fun x hx => ⟨io.1, ?_⟩, by simp, best_ok hW few io.1, by rw [hb.eq]; rfl⟩⟩
    simp only [List.mem_cons, List.not_mem_nil, or_false] at hx
    rcases hx with rfl | rfl <;> exact vl hW io.1 hl
  · unfold F_is_cut_and_choose
    rw [w2, hb.eq]
    cases ht : takersB 2 n d with
    | false => rfl
    | true =>
      show cond (decide (F_value_of (getL W (1 - i)) (getL (F_lots_in W (toLI d)) (1 - i)) < F_value_of (getL W (1 - i)) (getL (F_lots_in W (toLI d)) i))) false (least W i (toLI d) == m) = stands W i m (toLI d)
      unfold stands
      rw [lots2 h2, (get01 (lotI (toLI d)) ho).1, (get01 (lotI (toLI d)) hi).1]
theorem law_stands_eq (hW : Worths W n) (h2 : W.length = 2) (hi : i = 0 ∨ i = 1) (hd : niD d = true) (m : Int) : S_law_stands W i d m ∧ F_law_stands W i d m = (takersB 2 n d && stands W i m (toLI d)) := by
  have io := in2 h2 hi
  have l := row_len hW (row0 hW)
  obtain ⟨w1, w2⟩ := law_takers (n := n) (m := 2) hd
  have ho : (1 - i) = 0 ∨ (1 - i) = 1 := by omega
  refine ⟨⟨row0 hW, by rw [l]; exact w1, fun ht => ?_⟩, ?_⟩
  · have ht' : takersB 2 n d = true := by
      rw [l] at ht
      rw [← w2]
      simpa using ht
    obtain ⟨e, hw⟩ := takers_whole ht'
    have hl := wholes_len hw
    refine ⟨e, law_lots_ok hW, ?_⟩
    show inb W (1 - i) ∧ _
    rw [law_lots_eq, ← lots_eq, lots2 h2]
    rw [(get01 (lotI (toLI d)) ho).1, (get01 (lotI (toLI d)) hi).1]
    refine ⟨io.2, (get01 (lotI (toLI d)) ho).2, vl hW io.2 hl, io.2, (get01 (lotI (toLI d)) hi).2, vl hW io.2 hl, fun _ => ⟨fun x hx => ⟨io.1, ?_⟩, by simp⟩⟩
    simp only [List.mem_cons, List.not_mem_nil, or_false] at hx
    rcases hx with rfl | rfl <;> exact vl hW io.1 hl
  · unfold F_law_stands
    rw [l]
    have w2' : F_law_are_takers 2 (n : Int) d = takersB 2 n d := w2
    rw [w2']
    cases ht : takersB 2 n d with
    | false => rfl
    | true =>
      show cond (decide (F_value_of (getL W (1 - i)) (getL (F_law_lots W (toLI d)) (1 - i)) < F_value_of (getL W (1 - i)) (getL (F_law_lots W (toLI d)) i))) false (mnI ((F_law_lots W (toLI d)).map fun l => F_value_of (getL W i) l) == m) = stands W i m (toLI d)
      unfold stands least
      rw [law_lots_eq, ← lots_eq, lots2 h2, (get01 (lotI (toLI d)) ho).1, (get01 (lotI (toLI d)) hi).1]
/-! what cutting and choosing tells -/
theorem mn2 (a b : Int) : mnI [a, b] = if b < a then b else a := rfl
theorem least2 (h2 : W.length = 2) (w : List Int) : least W i w = mnI [F_value_of (getL W i) (lotI w 0), F_value_of (getL W i) (lotI w 1)] := by
  unfold least
  rw [lots2 h2]
  rfl
theorem sum_lots (hW : Worths W n) {j a b : Int} (hj : inb W j) (hl : w.length = n) (ho : b ≠ a) (hv : ∀ x, 0 ≤ x ∧ x < (n : Int) → getL w x = a ∨ getL w x = b) : F_value_of (getL W j) (lotI w a) + F_value_of (getL W j) (lotI w b) = (getL W j).sum := by
  have e : lotI w b = (rngI 0 w.length).filter fun x => !(getL w x == a) := by
    unfold lotI
    refine List.filter_congr fun x hx => ?_
    have := hv x (by rw [← hl]; exact mem_rngI.mp hx)
    rcases this with h | h
    · have : ¬ a = b := fun q => ho q.symm
      simp [h, this]
    · simp [h, ho]
  have h := sum_part (fun x => getL w x == a) (getL (getL W j)) (rngI 0 w.length)
  have hm := map_getL (getL W j)
  rw [row_len hW hj] at hm
  rw [e]
  show ((lotI w a).map _).sum + _ = _
  unfold F_value_of lotI
  rw [h, hl, hm]
structure Told (W : List (List Int)) (n : Nat) (i m : Int) (t : List Int) : Prop where
  mem : t ∈ wholesOf 2 n
  st : stands W i m t = true
  own : m ≤ F_value_of (getL W i) (lotI t i)
  half : (getL W (1 - i)).sum ≤ 2 * F_value_of (getL W (1 - i)) (lotI t (1 - i))
theorem get_whole {t : List Int} (ht : t ∈ wholesOf 2 n) {x : Int} (hx : 0 ≤ x ∧ x < (n : Int)) : getL t x = 0 ∨ getL t x = 1 := by
  have hl := wholes_len ht
  have := wholes_val ht (getL t x) (getL_mem ⟨hx.1, by omega⟩)
  omega
theorem cut_ok (hW : Worths W n) (few : W.length ^ n ≤ 5000) (h2 : W.length = 2) (hi : i = 0 ∨ i = 1) {m : Int} {b : List Int} (hb : Best W n i m b) : S_cut_and_choose W i ∧ Told W n i m (F_cut_and_choose W i) := by
  have io := in2 h2 hi
  have hm := hb.mem
  rw [h2] at hm
  have hl := wholes_len hm
  have l := row_len hW (row0 hW)
  have n8 := hW.n2
  have ho : (1 - i) = 0 ∨ (1 - i) = 1 := by omega
  have c01 : ∀ q : Bool, cond q (0 : Int) 1 = 0 ∨ cond q (0 : Int) 1 = 1 := fun q => by cases q <;> simp
  refine ⟨⟨⟨⟨check_worths_ok hW, check_heir_ok io.1, check_few_ok hW few⟩, fun h => by simp [h2] at h⟩, best_ok hW few io.1, by rw [hb.eq]; rfl, ?_⟩, ?_⟩
  · show inb W (1 - i) ∧ _
    rw [hb.eq]
    show inb W (1 - i) ∧ inb (F_lots_in W b) 0 ∧ _
    rw [lots2 h2]
    have g0 := get01 (lotI b) (i := 0) (.inl rfl)
    have g1 := get01 (lotI b) (i := 1) (.inr rfl)
    refine ⟨io.2, g0.2, vl (k := 0) hW io.2 hl, io.2, g1.2, vl (k := 1) hW io.2 hl, row0 hW, ?_, fun x hx => ?_⟩
    · rw [l]
      omega
    · exact (get01 (lotI b) (c01 _)).2
  · have e : ∃ t : Int, (t = 0 ∨ t = 1) ∧ F_value_of (getL W (1 - i)) (lotI b (1 - t)) ≤ F_value_of (getL W (1 - i)) (lotI b t) ∧ F_cut_and_choose W i = (rngI 0 n).map fun x => cond ((lotI b t).elem x) (1 - i) i := by
      refine ⟨cond (decide (F_value_of (getL W (1 - i)) (lotI b 1) < F_value_of (getL W (1 - i)) (lotI b 0))) 0 1, c01 _, ?_, ?_⟩
      · by_cases q : F_value_of (getL W (1 - i)) (lotI b 1) < F_value_of (getL W (1 - i)) (lotI b 0)
        · rw [decide_eq_true q]
          show F_value_of _ (lotI b 1) ≤ _
          exact Int.le_of_lt q
        · rw [decide_eq_false q]
          show F_value_of _ (lotI b 0) ≤ _
          exact Int.not_lt.mp q
      · unfold F_cut_and_choose
        rw [hb.eq, l]
        show List.map (fun x => cond ((getL (F_lots_in W b) (cond (decide (F_value_of (getL W (1 - i)) (getL (F_lots_in W b) 1) < F_value_of (getL W (1 - i)) (getL (F_lots_in W b) 0))) 0 1)).elem x) (1 - i) i) _ = _
        rw [lots2 h2, (get01 (lotI b) (i := 0) (.inl rfl)).1, (get01 (lotI b) (i := 1) (.inr rfl)).1, (get01 (lotI b) (c01 _)).1]
    obtain ⟨t, ht, hle, e⟩ := e
    rw [e]
    have tm : ((rngI 0 n).map fun x => cond ((lotI b t).elem x) (1 - i) i) ∈ wholesOf 2 n := wholes_mem (by rw [List.length_map, rngI_len]; omega) fun v hv => by
      obtain ⟨x, _, rfl⟩ := List.mem_map.mp hv
      cases (lotI b t).elem x <;> simp <;> omega
    have el : ∀ x, 0 ≤ x ∧ x < (n : Int) → ((lotI b t).elem x = (getL b x == t)) := fun x hx => by
      rw [Bool.eq_iff_iff, List.elem_iff, lotI_mem, hl]
      simp [hx]
    have len : ((rngI 0 n).map fun x => cond ((lotI b t).elem x) (1 - i) i).length = n := wholes_len tm
    have lo : lotI ((rngI 0 n).map fun x => cond ((lotI b t).elem x) (1 - i) i) (1 - i) = lotI b t := by
      unfold lotI
      rw [show ((rngI 0 (n : Int)).map fun x => cond (((rngI 0 (b.length : Int)).filter fun i => getL b i == t).elem x) (1 - i) i).length = n from len, hl]
      refine List.filter_congr fun x hx => ?_
      have hx' := mem_rngI.mp hx
      rw [getL_rmap hx']
      have := el x hx'
      unfold lotI at this
      rw [hl] at this
      rw [this]
      cases getL b x == t <;> simp <;> omega
    have lh : lotI ((rngI 0 n).map fun x => cond ((lotI b t).elem x) (1 - i) i) i = lotI b (1 - t) := by
      unfold lotI
      rw [show ((rngI 0 (n : Int)).map fun x => cond (((rngI 0 (b.length : Int)).filter fun i => getL b i == t).elem x) (1 - i) i).length = n from len, hl]
      refine List.filter_congr fun x hx => ?_
      have hx' := mem_rngI.mp hx
      rw [getL_rmap hx']
      have := el x hx'
      unfold lotI at this
      rw [hl] at this
      rw [this]
      have g := get_whole hm hx'
      rw [Bool.eq_iff_iff]
      by_cases q : getL b x = t
      · rw [show (getL b x == t) = true by simpa using q]
        simp
        omega
      · rw [show (getL b x == t) = false by simpa using q]
        simp
        omega
    have lst : least W i ((rngI 0 n).map fun x => cond ((lotI b t).elem x) (1 - i) i) = m := by
      rw [hb.val, least2 h2, least2 h2, mn2, mn2]
      rcases hi with rfl | rfl
      · rw [show lotI ((rngI 0 n).map fun x => cond ((lotI b t).elem x) (1 - 0) 0) 1 = lotI b t from lo, lh]
        rcases ht with rfl | rfl
        · show (if _ < F_value_of _ (lotI b 1) then _ else F_value_of _ (lotI b 1)) = _
          split <;> split <;> omega
        · rfl
      · rw [show lotI ((rngI 0 n).map fun x => cond ((lotI b t).elem x) (1 - 1) 1) 0 = lotI b t from lo, lh]
        rcases ht with rfl | rfl
        · rfl
        · show (if F_value_of _ (lotI b 0) < _ then F_value_of _ (lotI b 0) else _) = _
          split <;> split <;> omega
    have mle : m ≤ F_value_of (getL W i) (lotI b (1 - t)) := by
      rw [hb.val, least2 h2, mn2]
      rcases ht with rfl | rfl
      · show _ ≤ F_value_of _ (lotI b 1)
        split <;> omega
      · show _ ≤ F_value_of _ (lotI b 0)
        split <;> omega
    refine ⟨tm, ?_, ?_, ?_⟩
    · unfold stands
      rw [lo, lh, lst, decide_eq_false (by omega)]
      simp
    · rw [lh]
      exact mle
    · rw [lo]
      have sm := sum_lots hW (w := b) io.2 hl (a := t) (b := 1 - t) (by omega) fun x hx => by
        have := get_whole hm hx
        omega
      omega
end
end K58
namespace K58
open IX PySem

section
variable {W : List (List Int)} {n : Nat} {i : Int} {w : List Int} {d : D}
theorem leasts_eq (hW : Worths W n) : (rngI 0 W.length).map (fun j => F_law_least W j) = (rngI 0 W.length).map fun j => ((F_best_parting W j).getD default).1 := by
  refine List.map_congr_left fun j _ => ?_
  obtain ⟨m, b, hb⟩ := best_ex hW j
  rw [law_least_eq hW hb, hb.eq]
  rfl
theorem all_right (hW : Worths W n) (few : W.length ^ n ≤ 5000) : S_law_all_right W := by
  have l := row_len hW (row0 hW)
  have h6 := hW.h2
  refine ⟨⟨by omega, by omega⟩, fun j hj => law_least_ok hW few (mem_rngI.mp hj), row0 hW, by rw [l]; exact law_wholes_ok ⟨hW.h1, hW.h2⟩ hW.n2 few, ?_⟩
  have e1 : F_law_all_wholes (W.length : Int) ((getL W 0).length : Int) = wholesOf W.length n := by rw [l, law_wholes_eq]
  refine ⟨fun x hx => ?_, ?_⟩
  · have hx' : x ∈ wholesOf W.length n := by rw [← e1]; exact hx
    refine ⟨law_gains_ok hW (wholes_len hx'), fun y hy => ?_⟩
    rw [gains_eq] at hy
    obtain ⟨a, b⟩ := (enuI_mem hy).1
    rw [gains_len] at b
    exact (inb_map _).mpr (inb_rng.mpr ⟨a, b⟩)
  · have ed : F_all_least W = cond (!((F_law_all_wholes (W.length : Int) ((getL W 0).length : Int)).filter fun x => (((enuI 0 (F_law_whole_gains W x)).filter fun y => decide (y.2 < getL ((rngI 0 W.length).map fun j => F_law_least W j) y.1)).map fun y => y.1).isEmpty).isEmpty) (some (getL ((F_law_all_wholes (W.length : Int) ((getL W 0).length : Int)).filter fun x => (((enuI 0 (F_law_whole_gains W x)).filter fun y => decide (y.2 < getL ((rngI 0 W.length).map fun j => F_law_least W j) y.1)).map fun y => y.1).isEmpty) 0)) none := by
      rw [first_of, all_least_eq hW, e1]
      congr 1
      funext x
      rw [gains_eq, leasts_eq hW]
      unfold good
      simp only [List.isEmpty_map]
    refine ⟨fun h => ?_, all_least_ok hW few, all_least_ok hW few, ?_⟩
    · refine ⟨by decide, ?_⟩
      simp only [List.map_id'] at h ⊢
      have : ∀ xs : List (List Int), (!xs.isEmpty) = true → (0 : Int) < xs.length := fun xs hx => by
        cases xs with
        | nil => cases hx
        | cons x r => simp only [List.length_cons]; omega
      exact this _ h
    · simp only [List.map_id']
      rw [← ed]
      refine ⟨rfl, ?_⟩
      have h1 : sameOk (Ox (Lx D.int) (F_all_least W)) = true ∧ sameD (Ox (Lx D.int) (F_all_least W)) ≤ 2 := same_opt (by decide) fun x hx => by
        rw [all_least_eq hW] at hx
        have := wholes_len (List.mem_of_find?_eq_some hx)
        exact same_ints (by have := hW.n2; omega)
      have := same_lst (xs := [F_all_least W, F_all_least W]) (f := Ox (Lx D.int)) (n := 2) (fun x hx => by
        simp only [List.mem_cons, List.not_mem_nil, or_false, or_self] at hx
        subst hx
        exact h1) (by simp)
      exact ⟨this.1, by omega⟩
/-- for two there is always one -/
theorem two_some (hW : Worths W n) (few : W.length ^ n ≤ 5000) (h2 : W.length = 2) : ∃ t, F_all_least W = some t := by
  obtain ⟨m0, b0, hb0⟩ := best_ex hW 0
  obtain ⟨m1, b1, hb1⟩ := best_ex hW 1
  have tl := (cut_ok hW few h2 (.inl rfl) hb0).2
  have io := in2 h2 (i := 0) (.inl rfl)
  have hm1 := hb1.mem
  rw [h2] at hm1
  have half : 2 * m1 ≤ (getL W 1).sum := by
    have sm := sum_lots hW (w := b1) io.2 (wholes_len hm1) (a := 0) (b := 1) (by decide) fun x hx => get_whole hm1 hx
    have := hb1.val
    rw [least2 h2, mn2] at this
    rw [show (1 - 0 : Int) = 1 from rfl] at sm
    split at this <;> omega
  have tm := tl.mem
  have g : good W (F_cut_and_choose W 0) = true := by
    rw [good_iff (m := fun i => if i = 0 then m0 else m1) fun i hi => ?_]
    · intro i hi
      obtain ⟨a, b⟩ := hi
      rw [h2] at b
      have : i = 0 ∨ i = 1 := by omega
      rcases this with rfl | rfl
      · rw [if_pos rfl]
        exact tl.own
      · rw [if_neg (by decide)]
        have := tl.half
        rw [show (1 - 0 : Int) = 1 from rfl] at this
        omega
    · obtain ⟨a, b⟩ := hi
      rw [h2] at b
      have : i = 0 ∨ i = 1 := by omega
      rcases this with rfl | rfl
      · rw [hb0.eq]
        rfl
      · rw [hb1.eq]
        rfl
  rw [all_least_eq hW, h2]
  cases h : (wholesOf 2 n).find? (good W) with
  | some t => exact ⟨t, rfl⟩
  | none =>
    have := List.find?_eq_none.mp h _ tm
    rw [g] at this
    exact absurd rfl this
end
end K58
namespace K58
open IX PySem

section
variable {W : List (List Int)} {n : Nat} {i : Int} {w : List Int} {d : D}
theorem worths_small (hW : Worths W n) : W.length ≤ 100 ∧ ∀ r ∈ W, r.length ≤ 100 ∧ ∀ x ∈ r, x.natAbs < 10 ^ 12 := by
  have h2 := hW.h2
  have n2 := hW.n2
  refine ⟨by omega, fun r hr => ⟨by have := hW.len r hr; omega, fun x hx => ?_⟩⟩
  have := hW.val r hr x hx
  omega
theorem same_bls (a b : Bool) : SameS (Lx D.bl [a, b]) (Lx D.bl [a, b]) := by
  have := same_lst (f := D.bl) (xs := [a, b]) (n := 1) (fun x _ => same_bl x) (by simp)
  exact ⟨rfl, this.1, by omega⟩
/-- a value that is asked about -/
theorem niD_ints (xs : List Int) : niD (Lx D.int xs) = true := by
  show (xs.map D.int).all ni = true
  rw [List.all_eq_true]
  intro x hx
  obtain ⟨y, _, rfl⟩ := List.mem_map.mp hx
  rfl
theorem niD_non (xs : List Int) : niD (.lst (.non :: xs.map D.int)) = true := by
  have := niD_ints xs
  show (ni .non && (xs.map D.int).all ni) = true
  exact this
theorem two_right (hW : Worths W n) (few : W.length ^ n ≤ 5000) (h2 : W.length = 2) {c N : Nat} {st : Sto} (hG : Gs N st) (hN : N + 20000 ≤ 1000000000) (hc : c < st.length) (k : Nat) :
    ∃ st', Gs (N + 20000) st' ∧ st'.length = st.length ∧ Cl (run Tb (k + 12)) 38 [.cell c, Lx (Lx D.int) W] st (.bl true) 2 st' := by
  obtain ⟨m0, b0, hb0⟩ := best_ex hW 0
  obtain ⟨m1, b1, hb1⟩ := best_ex hW 1
  have ws := worths_small hW
  have l := row_len hW (row0 hW)
  have n8 := hW.n2
  have best : ∀ i : Int, (i = 0 ∨ i = 1) → ∃ b, Best W n i (getL [m0, m1] i) b := fun i hi => by
    rcases hi with rfl | rfl
    · exact ⟨b0, hb0⟩
    · exact ⟨b1, hb1⟩
  have rl : (rngI 0 2).length = 2 := rfl
  have h0 : Ex (run Tb (k + 11)) b38 [some (D.cell c, 0), some (Lx (Lx D.int) W, 0), none, none, none, none, none, none, none, none, none, none, none] st (fun f _ st' => (Gs (N + 20000) st' ∧ st'.length = st.length) ∧ ∃ l, f = .ret (.bl true) l ∧ 2 ≤ l ∧ l ≤ 2) := by
    refine y_par (m' := 0) (m1' := 0) (v_reprLL (v_var rfl) ws.1 ws.2) (v_ls2 (f := D.int) (vx_c2 (f := D.int) (v_call (vl_c (v_var rfl) (vl_c (v_con rfl) vl_n)) (R_law_least W 0 (law_least_ok hW few (in2 h2 (.inl rfl)).1) (k + 9) st)) (vx_c2 (f := D.int) (v_call (vl_c (v_var rfl) (vl_c (v_con rfl) vl_n)) (R_law_least W 1 (law_least_ok hW few (in2 h2 (.inr rfl)).1) (k + 9) st)) vx_n))) rfl rfl (.inl rfl) (.s (.s (.s (.z rfl)))) (.s (.s (.s (.s (.z rfl))))) (by decide) (by decide) (by decide) ?_
    rw [law_least_eq hW hb0, law_least_eq hW hb1]
    refine x_forN (f := D.int) (xs := rngI 0 2) (I := fun j s => Gs (N + j * 10000) s ∧ s.length = st.length) (AA := [some (D.cell c, 0), some (Lx (Lx D.int) W, 0), none, some (D.str (pyLL W).shown, 0), some (Lx D.int [m0, m1], 0), none, none, none, none, none, none, none, none]) (sr_rng1 (v_con rfl) (by decide)) rfl (wk_s (by decide) (wk_s (by decide) (wk_n rfl (wk_s (by decide) (wk_s (by decide) (wk_n rfl (wk_n rfl (wk_n rfl (wk_n rfl (wk_n rfl (wk_n rfl (wk_n rfl (wk_n rfl wk_e))))))))))))) rfl ⟨by simpa using hG, rfl⟩ (fun j i hj st1 hI => ⟨_, .nm (.s (.s (.z rfl))), ?_⟩) fun st1 hI => ?_
    · have hi : i = 0 ∨ i = 1 := by
        have := mem_rngI.mp (List.mem_of_getElem? hj)
        omega
      have hj2 : j < 2 := by
        have := (List.getElem?_eq_some_iff.mp hj).1
        simpa [rl] using this
      obtain ⟨b, hb⟩ := best i hi
      obtain ⟨hS, tl⟩ := cut_ok hW few h2 hi hb
      have io := in2 h2 hi
      have ho : (1 - i) = 0 ∨ (1 - i) = 1 := by omega
      generalize hm : getL [m0, m1] i = m at hb tl
      have inm : inb [m0, m1] i := by rcases hi with rfl | rfl <;> exact ⟨by decide, by simp⟩
      have tlen := wholes_len tl.mem
      have tk : takersB 2 n (Lx D.int (F_cut_and_choose W i)) = true := by
        simp only [takersB, Lx, List.length_map, tlen, beq_self_eq_true, Bool.true_and, List.all_eq_true]
        intro x hx
        obtain ⟨y, hy, rfl⟩ := List.mem_map.mp hx
        have := wholes_val tl.mem y hy
        simp [below, this]
        omega
      have toLI_ints : ∀ xs : List Int, toLI (Lx D.int xs) = xs := fun xs => by simp [toLI, toL, Lx, Function.comp_def, toI]
      obtain ⟨hG1, hL1⟩ := hI
      refine y_asg (mo := 1) (v_call (vl_c (v_var rfl) (vl_c (v_varF rfl rfl) vl_n)) (R_cut_and_choose W i hS (k + 2) st1)) rfl (.inl rfl) (.s (.s (.s (.s (.s (.z rfl)))))) (by decide) ?_
      have ls := law_stands_eq (d := Lx D.int (F_cut_and_choose W i)) hW h2 hi (niD_ints _) m
      rw [tk, toLI_ints, tl.st] at ls
      have c1 := R_law_stands W i (Lx D.int (F_cut_and_choose W i)) m ls.1 (k + 8) st1
      rw [ls.2] at c1
      refine x_iteF (m := 2) (evnot (u := true) (v_call (vl_c (v_var rfl) (vl_c (v_varF rfl rfl) (vl_c (v_var rfl) (vl_c (v_ixF (f := D.int) (v_var rfl) (v_varF rfl rfl) inm (fun _ => rfl)) vl_n)))) (by rw [hm]; exact c1))) rfl ?_
      refine y_asg (mo := 0) (v_call (vl_c (v_var rfl) (vl_c (v_var rfl) vl_n)) (R_law_whole_gains W (F_cut_and_choose W i) (law_gains_ok hW tlen) (k + 9) st1)) rfl (.inr rfl) (.s (.s (.s (.s (.s (.s (.z rfl))))))) (by decide) ?_
      rw [gains_eq]
      have gl := gains_len (W := W) (w := F_cut_and_choose W i)
      have ig : inb (F_whole_gains W (F_cut_and_choose W i)) i := ⟨io.1.1, by rw [gl]; exact io.1.2⟩
      have igo : inb (F_whole_gains W (F_cut_and_choose W i)) (1 - i) := ⟨io.2.1, by rw [gl]; exact io.2.2⟩
      have g1 := gains_get (w := F_cut_and_choose W i) io.1
      have g2 := gains_get (w := F_cut_and_choose W i) io.2
      have o1 : decide (getL (F_whole_gains W (F_cut_and_choose W i)) i < F_own_least W i) = false := by
        rw [own_eq hb, g1]
        have := tl.own
        simp
        omega
      have o2 : decide (2 * getL (F_whole_gains W (F_cut_and_choose W i)) (1 - i) < (getL W (1 - i)).sum) = false := by
        rw [g2]
        have := tl.half
        simp
        omega
      have gb : (getL (F_whole_gains W (F_cut_and_choose W i)) (1 - i)).natAbs < 2 ^ 400 := by
        rw [g2]
        have big : (100000 : Nat) < 2 ^ 400 := by decide +kernel
        have sm := sum_lots hW (w := F_cut_and_choose W i) io.2 tlen (a := 1 - i) (b := i) (by omega) fun x hx => by
          have := get_whole tl.mem hx
          omega
        have pos : ∀ (L : List Int), (∀ x ∈ L, 0 ≤ x) → 0 ≤ L.sum := fun L => by
          induction L with
          | nil => exact fun _ => Int.le_refl _
          | cons x r ih =>
            intro h
            rw [List.sum_cons]
            have := h x List.mem_cons_self
            have := ih fun y hy => h y (List.mem_cons_of_mem _ hy)
            omega
        have up : ∀ (L : List Int), (∀ x ∈ L, x ≤ 1000) → L.sum ≤ 1000 * L.length := fun L => by
          induction L with
          | nil => exact fun _ => Int.le_refl _
          | cons x r ih =>
            intro h
            rw [List.sum_cons, List.length_cons]
            have := h x List.mem_cons_self
            have := ih fun y hy => h y (List.mem_cons_of_mem _ hy)
            omega
        have rv := hW.val _ (getL_mem io.2)
        have rl := row_len hW io.2
        have vp : ∀ j, 0 ≤ F_value_of (getL W (1 - i)) (lotI (F_cut_and_choose W i) j) := fun j => pos _ fun x hx => by
          obtain ⟨y, hy, rfl⟩ := List.mem_map.mp hx
          have hy' := lotI_mem.mp hy
          exact (rv _ (getL_mem ⟨hy'.1.1, by rw [rl]; have := hy'.1.2; omega⟩)).1
        have p1 := vp (1 - i)
        have p2 := vp i
        have u := up (getL W (1 - i)) fun x hx => (rv x hx).2
        omega
      have cond2 : (decide (getL (F_whole_gains W (F_cut_and_choose W i)) i < F_own_least W i) || decide (2 * getL (F_whole_gains W (F_cut_and_choose W i)) (1 - i) < (getL W (1 - i)).sum)) = false := by rw [o1, o2]; rfl
      refine x_iteF (m := 2) (by
        rw [← cond2]
        exact evor (v_lt (v_ixF (f := D.int) (v_var rfl) (v_varF rfl rfl) ig (fun _ => rfl)) (v_call (vl_c (v_var rfl) (vl_c (v_varF rfl rfl) vl_n)) (R_own_least W i (own_ok hW few io.1) (k + 3) st1))) fun _ => v_lt (v_mul (v_con rfl) (v_ixF (f := D.int) (v_var rfl) (v_sub (v_con rfl) (v_varF rfl rfl)) igo (fun _ => rfl)) (mulOk_of (by decide +kernel) gb)) (v_sum (v_ix (f := Lx D.int) (v_var rfl) (v_sub (v_con rfl) (v_varF rfl rfl)) io.2))) rfl ?_
      -- the block of values
      obtain ⟨ys, st2, p1, p2, p3, p4, p5⟩ := v_lcD (call := run Tb (k + 11)) (η := envA [some (D.cell c, 3), some (Lx (Lx D.int) W, 3), some (D.int i, 3), some (D.str (pyLL W).shown, 3), some (Lx D.int [m0, m1], 3), some (Lx D.int (F_cut_and_choose W i), 3), some (Lx D.int (F_whole_gains W (F_cut_and_choose W i)), 3), none, none, some (D.non, 4), none, some (D.non, 4), some (D.non, 4)]) (t := .nm 11) (v := .call 29 (.cons (.var 0) (.cons (.var 1) .nil))) (s := .rng1 (.con (.int 6))) (g := D.int) (f := id) (m := 2) (P := fun x => niD x = true) (xs := rngI 0 6) (η1 := fun x => [some (D.cell c), some (Lx (Lx D.int) W), some (D.int i), some (D.str (pyLL W).shown), some (Lx D.int [m0, m1]), some (Lx D.int (F_cut_and_choose W i)), some (Lx D.int (F_whole_gains W (F_cut_and_choose W i))), none, none, none, none, some (D.int x), none]) 1000 (N := N + j * 10000) (sr_rng1 (v_con rfl) (by decide)) hG1 (fun _ _ => rfl) (fun x hx M st3 hM hle hl => by
        have r6 : (rngI 0 6).length = 6 := rfl
        rw [r6] at hle
        obtain ⟨r0, hr0⟩ : ∃ r, W[0]? = some r := ⟨W[0]'(by have := hW.h1; omega), List.getElem?_eq_getElem _⟩
        have lr := hW.len r0 (List.mem_of_getElem? hr0)
        obtain ⟨v, st4, q1, q2, q3, q4⟩ := r_whole draws (iE := 29) rfl hr0 (by omega) (by omega) hM (by omega) (c := c) (by omega) (k + 8)
        exact ⟨Lx D.int v, st4, niD_ints v, q2, by omega, v_call (vl_c (v_var rfl) (vl_c (v_var rfl) vl_n)) q4⟩)
      have r6 : (rngI 0 6).length = 6 := rfl
      rw [r6] at p1 p3
      refine y_prot (A1 := [some (D.cell c, 3), some (Lx (Lx D.int) W, 3), some (D.int i, 3), some (D.str (pyLL W).shown, 3), some (Lx D.int [m0, m1], 3), some (Lx D.int (F_cut_and_choose W i), 3), some (Lx D.int (F_whole_gains W (F_cut_and_choose W i)), 3), none, none, some (D.non, 4), none, some (D.non, 4), some (D.non, 4)])
        (.lend rfl rfl (.lend rfl rfl (.lend rfl rfl (.lend rfl rfl (.lend rfl rfl (.lend rfl rfl (.lend rfl rfl (.keep rfl (.keep rfl (.hide rfl (.keep rfl (.hide rfl (.hide rfl .nil)))))))))))))
        (.keep rfl (.keep rfl (.keep rfl (.keep rfl (.keep rfl (.keep rfl (.keep rfl (.drop rfl rfl (.drop rfl rfl (.keep rfl (.drop rfl rfl (.keep rfl (.keep rfl .nil))))))))))))) ?_
      · refine y_asg (mo := 0) (v_addL (f := id) (v_ls (f := id) (vx_c (f := id) (y := Lx D.int (F_cut_and_choose W i)) (v_var rfl) (vx_c (f := id) (y := Lx D.int ((F_cut_and_choose W i).map fun t => 1 - t)) (v_lc2 (f := D.int) (sr_seq (f := D.int) (v_var rfl)) (fun _ _ => rfl) (fun x hx => v_sub (v_con rfl) (v_varF rfl rfl))) (vx_c (f := id) (y := D.tup ((F_cut_and_choose W i).map D.int)) (v_tuple (f := D.int) (v_var rfl)) (vx_c (f := id) (y := Lx D.int (cutL (F_cut_and_choose W i) (some 1) none)) (v_sl (f := D.int) (v_var rfl) (vo_s (v_con rfl)) vo_n) (vx_c (f := id) (y := Lx D.int (F_cut_and_choose W i ++ [0])) (v_addL (f := D.int) (v_var rfl) (v_ls2 (f := D.int) (vx_c2 (f := D.int) (v_con rfl) vx_n)) (by simp only [List.length_singleton]; omega)) (vx_c (f := id) (y := D.non) (v_con rfl) (vx_c (f := id) (y := D.int 7) (v_con rfl) (vx_c (f := id) (y := D.fn 0) v_emp (vx_c (f := id) (y := Lx id (D.non :: (cutL (F_cut_and_choose W i) (some 1) none).map D.int)) (Ev.to (v_addL (f := id) (xs := [D.non]) (v_ls (f := id) (vx_c (f := id) (y := D.non) (v_con rfl) vx_n)) (Ev.to (d1 := Lx id ((cutL (F_cut_and_choose W i) (some 1) none).map D.int)) (v_sl (f := D.int) (v_var rfl) (vo_s (v_con rfl)) vo_n) (by simp [Lx])) (by simp [cutL]; omega)) rfl) vx_n)))))))))) p5 (by simp [p1])) rfl (.inl rfl) (.s (.s (.s (.s (.s (.s (.s (.z rfl)))))))) (by decide) ?_
        generalize hv : ([Lx D.int (F_cut_and_choose W i), Lx D.int ((F_cut_and_choose W i).map fun t => 1 - t), D.tup ((F_cut_and_choose W i).map D.int), Lx D.int (cutL (F_cut_and_choose W i) (some 1) none), Lx D.int (F_cut_and_choose W i ++ [0]), D.non, D.int 7, D.fn 0, Lx id (D.non :: (cutL (F_cut_and_choose W i) (some 1) none).map D.int)] ++ ys) = vals
        have hvals : ∀ d ∈ vals, niD d = true := fun d hd => by
          rw [← hv] at hd
          rcases List.mem_append.mp hd with hd | hd
          · simp only [List.mem_cons, List.not_mem_nil, or_false] at hd
            rcases hd with rfl | rfl | rfl | rfl | rfl | rfl | rfl | rfl | rfl
            · exact niD_ints _
            · exact niD_ints _
            · rfl
            · exact niD_ints _
            · exact niD_ints _
            · rfl
            · rfl
            · rfl
            · rw [← Lx_id]
              exact niD_non _
          · exact p2 d hd
        refine x_forN (f := id) (xs := vals) (I := fun _ s => s = st2) (AA := [some (D.cell c, 3), some (Lx (Lx D.int) W, 3), some (D.int i, 3), some (D.str (pyLL W).shown, 3), some (Lx D.int [m0, m1], 3), some (Lx D.int (F_cut_and_choose W i), 3), some (Lx D.int (F_whole_gains W (F_cut_and_choose W i)), 3), some (Lx id vals, 0), none, some (D.non, 4), none, some (D.non, 4), some (D.non, 4)]) (sr_seq (f := id) (v_var rfl)) rfl (wk_s (by decide) (wk_s (by decide) (wk_s (by decide) (wk_s (by decide) (wk_s (by decide) (wk_s (by decide) (wk_s (by decide) (wk_s (by decide) (wk_n rfl (wk_s (by decide) (wk_n rfl (wk_s (by decide) (wk_s (by decide) wk_e))))))))))))) rfl rfl (fun q d hq st3 hst3 => ⟨_, .nm (.s (.s (.s (.s (.s (.s (.s (.s (.z rfl))))))))), ?_⟩) fun st3 hst3 => ?_
        · subst hst3
          have hd := hvals d (List.mem_of_getElem? hq)
          have l1 := law_stands_eq hW h2 hi hd m
          have l2 := is_cut_eq hW few h2 hi hd hb
          have c1 := R_law_stands W i d m l1.1 (k + 8) st3
          have c2 := R_is_cut_and_choose W i d l2.1 (k + 2) st3
          rw [l1.2] at c1
          rw [l2.2] at c2
          refine y_asg (mo := 0) (v_call (vl_c (v_var rfl) (vl_c (v_varF rfl rfl) (vl_c (v_var rfl) (vl_c (v_ixF (f := D.int) (v_var rfl) (v_varF rfl rfl) inm (fun _ => rfl)) vl_n)))) (by rw [hm]; exact c1)) rfl (.inl rfl) (.s (.s (.s (.s (.s (.s (.s (.s (.s (.s (.z rfl))))))))))) (by decide) ?_
          refine x_iteF (m := 2) (evnot (u := true) (v_call (vl_c (v_ls2 (f := D.bl) (vx_c2 (f := D.bl) (v_call (vl_c (v_var rfl) (vl_c (v_varF rfl rfl) (vl_c (v_var rfl) vl_n))) c2) (vx_c2 (f := D.bl) (v_callk vl_n (vl_c (v_var rfl) (vl_c (v_varF rfl rfl) (vl_c (v_var rfl) vl_n))) rfl c2) vx_n))) (vl_c (v_ls2 (f := D.bl) (vx_c2 (f := D.bl) (v_varF rfl rfl) (vx_c2 (f := D.bl) (v_varF rfl rfl) vx_n))) vl_n)) (R_law_same _ _ (same_bls _ _) (k + 1) st3))) rfl ?_
          refine x_nil fun ρ hs => ⟨.inl rfl, ?_, rfl⟩
          exact (wk_s (by decide) (wk_s (by decide) (wk_s (by decide) (wk_s (by decide) (wk_s (by decide) (wk_s (by decide) (wk_s (by decide) (wk_s (by decide) (wk_n rfl (wk_s (by decide) (wk_n rfl (wk_s (by decide) (wk_s (by decide) wk_e))))))))))))).sat hs
        · subst hst3
          refine x_nil fun ρ hs => ⟨rfl, ⟨_, by exact rfl, hs⟩, ?_⟩
          refine y_asg (mo := 0) (v_list2 (f := D.int) (v_var rfl) (fun _ => rfl)) rfl (.inr rfl) (.s (.s (.s (.s (.s (.s (.s (.s (.s (.z rfl)))))))))) (by decide) ?_
          refine y_app (f := D.int) rfl (by decide) (v_con rfl) rfl (.inl rfl) (by omega) (.s (.s (.s (.s (.s (.z rfl)))))) ?_
          have sm : SameS (Lx D.int (F_cut_and_choose W i)) (Lx D.int (F_cut_and_choose W i)) := by
            have := same_ints (xs := F_cut_and_choose W i) (by omega)
            exact ⟨rfl, this.1, by omega⟩
          refine x_iteF (m := 2) (evnot (u := true) (v_call (vl_c (v_callk vl_n (vl_c (v_varF rfl rfl) (vl_c (v_var rfl) vl_n)) rfl (R_cut_and_choose W i hS (k + 2) st3)) (vl_c (v_var rfl) vl_n)) (R_law_same _ _ sm (k + 1) st3))) rfl ?_
          refine x_nil fun ρ hs => ⟨.inl rfl, ?_, ?_, by omega⟩
          · exact (wk_s (by decide) (wk_s (by decide) (wk_n rfl (wk_s (by decide) (wk_s (by decide) (wk_n rfl (wk_n rfl (wk_n rfl (wk_n rfl (wk_n rfl (wk_n rfl (wk_n rfl (wk_n rfl wk_e))))))))))))).sat hs
          · exact p3.mono (by rw [Nat.succ_mul]; omega)
    · obtain ⟨hG1, hL1⟩ := hI
      rw [rl] at hG1
      obtain ⟨t, ht⟩ := two_some hW few h2
      have ca := R_all_least W (all_least_ok hW few) (k + 4) st1
      rw [ht] at ca
      refine x_ret0 (d := .bl true) (m := 2) (evand (u := true) (v := true) (v_eqS (v_reprLL (v_var rfl) ws.1 ws.2) (v_varF rfl rfl) (strOk_LL ws.2)) fun _ => v_isnN (f := Lx D.int) (o := some t) (fun _ => rfl) (v_call (vl_c (v_var rfl) vl_n) ca)) rfl fun l ρ h1 h2 => ⟨⟨hG1.mono (by omega), hL1⟩, l, rfl, h1, h2⟩
  exact y_fnE (T := Tb) (f := 38) (bd := b38) rfl rfl (.cons (.cons (.none (.none (.none (.none (.none (.none (.none (.none (.none (.none (.none .nil))))))))))))) h0
end
end K58
namespace K58
open IX PySem

theorem worths_of {W : List (List Int)} {h n : Nat} {most : Int} (r : Rows W h n most) (h1 : 1 ≤ h ∧ h ≤ 6) (n1 : 1 ≤ n ∧ n ≤ 8) (m : most ≤ 1000) : Worths W n where
  h1 := by rw [r.1]; exact h1.1
  h2 := by rw [r.1]; exact h1.2
  n1 := n1.1
  n2 := n1.2
  len := fun x hx => (r.2 x hx).1
  val := fun x hx v hv => ⟨((r.2 x hx).2 v hv).1, Int.le_trans ((r.2 x hx).2 v hv).2 m⟩
def two : List (List Int) := [[6, 3, 1], [5, 5, 2]]
theorem two_w : Worths two 3 := ⟨by decide, by decide, by decide, by decide, by decide, by decide⟩
theorem goes (ns : List Int) : ∃ m st', IX.run Tb 16 40 [.scr ns] [] = .ok (.bl true, m) st' := by
  refine y_law (T := Tb) (f := 40) (nl := 5) (bd := b40) rfl (.none (.none (.none (.none .nil)))) ?_
  obtain ⟨a0, a1, a2, ha, hA⟩ := r_gen draws ns (n := 0) (by decide) 13 []
  obtain ⟨c0, c1, c2, hc, hC⟩ := r_gen draws ns (n := 1) (by decide) 13 []
  refine y_parc (v_call (vl_c (v_var rfl) (vl_c (v_con rfl) vl_n)) hA) (v_call (vl_c (v_var rfl) (vl_c (v_con rfl) vl_n)) hC) (.s (.s (.s (.z rfl)))) (.s (.s (.s (.s (.z rfl))))) (by decide) ?_
  have g0 : Gs 1000000 (([] : Sto) ++ [[a0, a1, a2].map D.int, [c0, c1, c2].map D.int]) := fun c hc' => by
    simp only [List.nil_append, List.mem_cons, List.not_mem_nil, or_false] at hc'
    rcases hc' with rfl | rfl
    · exact gs_gen ha
    · exact gs_gen hc
  generalize hst : (([] : Sto) ++ [[a0, a1, a2].map D.int, [c0, c1, c2].map D.int]) = st at g0
  have l0 : st.length = 2 := by rw [← hst]; rfl
  obtain ⟨v1, st1, q1, q2, q3, q4⟩ := r_random draws (b := 7) ⟨by decide, by decide⟩ (c := 0) g0 (by decide) (by omega) 13
  obtain ⟨v2, st2, p1, p2, p3, p4⟩ := r_pickF draws (f := D.int) (xs := [1, 5, 100]) (fun _ => rfl) ⟨by simp, by simp⟩ (c := 0) q2 (by decide) (by omega) 12
  have m2 : 1 ≤ v2 ∧ v2 ≤ 100 := by
    simp only [List.mem_cons, List.not_mem_nil, or_false] at p1
    omega
  obtain ⟨W, st3, r1, r2, r3, r4⟩ := r_worths draws (iW := 27) rfl (h := 2) (n := (1 + v1).toNat) (by decide) (by omega) (most := v2) ⟨by omega, by omega⟩ (c := 0) p2 (by decide) (by omega) 11
  have e1 : (((1 + v1).toNat : Nat) : Int) = 1 + v1 := by omega
  rw [e1] at r4
  have hW := worths_of r1 ⟨by decide, by decide⟩ ⟨by omega, by omega⟩ (by omega)
  have h2 : W.length = 2 := r1.1
  have few : W.length ^ (1 + v1).toNat ≤ 5000 := by
    rw [h2]
    have : 2 ^ (1 + v1).toNat ≤ 2 ^ 7 := Nat.pow_le_pow_right (by decide) (by omega)
    omega
  refine y_asg (mo := 0) (v_call (vl_c (v_var rfl) (vl_c (v_con rfl) (vl_c (v_add (v_con rfl) (v_call (vl_c (v_var rfl) (vl_c (v_con rfl) vl_n)) q4)) (vl_c (v_call (vl_c (v_var rfl) (vl_c (v_ls2 (f := D.int) (vx_c2 (f := D.int) (v_con rfl) (vx_c2 (f := D.int) (v_con rfl) (vx_c2 (f := D.int) (v_con rfl) vx_n)))) vl_n)) p4) vl_n)))) r4) rfl (.inl rfl) (.s (.z rfl)) (by decide) ?_
  obtain ⟨st4, s1, s2, s3⟩ := two_right hW few h2 (c := 0) r2 (by decide) (by omega) 3
  have ar := R_law_all_right W (all_right hW few) 4 st4
  obtain ⟨h, n, V, st5, t1, t2, t3, t4⟩ := r_drawn draws (iW := 27) (iD := 28) rfl rfl (mh := 4) (mt := 5) (by decide) (by decide) (c := 1) s1 (by decide) (by omega) 10
  have hV := worths_of t1.2.2.2.2 (by omega) (by omega) (by decide)
  have fewV : V.length ^ n ≤ 5000 := by
    rw [t1.2.2.2.2.1]
    have a : h ^ n ≤ 4 ^ n := Nat.pow_le_pow_left t1.2.1 n
    have b : 4 ^ n ≤ 4 ^ 5 := Nat.pow_le_pow_right (by decide) t1.2.2.2.1
    omega
  have arV := R_law_all_right V (all_right hV fewV) 4 st5
  refine x_iteF (m := 2) (evorF (evnot (u := true) (v_call (vl_c (v_var rfl) (vl_c (v_var rfl) vl_n)) s3)) (evorF (evnot (u := true) (v_call (vl_c (v_var rfl) vl_n) ar)) (evnot (u := true) (v_call (vl_c (v_call (vl_c (v_var rfl) (vl_c (v_con rfl) (vl_c (v_con rfl) vl_n))) t4) vl_n) arV)))) rfl ?_
  refine y_asg (mo := 0) (v_ls2 (f := Lx D.int) (vx_c2 (f := Lx D.int) (y := [6, 3, 1]) (v_ls2 (f := D.int) (vx_c2 (f := D.int) (v_con rfl) (vx_c2 (f := D.int) (v_con rfl) (vx_c2 (f := D.int) (v_con rfl) vx_n)))) (vx_c2 (f := Lx D.int) (y := [5, 5, 2]) (v_ls2 (f := D.int) (vx_c2 (f := D.int) (v_con rfl) (vx_c2 (f := D.int) (v_con rfl) (vx_c2 (f := D.int) (v_con rfl) vx_n)))) vx_n))) rfl (.inl rfl) (.s (.s (.z rfl))) (by decide) ?_
  have hb : ∀ i, inb two i → ∃ m b, Best two 3 i m b := fun i _ => best_ex two_w i
  obtain ⟨m0, b0, hb0⟩ := best_ex two_w 0
  obtain ⟨m1, b1, hb1⟩ := best_ex two_w 1
  have k0 := R_cut_and_choose two 0 (cut_ok two_w (by decide) rfl (.inl rfl) hb0).1 6 st5
  have k1 := R_is_cut_and_choose two 1 (Lx D.int [0, 1, 1]) (is_cut_eq two_w (by decide) rfl (.inr rfl) (niD_ints _) hb1).1 6 st5
  have k2 := R_is_cut_and_choose two 1 (Lx D.int [0, 0, 1]) (is_cut_eq two_w (by decide) rfl (.inr rfl) (niD_ints _) hb1).1 6 st5
  have k3 := R_all_least two (all_least_ok two_w (by decide)) 8 st5
  rw [show F_cut_and_choose two 0 = [0, 1, 1] by decide +kernel] at k0
  rw [show F_is_cut_and_choose two 1 (Lx D.int [0, 1, 1]) = true by decide +kernel] at k1
  rw [show F_is_cut_and_choose two 1 (Lx D.int [0, 0, 1]) = false by decide +kernel] at k2
  rw [show F_all_least two = some [0, 1, 0] by decide +kernel] at k3
  have sm : SameS (Lx id [Lx D.int [0, 1, 1], D.bl true, D.bl false, Lx D.int [0, 1, 0]]) (Lx id [Lx D.int [0, 1, 1], D.bl true, D.bl false, Lx D.int [0, 1, 0]]) := ⟨rfl, by decide, by decide⟩
  have i3 : ∀ {η : IX.Env} {a b c : Int}, Ev (IX.run Tb 15) (.lst (.cons (.con (.int a)) (.cons (.con (.int b)) (.cons (.con (.int c)) .nil)))) η st5 (Lx D.int [a, b, c]) 2 st5 := fun {η a b c} => v_ls2 (f := D.int) (vx_c2 (f := D.int) (v_con rfl) (vx_c2 (f := D.int) (v_con rfl) (vx_c2 (f := D.int) (v_con rfl) vx_n)))
  refine x_ret0 (m := 2) (v_call (vl_c (v_ls (f := id) (vx_c (f := id) (v_call (vl_c (v_var rfl) (vl_c (v_con rfl) vl_n)) k0) (vx_c (f := id) (v_call (vl_c (v_var rfl) (vl_c (v_con rfl) (vl_c i3 vl_n))) k1) (vx_c (f := id) (v_call (vl_c (v_var rfl) (vl_c (v_con rfl) (vl_c i3 vl_n))) k2) (vx_c (f := id) (v_call (vl_c (v_var rfl) vl_n) k3) vx_n))))) (vl_c (v_ls (f := id) (vx_c (f := id) i3 (vx_c (f := id) (y := D.bl true) (v_con rfl) (vx_c (f := id) (y := D.bl false) (v_con rfl) (vx_c (f := id) i3 vx_n))))) vl_n)) (R_law_same _ _ sm 5 st5)) rfl fun l ρ _ _ => ⟨l, rfl⟩
end K58
theorem K58.fin : ∀ ns : List Int, ns.length ≤ 63 → (∀ z ∈ ns, PySem.Builtin.Int.intBits z ≤ 1048576) → ∃ m st, IX.run K58.Tb 16 40 [.scr ns] [] = .ok (.bl true, m) st := fun ns _ _ => K58.goes ns
namespace K58
open PySem PySem.Spec PyProof.Rows L2 Evl IX
theorem s0 : FnScope ["value"] ["value"] (defScope (topS 7)) := ⟨rfl, rfl, rfl, by decide +kernel, rfl, by decide +kernel, by decide +kernel⟩
theorem x0 : Tx ci Tb (topS 7) 0 "is_whole" ["value"] ["value"] where
  sc := s0
  np := by decide
  cp := ⟨60, b0, e0, rfl⟩
  bd := fun _ _ _ _ _ _ us hl => match us, hl with | [_], _ => rfl
  kw := fun n ks pm h hp kV doc pm1 an cdv ct us ws ys h1 h2 h3 => by
    have m := kwOf_mem h
    rw [show kwOf 0 ci.kw = ([] : List (Nat × List Str)) by decide +kernel] at m
    cases m
  nd := by decide
theorem s1 : FnScope ["value"] ["value"] (defScope (topS 12)) := ⟨rfl, rfl, rfl, by decide +kernel, rfl, by decide +kernel, by decide +kernel⟩
theorem x1 : Tx ci Tb (topS 12) 1 "is_count" ["value"] ["value"] where
  sc := s1
  np := by decide
  cp := ⟨60, b1, e1, rfl⟩
  bd := fun _ _ _ _ _ _ us hl => match us, hl with | [_], _ => rfl
  kw := fun n ks pm h hp kV doc pm1 an cdv ct us ws ys h1 h2 h3 => by
    have m := kwOf_mem h
    rw [show kwOf 1 ci.kw = ([] : List (Nat × List Str)) by decide +kernel] at m
    cases m
  nd := by decide
theorem s2 : FnScope ["value", "bound"] ["value", "bound"] (defScope (topS 13)) := ⟨rfl, rfl, rfl, by decide +kernel, rfl, by decide +kernel, by decide +kernel⟩
theorem x2 : Tx ci Tb (topS 13) 2 "is_below" ["value", "bound"] ["value", "bound"] where
  sc := s2
  np := by decide
  cp := ⟨60, b2, e2, rfl⟩
  bd := fun _ _ _ _ _ _ us hl => match us, hl with | [_, _], _ => rfl
  kw := fun n ks pm h hp kV doc pm1 an cdv ct us ws ys h1 h2 h3 => by
    have m := kwOf_mem h
    rw [show kwOf 2 ci.kw = ([] : List (Nat × List Str)) by decide +kernel] at m
    cases m
  nd := by decide
theorem s3 : FnScope ["value", "worth"] ["value"] (defScope (topS 14)) := ⟨rfl, rfl, rfl, by decide +kernel, rfl, by decide +kernel, by decide +kernel⟩
theorem x3 : Tx ci Tb (topS 14) 3 "is_worth_row" ["value"] ["value", "worth"] where
  sc := s3
  np := by decide
  cp := ⟨60, b3, e3, rfl⟩
  bd := fun _ _ _ _ _ _ us hl => match us, hl with | [_], _ => rfl
  kw := fun n ks pm h hp kV doc pm1 an cdv ct us ws ys h1 h2 h3 => by
    have m := kwOf_mem h
    rw [show kwOf 3 ci.kw = ([] : List (Nat × List Str)) by decide +kernel] at m
    cases m
  nd := by decide
theorem s4 : FnScope ["value", "row"] ["value"] (defScope (topS 15)) := ⟨rfl, rfl, rfl, by decide +kernel, rfl, by decide +kernel, by decide +kernel⟩
theorem x4 : Tx ci Tb (topS 15) 4 "are_worths" ["value"] ["value", "row"] where
  sc := s4
  np := by decide
  cp := ⟨60, b4, e4, rfl⟩
  bd := fun _ _ _ _ _ _ us hl => match us, hl with | [_], _ => rfl
  kw := fun n ks pm h hp kV doc pm1 an cdv ct us ws ys h1 h2 h3 => by
    have m := kwOf_mem h
    rw [show kwOf 4 ci.kw = ([] : List (Nat × List Str)) by decide +kernel] at m
    cases m
  nd := by decide
theorem s5 : FnScope ["worths", "value", "heir"] ["worths", "value"] (defScope (topS 16)) := ⟨rfl, rfl, rfl, by decide +kernel, rfl, by decide +kernel, by decide +kernel⟩
theorem x5 : Tx ci Tb (topS 16) 5 "is_whole_of" ["worths", "value"] ["worths", "value", "heir"] where
  sc := s5
  np := by decide
  cp := ⟨60, b5, e5, rfl⟩
  bd := fun _ _ _ _ _ _ us hl => match us, hl with | [_, _], _ => rfl
  kw := fun n ks pm h hp kV doc pm1 an cdv ct us ws ys h1 h2 h3 => by
    have m := kwOf_mem h
    rw [show kwOf 5 ci.kw = ([] : List (Nat × List Str)) by decide +kernel] at m
    cases m
  nd := by decide
theorem s6 : FnScope ["worths"] ["worths"] (defScope (topS 17)) := ⟨rfl, rfl, rfl, by decide +kernel, rfl, by decide +kernel, by decide +kernel⟩
theorem x6 : Tx ci Tb (topS 17) 6 "check_worths" ["worths"] ["worths"] where
  sc := s6
  np := by decide
  cp := ⟨60, b6, e6, rfl⟩
  bd := fun _ _ _ _ _ _ us hl => match us, hl with | [_], _ => rfl
  kw := fun n ks pm h hp kV doc pm1 an cdv ct us ws ys h1 h2 h3 => by
    have m := kwOf_mem h
    rw [show kwOf 6 ci.kw = ([] : List (Nat × List Str)) by decide +kernel] at m
    cases m
  nd := by decide
theorem s7 : FnScope ["worths", "heir"] ["worths", "heir"] (defScope (topS 18)) := ⟨rfl, rfl, rfl, by decide +kernel, rfl, by decide +kernel, by decide +kernel⟩
theorem x7 : Tx ci Tb (topS 18) 7 "check_heir" ["worths", "heir"] ["worths", "heir"] where
  sc := s7
  np := by decide
  cp := ⟨60, b7, e7, rfl⟩
  bd := fun _ _ _ _ _ _ us hl => match us, hl with | [_, _], _ => rfl
  kw := fun n ks pm h hp kV doc pm1 an cdv ct us ws ys h1 h2 h3 => by
    have m := kwOf_mem h
    rw [show kwOf 7 ci.kw = ([] : List (Nat × List Str)) by decide +kernel] at m
    cases m
  nd := by decide
theorem s8 : FnScope ["whole", "heir", "thing", "taker"] ["whole", "heir"] (defScope (topS 20)) := ⟨rfl, rfl, rfl, by decide +kernel, rfl, by decide +kernel, by decide +kernel⟩
theorem x8 : Tx ci Tb (topS 20) 8 "lot_of" ["whole", "heir"] ["whole", "heir", "thing", "taker"] where
  sc := s8
  np := by decide
  cp := ⟨60, b8, e8, rfl⟩
  bd := fun _ _ _ _ _ _ us hl => match us, hl with | [_, _], _ => rfl
  kw := fun n ks pm h hp kV doc pm1 an cdv ct us ws ys h1 h2 h3 => by
    have m := kwOf_mem h
    rw [show kwOf 8 ci.kw = ([] : List (Nat × List Str)) by decide +kernel] at m
    cases m
  nd := by decide
theorem s9 : FnScope ["worths", "whole", "heir"] ["worths", "whole"] (defScope (topS 21)) := ⟨rfl, rfl, rfl, by decide +kernel, rfl, by decide +kernel, by decide +kernel⟩
theorem x9 : Tx ci Tb (topS 21) 9 "lots_in" ["worths", "whole"] ["worths", "whole", "heir"] where
  sc := s9
  np := by decide
  cp := ⟨60, b9, e9, rfl⟩
  bd := fun _ _ _ _ _ _ us hl => match us, hl with | [_, _], _ => rfl
  kw := fun n ks pm h hp kV doc pm1 an cdv ct us ws ys h1 h2 h3 => by
    have m := kwOf_mem h
    rw [show kwOf 9 ci.kw = ([] : List (Nat × List Str)) by decide +kernel] at m
    cases m
  nd := by decide
theorem s10 : FnScope ["row", "lot", "thing"] ["row", "lot"] (defScope (topS 22)) := ⟨rfl, rfl, rfl, by decide +kernel, rfl, by decide +kernel, by decide +kernel⟩
theorem x10 : Tx ci Tb (topS 22) 10 "value_of" ["row", "lot"] ["row", "lot", "thing"] where
  sc := s10
  np := by decide
  cp := ⟨60, b10, e10, rfl⟩
  bd := fun _ _ _ _ _ _ us hl => match us, hl with | [_, _], _ => rfl
  kw := fun n ks pm h hp kV doc pm1 an cdv ct us ws ys h1 h2 h3 => by
    have m := kwOf_mem h
    rw [show kwOf 10 ci.kw = ([] : List (Nat × List Str)) by decide +kernel] at m
    cases m
  nd := by decide
theorem s11 : FnScope ["worths", "many", "thing"] ["worths"] (defScope (topS 25)) := ⟨rfl, rfl, rfl, by decide +kernel, rfl, by decide +kernel, by decide +kernel⟩
theorem x11 : Tx ci Tb (topS 25) 11 "check_few" ["worths"] ["worths", "many", "thing"] where
  sc := s11
  np := by decide
  cp := ⟨60, b11, e11, rfl⟩
  bd := fun _ _ _ _ _ _ us hl => match us, hl with | [_], _ => rfl
  kw := fun n ks pm h hp kV doc pm1 an cdv ct us ws ys h1 h2 h3 => by
    have m := kwOf_mem h
    rw [show kwOf 11 ci.kw = ([] : List (Nat × List Str)) by decide +kernel] at m
    cases m
  nd := by decide
theorem s12 : FnScope ["worths", "wholes", "thing", "longer", "whole", "heir"] ["worths"] (defScope (topS 26)) := ⟨rfl, rfl, rfl, by decide +kernel, rfl, by decide +kernel, by decide +kernel⟩
theorem x12 : Tx ci Tb (topS 26) 12 "all_wholes" ["worths"] ["worths", "wholes", "thing", "longer", "whole", "heir"] where
  sc := s12
  np := by decide
  cp := ⟨60, b12, e12, rfl⟩
  bd := fun _ _ _ _ _ _ us hl => match us, hl with | [_], _ => rfl
  kw := fun n ks pm h hp kV doc pm1 an cdv ct us ws ys h1 h2 h3 => by
    have m := kwOf_mem h
    rw [show kwOf 12 ci.kw = ([] : List (Nat × List Str)) by decide +kernel] at m
    cases m
  nd := by decide
theorem s13 : FnScope ["worths", "whole", "heir", "lot"] ["worths", "whole"] (defScope (topS 27)) := ⟨rfl, rfl, rfl, by decide +kernel, rfl, by decide +kernel, by decide +kernel⟩
theorem x13 : Tx ci Tb (topS 27) 13 "whole_gains" ["worths", "whole"] ["worths", "whole", "heir", "lot"] where
  sc := s13
  np := by decide
  cp := ⟨60, b13, e13, rfl⟩
  bd := fun _ _ _ _ _ _ us hl => match us, hl with | [_, _], _ => rfl
  kw := fun n ks pm h hp kV doc pm1 an cdv ct us ws ys h1 h2 h3 => by
    have m := kwOf_mem h
    rw [show kwOf 13 ci.kw = ([] : List (Nat × List Str)) by decide +kernel] at m
    cases m
  nd := by decide
theorem s14 : FnScope ["worths", "heir", "best", "whole", "lots", "least", "lot"] ["worths", "heir"] (defScope (topS 29)) := ⟨rfl, rfl, rfl, by decide +kernel, rfl, by decide +kernel, by decide +kernel⟩
theorem x14 : Tx ci Tb (topS 29) 14 "best_parting" ["worths", "heir"] ["worths", "heir", "best", "whole", "lots", "least", "lot"] where
  sc := s14
  np := by decide
  cp := ⟨60, b14, e14, rfl⟩
  bd := fun _ _ _ _ _ _ us hl => match us, hl with | [_, _], _ => rfl
  kw := fun n ks pm h hp kV doc pm1 an cdv ct us ws ys h1 h2 h3 => by
    have m := kwOf_mem h
    rw [show kwOf 14 ci.kw = ([] : List (Nat × List Str)) by decide +kernel] at m
    cases m
  nd := by decide
theorem s15 : FnScope ["worths", "heir"] ["worths", "heir"] (defScope (topS 30)) := ⟨rfl, rfl, rfl, by decide +kernel, rfl, by decide +kernel, by decide +kernel⟩
theorem x15 : Tx ci Tb (topS 30) 15 "check_known" ["worths", "heir"] ["worths", "heir"] where
  sc := s15
  np := by decide
  cp := ⟨60, b15, e15, rfl⟩
  bd := fun _ _ _ _ _ _ us hl => match us, hl with | [_, _], _ => rfl
  kw := fun n ks pm h hp kV doc pm1 an cdv ct us ws ys h1 h2 h3 => by
    have m := kwOf_mem h
    rw [show kwOf 15 ci.kw = ([] : List (Nat × List Str)) by decide +kernel] at m
    cases m
  nd := by decide
theorem s16 : FnScope ["worths", "heir"] ["worths", "heir"] (defScope (topS 31)) := ⟨rfl, rfl, rfl, by decide +kernel, rfl, by decide +kernel, by decide +kernel⟩
theorem x16 : Tx ci Tb (topS 31) 16 "own_least" ["worths", "heir"] ["worths", "heir"] where
  sc := s16
  np := by decide
  cp := ⟨60, b16, e16, rfl⟩
  bd := fun _ _ _ _ _ _ us hl => match us, hl with | [_, _], _ => rfl
  kw := fun n ks pm h hp kV doc pm1 an cdv ct us ws ys h1 h2 h3 => by
    have m := kwOf_mem h
    rw [show kwOf 16 ci.kw = ([] : List (Nat × List Str)) by decide +kernel] at m
    cases m
  nd := by decide
theorem s17 : FnScope ["worths", "heir"] ["worths", "heir"] (defScope (topS 32)) := ⟨rfl, rfl, rfl, by decide +kernel, rfl, by decide +kernel, by decide +kernel⟩
theorem x17 : Tx ci Tb (topS 32) 17 "check_two" ["worths", "heir"] ["worths", "heir"] where
  sc := s17
  np := by decide
  cp := ⟨60, b17, e17, rfl⟩
  bd := fun _ _ _ _ _ _ us hl => match us, hl with | [_, _], _ => rfl
  kw := fun n ks pm h hp kV doc pm1 an cdv ct us ws ys h1 h2 h3 => by
    have m := kwOf_mem h
    rw [show kwOf 17 ci.kw = ([] : List (Nat × List Str)) by decide +kernel] at m
    cases m
  nd := by decide
theorem s18 : FnScope ["worths", "heir", "lots", "other", "taken", "thing"] ["worths", "heir"] (defScope (topS 33)) := ⟨rfl, rfl, rfl, by decide +kernel, rfl, by decide +kernel, by decide +kernel⟩
theorem x18 : Tx ci Tb (topS 33) 18 "cut_and_choose" ["worths", "heir"] ["worths", "heir", "lots", "other", "taken", "thing"] where
  sc := s18
  np := by decide
  cp := ⟨60, b18, e18, rfl⟩
  bd := fun _ _ _ _ _ _ us hl => match us, hl with | [_, _], _ => rfl
  kw := fun n ks pm h hp kV doc pm1 an cdv ct us ws ys h1 h2 h3 => by
    have m := kwOf_mem h
    rw [show kwOf 18 ci.kw = ([(0, ["heir", "worths"])] : List (Nat × List Str)) by decide +kernel] at m
    rcases List.mem_cons.mp m with e | m
    · cases e
      rw [show kwPm ["worths", "heir"] ["heir", "worths"] 0 = some [1, 0] by decide +kernel] at hp
      cases hp
      match us, ws, h1, h2, h3 with
      | [], [a, b], _, _, h3 =>
        cases h3
        rfl
    cases m
  nd := by decide
theorem s19 : FnScope ["worths", "heir", "value", "lots", "other", "lot"] ["worths", "heir", "value"] (defScope (topS 34)) := ⟨rfl, rfl, rfl, by decide +kernel, rfl, by decide +kernel, by decide +kernel⟩
theorem x19 : Tx ci Tb (topS 34) 19 "is_cut_and_choose" ["worths", "heir", "value"] ["worths", "heir", "value", "lots", "other", "lot"] where
  sc := s19
  np := by decide
  cp := ⟨60, b19, e19, rfl⟩
  bd := fun _ _ _ _ _ _ us hl => match us, hl with | [_, _, _], _ => rfl
  kw := fun n ks pm h hp kV doc pm1 an cdv ct us ws ys h1 h2 h3 => by
    have m := kwOf_mem h
    rw [show kwOf 19 ci.kw = ([(0, ["value", "heir", "worths"])] : List (Nat × List Str)) by decide +kernel] at m
    rcases List.mem_cons.mp m with e | m
    · cases e
      rw [show kwPm ["worths", "heir", "value"] ["value", "heir", "worths"] 0 = some [2, 1, 0] by decide +kernel] at hp
      cases hp
      match us, ws, h1, h2, h3 with
      | [], [a, b, c], _, _, h3 =>
        cases h3
        rfl
    cases m
  nd := by decide
theorem s20 : FnScope ["worths", "least", "whole", "gains", "heir", "gain"] ["worths"] (defScope (topS 35)) := ⟨rfl, rfl, rfl, by decide +kernel, rfl, by decide +kernel, by decide +kernel⟩
theorem x20 : Tx ci Tb (topS 35) 20 "all_least" ["worths"] ["worths", "least", "whole", "gains", "heir", "gain"] where
  sc := s20
  np := by decide
  cp := ⟨60, b20, e20, rfl⟩
  bd := fun _ _ _ _ _ _ us hl => match us, hl with | [_], _ => rfl
  kw := fun n ks pm h hp kV doc pm1 an cdv ct us ws ys h1 h2 h3 => by
    have m := kwOf_mem h
    rw [show kwOf 20 ci.kw = ([(0, ["worths"])] : List (Nat × List Str)) by decide +kernel] at m
    rcases List.mem_cons.mp m with e | m
    · cases e
      rw [show kwPm ["worths"] ["worths"] 0 = some [0] by decide +kernel] at hp
      cases hp
      match us, ws, h1, h2, h3 with
      | [], [a], _, _, h3 =>
        cases h3
        rfl
    cases m
  nd := by decide
theorem s21 : FnScope ["seed", "index", "mixed"] ["seed", "index"] (defScope (topS 37)) := ⟨rfl, rfl, rfl, by decide +kernel, rfl, by decide +kernel, by decide +kernel⟩
theorem x21 : Tx ci Tb (topS 37) 21 "_law_hash" ["seed", "index"] ["seed", "index", "mixed"] where
  sc := s21
  np := by decide
  cp := ⟨60, b21, e21, rfl⟩
  bd := fun _ _ _ _ _ _ us hl => match us, hl with | [_, _], _ => rfl
  kw := fun n ks pm h hp kV doc pm1 an cdv ct us ws ys h1 h2 h3 => by
    have m := kwOf_mem h
    rw [show kwOf 21 ci.kw = ([] : List (Nat × List Str)) by decide +kernel] at m
    cases m
  nd := by decide
theorem s22 : FnScope ["generator", "bound", "drawn", "turn"] ["generator", "bound"] (defScope (topS 38)) := ⟨rfl, rfl, rfl, by decide +kernel, rfl, by decide +kernel, by decide +kernel⟩
theorem x22 : Tx ci Tb (topS 38) 22 "_law_random" ["generator", "bound"] ["generator", "bound", "drawn", "turn"] where
  sc := s22
  np := by decide
  cp := ⟨60, b22, e22, rfl⟩
  bd := fun _ _ _ _ _ _ us hl => match us, hl with | [_, _], _ => rfl
  kw := fun n ks pm h hp kV doc pm1 an cdv ct us ws ys h1 h2 h3 => by
    have m := kwOf_mem h
    rw [show kwOf 22 ci.kw = ([] : List (Nat × List Str)) by decide +kernel] at m
    cases m
  nd := by decide
theorem s23 : FnScope ["script", "index"] ["script", "index"] (defScope (topS 39)) := ⟨rfl, rfl, rfl, by decide +kernel, rfl, by decide +kernel, by decide +kernel⟩
theorem x23 : Tx ci Tb (topS 39) 23 "_law_cell" ["script", "index"] ["script", "index"] where
  sc := s23
  np := by decide
  cp := ⟨60, b23, e23, rfl⟩
  bd := fun _ _ _ _ _ _ us hl => match us, hl with | [_, _], _ => rfl
  kw := fun n ks pm h hp kV doc pm1 an cdv ct us ws ys h1 h2 h3 => by
    have m := kwOf_mem h
    rw [show kwOf 23 ci.kw = ([] : List (Nat × List Str)) by decide +kernel] at m
    cases m
  nd := by decide
theorem s24 : FnScope ["script", "index", "seed"] ["script", "index"] (defScope (topS 40)) := ⟨rfl, rfl, rfl, by decide +kernel, rfl, by decide +kernel, by decide +kernel⟩
theorem x24 : Tx ci Tb (topS 40) 24 "_law_generator" ["script", "index"] ["script", "index", "seed"] where
  sc := s24
  np := by decide
  cp := ⟨60, b24, e24, rfl⟩
  bd := fun _ _ _ _ _ _ us hl => match us, hl with | [_, _], _ => rfl
  kw := fun n ks pm h hp kV doc pm1 an cdv ct us ws ys h1 h2 h3 => by
    have m := kwOf_mem h
    rw [show kwOf 24 ci.kw = ([] : List (Nat × List Str)) by decide +kernel] at m
    cases m
  nd := by decide
theorem s25 : FnScope ["generator", "things"] ["generator", "things"] (defScope (topS 41)) := ⟨rfl, rfl, rfl, by decide +kernel, rfl, by decide +kernel, by decide +kernel⟩
theorem x25 : Tx ci Tb (topS 41) 25 "_law_pick" ["generator", "things"] ["generator", "things"] where
  sc := s25
  np := by decide
  cp := ⟨60, b25, e25, rfl⟩
  bd := fun _ _ _ _ _ _ us hl => match us, hl with | [_, _], _ => rfl
  kw := fun n ks pm h hp kV doc pm1 an cdv ct us ws ys h1 h2 h3 => by
    have m := kwOf_mem h
    rw [show kwOf 25 ci.kw = ([] : List (Nat × List Str)) by decide +kernel] at m
    cases m
  nd := by decide
theorem s26 : FnScope ["told", "due", "at"] ["told", "due"] (defScope (topS 42)) := ⟨rfl, rfl, rfl, by decide +kernel, rfl, by decide +kernel, by decide +kernel⟩
theorem x26 : Tx ci Tb (topS 42) 26 "_law_same" ["told", "due"] ["told", "due", "at"] where
  sc := s26
  np := by decide
  cp := ⟨60, b26, e26, rfl⟩
  bd := fun _ _ _ _ _ _ us hl => match us, hl with | [_, _], _ => rfl
  kw := fun n ks pm h hp kV doc pm1 an cdv ct us ws ys h1 h2 h3 => by
    have m := kwOf_mem h
    rw [show kwOf 26 ci.kw = ([] : List (Nat × List Str)) by decide +kernel] at m
    cases m
  nd := by decide
theorem s27 : FnScope ["generator", "heirs", "things", "most", "way", "row", "heir", "thing", "worth"] ["generator", "heirs", "things", "most"] (defScope (topS 43)) := ⟨rfl, rfl, rfl, by decide +kernel, rfl, by decide +kernel, by decide +kernel⟩
theorem x27 : Tx ci Tb (topS 43) 27 "_law_worths" ["generator", "heirs", "things", "most"] ["generator", "heirs", "things", "most", "way", "row", "heir", "thing", "worth"] where
  sc := s27
  np := by decide
  cp := ⟨60, b27, e27, rfl⟩
  bd := fun _ _ _ _ _ _ us hl => match us, hl with | [_, _, _, _], _ => rfl
  kw := fun n ks pm h hp kV doc pm1 an cdv ct us ws ys h1 h2 h3 => by
    have m := kwOf_mem h
    rw [show kwOf 27 ci.kw = ([] : List (Nat × List Str)) by decide +kernel] at m
    cases m
  nd := by decide
theorem s28 : FnScope ["generator", "most_heirs", "most_things", "heirs", "things"] ["generator", "most_heirs", "most_things"] (defScope (topS 44)) := ⟨rfl, rfl, rfl, by decide +kernel, rfl, by decide +kernel, by decide +kernel⟩
theorem x28 : Tx ci Tb (topS 44) 28 "_law_drawn_worths" ["generator", "most_heirs", "most_things"] ["generator", "most_heirs", "most_things", "heirs", "things"] where
  sc := s28
  np := by decide
  cp := ⟨60, b28, e28, rfl⟩
  bd := fun _ _ _ _ _ _ us hl => match us, hl with | [_, _, _], _ => rfl
  kw := fun n ks pm h hp kV doc pm1 an cdv ct us ws ys h1 h2 h3 => by
    have m := kwOf_mem h
    rw [show kwOf 28 ci.kw = ([] : List (Nat × List Str)) by decide +kernel] at m
    cases m
  nd := by decide
theorem s29 : FnScope ["generator", "worths", "thing"] ["generator", "worths"] (defScope (topS 45)) := ⟨rfl, rfl, rfl, by decide +kernel, rfl, by decide +kernel, by decide +kernel⟩
theorem x29 : Tx ci Tb (topS 45) 29 "_law_whole" ["generator", "worths"] ["generator", "worths", "thing"] where
  sc := s29
  np := by decide
  cp := ⟨60, b29, e29, rfl⟩
  bd := fun _ _ _ _ _ _ us hl => match us, hl with | [_, _], _ => rfl
  kw := fun n ks pm h hp kV doc pm1 an cdv ct us ws ys h1 h2 h3 => by
    have m := kwOf_mem h
    rw [show kwOf 29 ci.kw = ([] : List (Nat × List Str)) by decide +kernel] at m
    cases m
  nd := by decide
theorem s30 : FnScope ["worths", "whole", "heir", "thing", "taker"] ["worths", "whole"] (defScope (topS 46)) := ⟨rfl, rfl, rfl, by decide +kernel, rfl, by decide +kernel, by decide +kernel⟩
theorem x30 : Tx ci Tb (topS 46) 30 "_law_lots" ["worths", "whole"] ["worths", "whole", "heir", "thing", "taker"] where
  sc := s30
  np := by decide
  cp := ⟨60, b30, e30, rfl⟩
  bd := fun _ _ _ _ _ _ us hl => match us, hl with | [_, _], _ => rfl
  kw := fun n ks pm h hp kV doc pm1 an cdv ct us ws ys h1 h2 h3 => by
    have m := kwOf_mem h
    rw [show kwOf 30 ci.kw = ([] : List (Nat × List Str)) by decide +kernel] at m
    cases m
  nd := by decide
theorem s31 : FnScope ["row", "lot", "thing"] ["row", "lot"] (defScope (topS 47)) := ⟨rfl, rfl, rfl, by decide +kernel, rfl, by decide +kernel, by decide +kernel⟩
theorem x31 : Tx ci Tb (topS 47) 31 "_law_value" ["row", "lot"] ["row", "lot", "thing"] where
  sc := s31
  np := by decide
  cp := ⟨60, b31, e31, rfl⟩
  bd := fun _ _ _ _ _ _ us hl => match us, hl with | [_, _], _ => rfl
  kw := fun n ks pm h hp kV doc pm1 an cdv ct us ws ys h1 h2 h3 => by
    have m := kwOf_mem h
    rw [show kwOf 31 ci.kw = ([] : List (Nat × List Str)) by decide +kernel] at m
    cases m
  nd := by decide
theorem s32 : FnScope ["worths", "whole", "heir", "lot"] ["worths", "whole"] (defScope (topS 48)) := ⟨rfl, rfl, rfl, by decide +kernel, rfl, by decide +kernel, by decide +kernel⟩
theorem x32 : Tx ci Tb (topS 48) 32 "_law_whole_gains" ["worths", "whole"] ["worths", "whole", "heir", "lot"] where
  sc := s32
  np := by decide
  cp := ⟨60, b32, e32, rfl⟩
  bd := fun _ _ _ _ _ _ us hl => match us, hl with | [_, _], _ => rfl
  kw := fun n ks pm h hp kV doc pm1 an cdv ct us ws ys h1 h2 h3 => by
    have m := kwOf_mem h
    rw [show kwOf 32 ci.kw = ([] : List (Nat × List Str)) by decide +kernel] at m
    cases m
  nd := by decide
theorem s33 : FnScope ["bound", "value"] ["bound", "value"] (defScope (topS 49)) := ⟨rfl, rfl, rfl, by decide +kernel, rfl, by decide +kernel, by decide +kernel⟩
theorem x33 : Tx ci Tb (topS 49) 33 "_law_is_below" ["bound", "value"] ["bound", "value"] where
  sc := s33
  np := by decide
  cp := ⟨60, b33, e33, rfl⟩
  bd := fun _ _ _ _ _ _ us hl => match us, hl with | [_, _], _ => rfl
  kw := fun n ks pm h hp kV doc pm1 an cdv ct us ws ys h1 h2 h3 => by
    have m := kwOf_mem h
    rw [show kwOf 33 ci.kw = ([] : List (Nat × List Str)) by decide +kernel] at m
    cases m
  nd := by decide
theorem s34 : FnScope ["heirs", "things", "value", "heir"] ["heirs", "things", "value"] (defScope (topS 50)) := ⟨rfl, rfl, rfl, by decide +kernel, rfl, by decide +kernel, by decide +kernel⟩
theorem x34 : Tx ci Tb (topS 50) 34 "_law_are_takers" ["heirs", "things", "value"] ["heirs", "things", "value", "heir"] where
  sc := s34
  np := by decide
  cp := ⟨60, b34, e34, rfl⟩
  bd := fun _ _ _ _ _ _ us hl => match us, hl with | [_, _, _], _ => rfl
  kw := fun n ks pm h hp kV doc pm1 an cdv ct us ws ys h1 h2 h3 => by
    have m := kwOf_mem h
    rw [show kwOf 34 ci.kw = ([] : List (Nat × List Str)) by decide +kernel] at m
    cases m
  nd := by decide
theorem s35 : FnScope ["heirs", "things", "wholes", "thing", "whole", "heir"] ["heirs", "things"] (defScope (topS 51)) := ⟨rfl, rfl, rfl, by decide +kernel, rfl, by decide +kernel, by decide +kernel⟩
theorem x35 : Tx ci Tb (topS 51) 35 "_law_all_wholes" ["heirs", "things"] ["heirs", "things", "wholes", "thing", "whole", "heir"] where
  sc := s35
  np := by decide
  cp := ⟨60, b35, e35, rfl⟩
  bd := fun _ _ _ _ _ _ us hl => match us, hl with | [_, _], _ => rfl
  kw := fun n ks pm h hp kV doc pm1 an cdv ct us ws ys h1 h2 h3 => by
    have m := kwOf_mem h
    rw [show kwOf 35 ci.kw = ([] : List (Nat × List Str)) by decide +kernel] at m
    cases m
  nd := by decide
theorem s36 : FnScope ["worths", "heir", "rows", "row", "lot"] ["worths", "heir"] (defScope (topS 52)) := ⟨rfl, rfl, rfl, by decide +kernel, rfl, by decide +kernel, by decide +kernel⟩
theorem x36 : Tx ci Tb (topS 52) 36 "_law_least" ["worths", "heir"] ["worths", "heir", "rows", "row", "lot"] where
  sc := s36
  np := by decide
  cp := ⟨60, b36, e36, rfl⟩
  bd := fun _ _ _ _ _ _ us hl => match us, hl with | [_, _], _ => rfl
  kw := fun n ks pm h hp kV doc pm1 an cdv ct us ws ys h1 h2 h3 => by
    have m := kwOf_mem h
    rw [show kwOf 36 ci.kw = ([] : List (Nat × List Str)) by decide +kernel] at m
    cases m
  nd := by decide
theorem s37 : FnScope ["worths", "heir", "value", "due", "lots", "other", "lot"] ["worths", "heir", "value", "due"] (defScope (topS 53)) := ⟨rfl, rfl, rfl, by decide +kernel, rfl, by decide +kernel, by decide +kernel⟩
theorem x37 : Tx ci Tb (topS 53) 37 "_law_stands" ["worths", "heir", "value", "due"] ["worths", "heir", "value", "due", "lots", "other", "lot"] where
  sc := s37
  np := by decide
  cp := ⟨60, b37, e37, rfl⟩
  bd := fun _ _ _ _ _ _ us hl => match us, hl with | [_, _, _, _], _ => rfl
  kw := fun n ks pm h hp kV doc pm1 an cdv ct us ws ys h1 h2 h3 => by
    have m := kwOf_mem h
    rw [show kwOf 37 ci.kw = ([] : List (Nat × List Str)) by decide +kernel] at m
    cases m
  nd := by decide
theorem s38 : FnScope ["generator", "worths", "heir", "kept", "leasts", "told", "gains", "values", "value", "copy", "due", "turn", "taker"] ["generator", "worths"] (defScope (topS 54)) := ⟨rfl, rfl, rfl, by decide +kernel, rfl, by decide +kernel, by decide +kernel⟩
theorem x38 : Tx ci Tb (topS 54) 38 "_law_two_right" ["generator", "worths"] ["generator", "worths", "heir", "kept", "leasts", "told", "gains", "values", "value", "copy", "due", "turn", "taker"] where
  sc := s38
  np := by decide
  cp := ⟨60, b38, e38, rfl⟩
  bd := fun _ _ _ _ _ _ us hl => match us, hl with | [_, _], _ => rfl
  kw := fun n ks pm h hp kV doc pm1 an cdv ct us ws ys h1 h2 h3 => by
    have m := kwOf_mem h
    rw [show kwOf 38 ci.kw = ([] : List (Nat × List Str)) by decide +kernel] at m
    cases m
  nd := by decide
theorem s39 : FnScope ["worths", "good", "due", "leasts", "rows", "row", "heir", "gain"] ["worths"] (defScope (topS 55)) := ⟨rfl, rfl, rfl, by decide +kernel, rfl, by decide +kernel, by decide +kernel⟩
theorem x39 : Tx ci Tb (topS 55) 39 "_law_all_right" ["worths"] ["worths", "good", "due", "leasts", "rows", "row", "heir", "gain"] where
  sc := s39
  np := by decide
  cp := ⟨60, b39, e39, rfl⟩
  bd := fun _ _ _ _ _ _ us hl => match us, hl with | [_], _ => rfl
  kw := fun n ks pm h hp kV doc pm1 an cdv ct us ws ys h1 h2 h3 => by
    have m := kwOf_mem h
    rw [show kwOf 39 ci.kw = ([] : List (Nat × List Str)) by decide +kernel] at m
    cases m
  nd := by decide
theorem s40 : FnScope ["script", "worths", "two", "generator", "other"] ["script"] (defScope (topS 56)) := ⟨rfl, rfl, rfl, by decide +kernel, rfl, by decide +kernel, by decide +kernel⟩
theorem x40 : Tx ci Tb (topS 56) 40 "law" ["script"] ["script", "worths", "two", "generator", "other"] where
  sc := s40
  np := by decide
  cp := ⟨60, b40, e40, rfl⟩
  bd := fun _ _ _ _ _ _ us hl => match us, hl with | [_], _ => rfl
  kw := fun n ks pm h hp kV doc pm1 an cdv ct us ws ys h1 h2 h3 => by
    have m := kwOf_mem h
    rw [show kwOf 40 ci.kw = ([] : List (Nat × List Str)) by decide +kernel] at m
    cases m
  nd := by decide
end K58
open PySem PySem.W PyProof.Rows
set_option maxHeartbeats 0 in
theorem PySem.Challenge.cw_heirshares_k58_whole_cut_and_choose_holds : PySem.Challenge.rw_heirshares_k58_whole_cut_and_choose.Holds := by
  w_on; o_law; k_head; (case hw => w_witness2)
  k_fill
  refine IX.walk_ix (l := PySem.Challenge.rw_heirshares_k58_whole_cut_and_choose) (n := 63) (k := 16) (li := 40) (x := "script") (Tb := K58.Tb) rfl (by decide) rfl ⟨rfl, by decide, by decide⟩ (fun w h Y => PySem.W.kIn_of Y) ?F K58.fin
  case F =>
    intro w mg fa h KX G hmg
    refine' IX.all_mk (k := 15) KX G hmg (li := 40) (ci := K58.ci) (Tb := K58.Tb) rfl (.cons K58.x0 ?ixd0 (.cons K58.x1 ?ixd1 (.cons K58.x2 ?ixd2 (.cons K58.x3 ?ixd3 (.cons K58.x4 ?ixd4 (.cons K58.x5 ?ixd5 (.cons K58.x6 ?ixd6 (.cons K58.x7 ?ixd7 (.cons K58.x8 ?ixd8 (.cons K58.x9 ?ixd9 (.cons K58.x10 ?ixd10 (.cons K58.x11 ?ixd11 (.cons K58.x12 ?ixd12 (.cons K58.x13 ?ixd13 (.cons K58.x14 ?ixd14 (.cons K58.x15 ?ixd15 (.cons K58.x16 ?ixd16 (.cons K58.x17 ?ixd17 (.cons K58.x18 ?ixd18 (.cons K58.x19 ?ixd19 (.cons K58.x20 ?ixd20 (.cons K58.x21 ?ixd21 (.cons K58.x22 ?ixd22 (.cons K58.x23 ?ixd23 (.cons K58.x24 ?ixd24 (.cons K58.x25 ?ixd25 (.cons K58.x26 ?ixd26 (.cons K58.x27 ?ixd27 (.cons K58.x28 ?ixd28 (.cons K58.x29 ?ixd29 (.cons K58.x30 ?ixd30 (.cons K58.x31 ?ixd31 (.cons K58.x32 ?ixd32 (.cons K58.x33 ?ixd33 (.cons K58.x34 ?ixd34 (.cons K58.x35 ?ixd35 (.cons K58.x36 ?ixd36 (.cons K58.x37 ?ixd37 (.cons K58.x38 ?ixd38 (.cons K58.x39 ?ixd39 (.cons K58.x40 ?ixd40 .nil))))))))))))))))))))))))))))))))))))))))) (.cons ?ixg0 (.cons ?ixg1 (.cons ?ixg2 (.cons ?ixg3 .nil)))) (.cons ?ixt0 (.cons ?ixt1 (.cons ?ixt2 (.cons ?ixt3 (.cons ?ixt4 (.cons ?ixt5 (.cons ?ixt6 (.cons ?ixt7 (.cons ?ixt8 (.cons ?ixt9 (.cons ?ixt10 (.cons ?ixt11 (.cons ?ixt12 (.cons ?ixt13 (.cons ?ixt14 (.cons ?ixt15 (.cons ?ixt16 .nil)))))))))))))))))
    (case ixd0 => refine' IX.df_mk ?a ?l ?c ?k; (case a => k_is); (case l => k_is); (case c => k_is); (case k => k_is))
    (case ixd1 => refine' IX.df_mk ?a ?l ?c ?k; (case a => k_is); (case l => k_is); (case c => k_is); (case k => k_is))
    (case ixd2 => refine' IX.df_mk ?a ?l ?c ?k; (case a => k_is); (case l => k_is); (case c => k_is); (case k => k_is))
    (case ixd3 => refine' IX.df_mk ?a ?l ?c ?k; (case a => k_is); (case l => k_is); (case c => k_is); (case k => k_is))
    (case ixd4 => refine' IX.df_mk ?a ?l ?c ?k; (case a => k_is); (case l => k_is); (case c => k_is); (case k => k_is))
    (case ixd5 => refine' IX.df_mk ?a ?l ?c ?k; (case a => k_is); (case l => k_is); (case c => k_is); (case k => k_is))
    (case ixd6 => refine' IX.df_mk ?a ?l ?c ?k; (case a => k_is); (case l => k_is); (case c => k_is); (case k => k_is))
    (case ixd7 => refine' IX.df_mk ?a ?l ?c ?k; (case a => k_is); (case l => k_is); (case c => k_is); (case k => k_is))
    (case ixd8 => refine' IX.df_mk ?a ?l ?c ?k; (case a => k_is); (case l => k_is); (case c => k_is); (case k => k_is))
    (case ixd9 => refine' IX.df_mk ?a ?l ?c ?k; (case a => k_is); (case l => k_is); (case c => k_is); (case k => k_is))
    (case ixd10 => refine' IX.df_mk ?a ?l ?c ?k; (case a => k_is); (case l => k_is); (case c => k_is); (case k => k_is))
    (case ixd11 => refine' IX.df_mk ?a ?l ?c ?k; (case a => k_is); (case l => k_is); (case c => k_is); (case k => k_is))
    (case ixd12 => refine' IX.df_mk ?a ?l ?c ?k; (case a => k_is); (case l => k_is); (case c => k_is); (case k => k_is))
    (case ixd13 => refine' IX.df_mk ?a ?l ?c ?k; (case a => k_is); (case l => k_is); (case c => k_is); (case k => k_is))
    (case ixd14 => refine' IX.df_mk ?a ?l ?c ?k; (case a => k_is); (case l => k_is); (case c => k_is); (case k => k_is))
    (case ixd15 => refine' IX.df_mk ?a ?l ?c ?k; (case a => k_is); (case l => k_is); (case c => k_is); (case k => k_is))
    (case ixd16 => refine' IX.df_mk ?a ?l ?c ?k; (case a => k_is); (case l => k_is); (case c => k_is); (case k => k_is))
    (case ixd17 => refine' IX.df_mk ?a ?l ?c ?k; (case a => k_is); (case l => k_is); (case c => k_is); (case k => k_is))
    (case ixd18 => refine' IX.df_mk ?a ?l ?c ?k; (case a => k_is); (case l => k_is); (case c => k_is); (case k => k_is))
    (case ixd19 => refine' IX.df_mk ?a ?l ?c ?k; (case a => k_is); (case l => k_is); (case c => k_is); (case k => k_is))
    (case ixd20 => refine' IX.df_mk ?a ?l ?c ?k; (case a => k_is); (case l => k_is); (case c => k_is); (case k => k_is))
    (case ixd21 => refine' IX.df_mk ?a ?l ?c ?k; (case a => k_is); (case l => k_is); (case c => k_is); (case k => k_is))
    (case ixd22 => refine' IX.df_mk ?a ?l ?c ?k; (case a => k_is); (case l => k_is); (case c => k_is); (case k => k_is))
    (case ixd23 => refine' IX.df_mk ?a ?l ?c ?k; (case a => k_is); (case l => k_is); (case c => k_is); (case k => k_is))
    (case ixd24 => refine' IX.df_mk ?a ?l ?c ?k; (case a => k_is); (case l => k_is); (case c => k_is); (case k => k_is))
    (case ixd25 => refine' IX.df_mk ?a ?l ?c ?k; (case a => k_is); (case l => k_is); (case c => k_is); (case k => k_is))
    (case ixd26 => refine' IX.df_mk ?a ?l ?c ?k; (case a => k_is); (case l => k_is); (case c => k_is); (case k => k_is))
    (case ixd27 => refine' IX.df_mk ?a ?l ?c ?k; (case a => k_is); (case l => k_is); (case c => k_is); (case k => k_is))
    (case ixd28 => refine' IX.df_mk ?a ?l ?c ?k; (case a => k_is); (case l => k_is); (case c => k_is); (case k => k_is))
    (case ixd29 => refine' IX.df_mk ?a ?l ?c ?k; (case a => k_is); (case l => k_is); (case c => k_is); (case k => k_is))
    (case ixd30 => refine' IX.df_mk ?a ?l ?c ?k; (case a => k_is); (case l => k_is); (case c => k_is); (case k => k_is))
    (case ixd31 => refine' IX.df_mk ?a ?l ?c ?k; (case a => k_is); (case l => k_is); (case c => k_is); (case k => k_is))
    (case ixd32 => refine' IX.df_mk ?a ?l ?c ?k; (case a => k_is); (case l => k_is); (case c => k_is); (case k => k_is))
    (case ixd33 => refine' IX.df_mk ?a ?l ?c ?k; (case a => k_is); (case l => k_is); (case c => k_is); (case k => k_is))
    (case ixd34 => refine' IX.df_mk ?a ?l ?c ?k; (case a => k_is); (case l => k_is); (case c => k_is); (case k => k_is))
    (case ixd35 => refine' IX.df_mk ?a ?l ?c ?k; (case a => k_is); (case l => k_is); (case c => k_is); (case k => k_is))
    (case ixd36 => refine' IX.df_mk ?a ?l ?c ?k; (case a => k_is); (case l => k_is); (case c => k_is); (case k => k_is))
    (case ixd37 => refine' IX.df_mk ?a ?l ?c ?k; (case a => k_is); (case l => k_is); (case c => k_is); (case k => k_is))
    (case ixd38 => refine' IX.df_mk ?a ?l ?c ?k; (case a => k_is); (case l => k_is); (case c => k_is); (case k => k_is))
    (case ixd39 => refine' IX.df_mk ?a ?l ?c ?k; (case a => k_is); (case l => k_is); (case c => k_is); (case k => k_is))
    (case ixd40 => refine' IX.df_mk ?a ?l ?c ?k; (case a => k_is); (case l => k_is); (case c => k_is); (case k => k_is))
    (case ixg0 => k_is); (case ixg1 => k_is); (case ixg2 => k_is); (case ixg3 => k_is)
    (case ixt0 => k_is); (case ixt1 => k_is); (case ixt2 => k_is); (case ixt3 => k_is); (case ixt4 => k_is); (case ixt5 => k_is); (case ixt6 => k_is); (case ixt7 => k_is); (case ixt8 => k_is); (case ixt9 => k_is); (case ixt10 => k_is); (case ixt11 => k_is); (case ixt12 => k_is); (case ixt13 => k_is); (case ixt14 => k_is); (case ixt15 => k_is); (case ixt16 => k_is)
