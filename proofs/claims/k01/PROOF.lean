import PyProof.Rows.All
import Wide.All
import OpenK.AllK
import Wide.FinOn
import PySem.Challenge.RW_bestbyregions_k01_weights_that_cancel
import PyProof.ReprReads
import HandS.ForMost
import HandS.Wide
import HandS.TupAny
import HandS.Deep
import HandS.Gcd
import HandS.IsInst
import HandS.Style
import HandS.Zip
import HandS.Rev
import HandS.Exc
import HandS.RaiseMore
import HandS.Walk
import HandS.TryOnly
import HandS.Comp
import HandS.Words
import HandS.Ends
import HandS.EndBits
import HandS.WordsExc
set_option linter.all false
set_option Elab.async false
set_option maxRecDepth 100000
namespace PL
open PySem (Str PyData)

/-- a frozen value: a tree that nobody changes any more -/
inductive PV where
  | non | bl (b : Bool) | int (i : Int) | str (x : Str)
  | tup (l : List PV) | lst (l : List PV) | scr (l : List Int)
  | obj (c : Nat) (ks : List Nat) (vs : List PV)
  deriving Inhabited

/-- a value in a slot: frozen, or a list (an instance) that this slot alone holds -/
inductive SV where
  | fz (v : PV) | lst (l : List SV) | obj (c : Nat) (ks : List Nat) (vs : List SV)
  deriving Inhabited

mutual
def SV.pv : SV → PV
  | .fz v => v
  | .lst l => .lst (SV.pvs l)
  | .obj c ks vs => .obj c ks (SV.pvs vs)
def SV.pvs : List SV → List PV
  | [] => []
  | x :: xs => x.pv :: SV.pvs xs
end

/-- an exception: its class, its attributes -/
structure Exc where
  c : Nat
  ks : List Nat
  vs : List PV
  deriving Inhabited

inductive Res (α : Type) where
  | no | ok (a : α) | ex (x : Exc)

def Res.bind {α β : Type} : Res α → (α → Res β) → Res β
  | .ok a, f => f a
  | .no, _ => .no
  | .ex x, _ => .ex x
@[simp] theorem Res.bind_ok {α β : Type} (a : α) (f : α → Res β) : (Res.ok a).bind f = f a := rfl
@[simp] theorem Res.bind_no {α β : Type} (f : α → Res β) : (Res.no : Res α).bind f = .no := rfl
@[simp] theorem Res.bind_ex {α β : Type} (x : Exc) (f : α → Res β) : (Res.ex x : Res α).bind f = .ex x := rfl
def Res.ofOpt {α : Type} : Option α → Res α
  | some a => .ok a
  | none => .no
@[simp] theorem Res.ofOpt_some {α : Type} (a : α) : Res.ofOpt (some a) = .ok a := rfl
@[simp] theorem Res.ofOpt_none {α : Type} : (Res.ofOpt none : Res α) = .no := rfl
def Res.noex {α : Type} : Res α → Res α
  | .ok a => .ok a
  | _ => .no
@[simp] theorem Res.noex_ok {α : Type} (a : α) : Res.noex (Res.ok a) = .ok a := rfl
@[simp] theorem Res.noex_no {α : Type} : Res.noex (Res.no : Res α) = .no := rfl
/-- go on if b -/
def Res.guard {α : Type} (b : Bool) (r : Res α) : Res α := match b with | true => r | false => .no
@[simp] theorem Res.guard_true {α : Type} (r : Res α) : Res.guard true r = r := rfl
@[simp] theorem Res.guard_false {α : Type} (r : Res α) : Res.guard false r = .no := rfl

/-- a slot: nothing, owned, lent by a caller -/
inductive Sl where
  | no | ow (v : SV) | bw (v : SV) | xc (x : Exc)
  deriving Inhabited
abbrev S := List Sl
abbrev FE := Nat → List Sl → Res SV

inductive Bop where | add | sub | mul | fdiv | mod | pow deriving DecidableEq
inductive Cop where | eq | ne | lt | le | gt | ge | isin | notin deriving DecidableEq
/-- what isinstance asks -/
inductive Ty where | int | bool | tuple | list | str | cls (c : Nat) deriving DecidableEq
inductive Bi where | len | abs | int | tuple | list | sum | max | min | gcd | repr | str deriving DecidableEq
inductive Tg where | nm (i : Nat) | tp (is : List Nat)

mutual
inductive Ex where
  | c (v : PV)
  | v (i : Nat) | f (i : Nat)
  | bin (o : Bop) (a b : Ex)
  | neg (a : Ex)
  | cmp (o : Cop) (a b : Ex)
  | isn (pos : Bool) (a : Ex)
  | isi (a : Ex) (ts : List Ty)
  | isx (i : Nat) (cs : List Nat)
  | attx (i : Nat) (k : Nat)
  | nott (a : Ex)
  | truth (a : Ex)
  | andd (a b : Ex) | orr (a b : Ex)
  | ife (t a b : Ex)
  | tup (es : Exs) | lst (es : Exs)
  | keep (e : Ex)
  | idx (a i : Ex)
  | sl (a lo hi : Ex)
  | rev (a : Ex)
  | call (fn : Nat) (es : Exs)
  | bi (b : Bi) (es : Exs)
  | comp (tg : Tg) (it : It) (cnd : Exs) (el : Ex) (ws : List Nat)
inductive Exs where
  | nil | cons (e : Ex) (es : Exs)
inductive It where
  | ex (e : Ex) | r1 (a : Ex) | r2 (a b : Ex) | r3 (a b c : Ex) | zip (a b : Ex) | enum (a : Ex) | rev (a : Ex)
end

inductive Pl where | v (i : Nat) | idx (p : Pl) (e : Ex)

mutual
inductive Sx where
  | asg (i : Nat) (e : Ex)
  | unp (is : List Nat) (e : Ex)
  | par (i j : Nat) (a b : Ex)
  | setI (p : Pl) (i e : Ex)
  | app (p : Pl) (e : Ex)
  | ext (p : Pl) (e : Ex)
  | pop (p : Pl)
  | asgPop (i : Nat) (p : Pl)
  | xpr (e : Ex)
  | iff (t : Ex) (a b : Ss)
  | whil (t : Ex) (b : Ss)
  | forr (tg : Tg) (it : It) (b : Ss)
  | ret (e : Ex) | retM (i : Nat) | retN | brk | cnt | pass
  | rais (c : Nat) (ks : List Nat) (es : Exs)
  | tryy (b : Ss) (hs : Hs)
inductive Hs where
  | nil | cons (cs : List Nat) (nm : Option Nat) (b : Ss) (hs : Hs)
inductive Ss where
  | nil | cons (s : Sx) (ss : Ss)
end

mutual
def peq : PV → PV → Bool
  | .non, .non => true
  | .bl a, .bl b => a == b
  | .bl a, .int j => (if a then 1 else 0) == j
  | .int i, .bl b => i == (if b then 1 else 0)
  | .int i, .int j => i == j
  | .str x, .str y => x == y
  | .lst xs, .lst ys => peqs xs ys
  | .tup xs, .tup ys => peqs xs ys
  | _, _ => false
def peqs : List PV → List PV → Bool
  | [], [] => true
  | x :: xs, y :: ys => peq x y && peqs xs ys
  | _, _ => false
end
mutual
/-- no instance inside -/
def plain : PV → Bool
  | .obj _ _ _ => false
  | .scr _ => false
  | .str x => x.cps.all (· < 0x110000)
  | .tup l => plains l
  | .lst l => plains l
  | _ => true
def plains : List PV → Bool
  | [] => true
  | x :: xs => plain x && plains xs
end
mutual
def pdep : PV → Nat
  | .tup l => pdeps l + 1
  | .lst l => pdeps l + 1
  | _ => 0
def pdeps : List PV → Nat
  | [] => 0
  | x :: xs => max (pdep x) (pdeps xs)
end

def mulBits : Nat := 100000000
def szLine : Nat := 16777216
def mulOk (i j : Int) : Bool := decide (i.natAbs.log2 + j.natAbs.log2 < mulBits)
def divOk (j : Int) : Bool := j != 0 && decide (j.natAbs.log2 < 9000)

def isOwn : SV → Bool
  | .fz _ => false
  | _ => true

/-- the items of a list or tuple, read -/
def items : SV → Option (List SV)
  | .fz (.tup l) => some (l.map .fz)
  | .fz (.lst l) => some (l.map .fz)
  | .lst l => some l
  | _ => none
def ixP (n : Nat) (i : Int) : Option Nat :=
  if 0 ≤ i then (if i < n then some i.toNat else none) else if -(n : Int) ≤ i then some (i + n).toNat else none
def sIxP (n d : Nat) : Option Int → Nat
  | none => d
  | some i => if i < 0 then (i + (n : Int)).toNat else min i.toNat n
def cut {α : Type} (xs : List α) (lo hi : Option Int) : List α :=
  (xs.drop (sIxP xs.length 0 lo)).take (sIxP xs.length xs.length hi - sIxP xs.length 0 lo)

def allFz : List SV → Option (List PV)
  | [] => some []
  | .fz v :: r => (allFz r).map (v :: ·)
  | _ => none
@[simp] theorem allFz_map (l : List PV) : allFz (l.map .fz) = some l := by
  induction l with
  | nil => rfl
  | cons x xs ih => show Option.map _ (allFz (xs.map .fz)) = _; rw [ih]; rfl
def catL : Option (List PV) → Option (List PV) → Res SV
  | some a, some b => Res.guard (decide (a.length + b.length ≤ szLine)) (.ok (.lst ((a ++ b).map .fz)))
  | _, _ => .no
def repL : Option (List PV) → Int → Res SV
  | some a, k => Res.guard (decide (k.natAbs < 2 ^ 63) && decide (a.length * k.toNat ≤ szLine)) (.ok (.lst ((List.replicate k.toNat a).flatten.map .fz)))
  | _, _ => .no
def addV : SV → SV → Res SV
  | .fz (.int i), .fz (.int j) => .ok (.fz (.int (i + j)))
  | .fz (.tup a), .fz (.tup b) => Res.guard (decide (a.length + b.length ≤ szLine)) (.ok (.fz (.tup (a ++ b))))
  | .fz (.str a), .fz (.str b) => Res.guard (decide (a.length + b.length ≤ szLine)) (.ok (.fz (.str (a ++ b))))
  | .fz (.lst a), .fz (.lst b) => catL (some a) (some b)
  | .fz (.lst a), .lst b => catL (some a) (allFz b)
  | .lst a, .fz (.lst b) => catL (allFz a) (some b)
  | .lst a, .lst b => catL (allFz a) (allFz b)
  | _, _ => .no
def subV : SV → SV → Res SV
  | .fz (.int i), .fz (.int j) => .ok (.fz (.int (i - j)))
  | _, _ => .no
def mulV : SV → SV → Res SV
  | .fz (.int i), .fz (.int j) => Res.guard (mulOk i j) (.ok (.fz (.int (i * j))))
  | .fz (.lst a), .fz (.int k) => repL (some a) k
  | .lst a, .fz (.int k) => repL (allFz a) k
  | _, _ => .no
def fdivV : SV → SV → Res SV
  | .fz (.int i), .fz (.int j) => Res.guard (divOk j) (.ok (.fz (.int (i.fdiv j))))
  | _, _ => .no
def modV : SV → SV → Res SV
  | .fz (.int i), .fz (.int j) => Res.guard (j != 0) (.ok (.fz (.int (i.fmod j))))
  | _, _ => .no
def powV : SV → SV → Res SV
  | .fz (.int i), .fz (.int j) => Res.guard (decide (0 ≤ j) && decide (j.natAbs ≤ 1000000) && decide (i.natAbs < 2 ^ 64)) (.ok (.fz (.int (i ^ j.toNat))))
  | _, _ => .no
def binop : Bop → SV → SV → Res SV
  | .add => addV
  | .sub => subV
  | .mul => mulV
  | .fdiv => fdivV
  | .mod => modV
  | .pow => powV

def pin (x : PV) : List PV → Bool
  | [] => false
  | y :: ys => peq y x || pin x ys
def flat : PV → Bool
  | .non => true
  | .bl _ => true
  | .int _ => true
  | .str _ => true
  | _ => false
def shp (x : PV) : Bool := plain x && decide (pdep x ≤ 64)
def cmpop : Cop → PV → PV → Res PV
  | .eq, a, b => Res.guard (shp a && shp b) (.ok (.bl (peq a b)))
  | .ne, a, b => Res.guard (shp a && shp b) (.ok (.bl (!peq a b)))
  | .lt, .int i, .int j => .ok (.bl (decide (i < j)))
  | .le, .int i, .int j => .ok (.bl (decide (i ≤ j)))
  | .gt, .int i, .int j => .ok (.bl (decide (j < i)))
  | .ge, .int i, .int j => .ok (.bl (decide (j ≤ i)))
  | .isin, x, .lst l => Res.guard (shp x && shp (.lst l)) (.ok (.bl (pin x l)))
  | .isin, x, .tup l => Res.guard (flat x && l.all flat) (.ok (.bl (pin x l)))
  | .notin, x, .lst l => Res.guard (shp x && shp (.lst l)) (.ok (.bl (!pin x l)))
  | .notin, x, .tup l => Res.guard (flat x && l.all flat) (.ok (.bl (!pin x l)))
  | _, _, _ => .no

def isTy : Ty → PV → Bool
  | .int, .int _ => true
  | .int, .bl _ => true
  | .bool, .bl _ => true
  | .tuple, .tup _ => true
  | .list, .lst _ => true
  | .list, .scr _ => true
  | .str, .str _ => true
  | .cls c, .obj d _ _ => c == d
  | _, _ => false

def ints? : List PV → Option (List Int)
  | [] => some []
  | .int i :: r => (ints? r).map (i :: ·)
  | _ => none
def maxL : Int → List Int → Int
  | a, [] => a
  | a, b :: r => maxL (if b > a then b else a) r
def minL : Int → List Int → Int
  | a, [] => a
  | a, b :: r => minL (if b < a then b else a) r

mutual
def dat : PV → PyData
  | .bl b => .bool b
  | .int i => .int i
  | .str x => .str x
  | .tup l => .tuple (dats l)
  | .lst l => .list (dats l)
  | _ => .none
def dats : List PV → List PyData
  | [] => []
  | x :: xs => dat x :: dats xs
end
def reprP (x : PV) : Str := (dat x).shown
def sumO : Option (List Int) → Res SV
  | some ns => .ok (.fz (.int ns.sum))
  | none => .no
def maxO : Option (List Int) → Res SV
  | some (a :: r) => .ok (.fz (.int (maxL a r)))
  | _ => .no
def minO : Option (List Int) → Res SV
  | some (a :: r) => .ok (.fz (.int (minL a r)))
  | _ => .no
def tupO : Option (List PV) → Res SV
  | some l => .ok (.fz (.tup l))
  | none => .no
def lstO : Option (List PV) → Res SV
  | some l => .ok (.lst (l.map .fz))
  | none => .no
def lenV : SV → Res SV
  | .fz (.lst l) => .ok (.fz (.int l.length))
  | .fz (.tup l) => .ok (.fz (.int l.length))
  | .lst l => .ok (.fz (.int l.length))
  | .fz (.str x) => Res.guard (decide (x.length ≤ szLine)) (.ok (.fz (.int x.length)))
  | _ => .no
def absV : SV → Res SV
  | .fz (.int i) => .ok (.fz (.int (if i < 0 then -i else i)))
  | _ => .no
def intV : SV → Res SV
  | .fz (.int i) => .ok (.fz (.int i))
  | .fz (.bl b) => .ok (.fz (.int (if b then 1 else 0)))
  | _ => .no
def tupleV : SV → Res SV
  | .fz (.lst l) => .ok (.fz (.tup l))
  | .fz (.tup l) => .ok (.fz (.tup l))
  | .lst l => tupO (allFz l)
  | _ => .no
def listV : SV → Res SV
  | .fz (.lst l) => .ok (.lst (l.map .fz))
  | .fz (.tup l) => .ok (.lst (l.map .fz))
  | .lst l => lstO (allFz l)
  | _ => .no
def sumV (x : SV) : Res SV := match x.pv with
  | .lst l => sumO (ints? l)
  | _ => .no
def max1 (x : SV) : Res SV := match x.pv with
  | .lst l => maxO (ints? l)
  | _ => .no
def min1 (x : SV) : Res SV := match x.pv with
  | .lst l => minO (ints? l)
  | _ => .no
def max2 : SV → SV → Res SV
  | .fz (.int i), .fz (.int j) => .ok (.fz (.int (if j > i then j else i)))
  | _, _ => .no
def min2 : SV → SV → Res SV
  | .fz (.int i), .fz (.int j) => .ok (.fz (.int (if j < i then j else i)))
  | _, _ => .no
def gcdV : SV → SV → Res SV
  | .fz (.int i), .fz (.int j) => .ok (.fz (.int (Nat.gcd i.natAbs j.natAbs : Nat)))
  | _, _ => .no
def reprV (x : SV) : Res SV := Res.guard (shp x.pv && (dat x.pv).showable && decide ((reprP x.pv).length ≤ szLine)) (.ok (.fz (.str (reprP x.pv))))
def biop : Bi → List SV → Res SV
  | .len, [x] => lenV x
  | .abs, [x] => absV x
  | .int, [x] => intV x
  | .tuple, [x] => tupleV x
  | .list, [x] => listV x
  | .sum, [x] => sumV x
  | .max, [x] => max1 x
  | .min, [x] => min1 x
  | .max, [x, y] => max2 x y
  | .min, [x, y] => min2 x y
  | .gcd, [x, y] => gcdV x y
  | .repr, [x] => reprV x
  | _, _ => .no

def rd (S : S) (i : Nat) : Option SV := match S[i]? with
  | some (.ow v) => some v
  | some (.bw v) => some v
  | _ => none
/-- truth -/
def tru : PV → Option Bool
  | .bl b => some b
  | .int i => some (i != 0)
  | .non => some false
  | .tup l => some (!l.isEmpty)
  | .lst l => some (!l.isEmpty)
  | _ => none
/-- what a for hands to its target -/
inductive Itm where
  | one (x : Sl) | two (x y : Sl)
def fzOf : Sl → Option PV
  | .ow (.fz v) => some v
  | _ => none
def setsF (S : S) (is : List Nat) (l : List PV) : PL.S := (is.zip l).foldl (fun S p => S.set p.1 (.ow (.fz p.2))) S
def setP (S : S) (i : Nat) : Option PV → Option PV → Res PL.S
  | some a, some b => .ok (S.set i (.ow (.fz (.tup [a, b]))))
  | _, _ => .no
def set2 (S : S) (x y : Sl) : List Nat → Res PL.S
  | [i, j] => .ok ((S.set i x).set j y)
  | _ => .no
def setF (S : S) (is : List Nat) : PV → Res PL.S
  | .tup l => Res.guard (is.length == l.length) (.ok (setsF S is l))
  | .lst l => Res.guard (is.length == l.length) (.ok (setsF S is l))
  | _ => .no
def setO (S : S) (is : List Nat) : Option PV → Res PL.S
  | some x => setF S is x
  | none => .no
def setTg (S : S) : Tg → Itm → Res PL.S
  | .nm i, .one x => .ok (S.set i x)
  | .nm i, .two x y => setP S i (fzOf x) (fzOf y)
  | .tp is, .two x y => set2 S x y is
  | .tp is, .one x => setO S is (fzOf x)
def wipS (S : S) : List Nat → PL.S
  | [] => S
  | v :: vs => (wipS S vs).set v .no
def oneI (x : PV) : Itm := .one (.ow (.fz x))
def rangeL (lo hi : Int) : List Itm := (List.range (hi - lo).toNat).map fun (k : Nat) => oneI (.int (lo + k))
def range3N (lo hi st : Int) : Nat := if 0 < st then ((hi - lo + st - 1).fdiv st).toNat else ((lo - hi - st - 1).fdiv (-st)).toNat
def range3L (lo hi st : Int) : List Itm := (List.range (range3N lo hi st)).map fun (k : Nat) => oneI (.int (lo + k * st))
def r62 (i : Int) : Bool := decide (i.natAbs < 2 ^ 62)
def asInt : PV → Option Int
  | .int i => some i
  | _ => none
def optInt : PV → Option (Option Int)
  | .int i => some (some i)
  | .non => some none
  | _ => none
def asFz : SV → Option PV
  | .fz v => some v
  | _ => none
def lend : SV → Sl
  | .fz v => .ow (.fz v)
  | s => .bw s
/-- a list (tuple, text) that is walked: its kind (0, 1, 2), its items, the slot that is lent meanwhile -/
structure Src where
  k : Nat
  its : List Sl
  w : List (Nat × SV)
def fzI (x : PV) : Sl := .ow (.fz x)
def srcP : PV → Option Src
  | .lst l => some ⟨0, l.map fzI, []⟩
  | .tup l => some ⟨1, l.map fzI, []⟩
  | .str x => some ⟨2, x.cps.toList.map fun c => fzI (.str ⟨#[c]⟩), []⟩
  | _ => none
def srcV (S : S) (i : Nat) : Option Src := match S[i]? with
  | some (.ow (.fz x)) => srcP x
  | some (.ow (.lst l)) => some ⟨0, l.map lend, [(i, .lst l)]⟩
  | some (.bw (.fz x)) => srcP x
  | some (.bw (.lst l)) => some ⟨0, l.map lend, []⟩
  | _ => none
/-- a source: a slot, or a frozen value -/
inductive Sr where
  | slot (i : Nat) | val (x : PV)
def srcAt (S : S) : Sr → Option Src
  | .slot i => srcV S i
  | .val x => srcP x
def isPath : Ex → Bool
  | .v _ => true
  | .idx _ _ => true
  | _ => false

inductive Out where
  | no | nx (S : S) | rt (v : SV) | bk (S : S) | ct (S : S) | ex (x : Exc) (S : S)
/-- a slot's owned list is forgotten -/
def dropOwn : Sl → Sl
  | .ow (.fz v) => .ow (.fz v)
  | .ow _ => .no
  | s => s
def Res.out {α : Type} (S : S) : Res α → (α → Out) → Out
  | .ok a, f => f a
  | .no, _ => .no
  | .ex x, _ => .ex x (S.map dropOwn)
@[simp] theorem Res.out_ok {α : Type} (S : S) (a : α) (f : α → Out) : (Res.ok a).out S f = f a := rfl

/-- the slots w are lent, taken back -/
def lendS (S : S) (w : List (Nat × SV)) : PL.S := w.foldl (fun T p => T.set p.1 (.bw p.2)) S
def takeS (S : S) (w : List (Nat × SV)) : PL.S := w.foldl (fun T p => T.set p.1 (.ow p.2)) S
/-- the turns of a for -/
def loopF (tg : Tg) (body : S → Out) : List Itm → S → Out
  | [], S => .nx S
  | x :: xs, S => (setTg S tg x).out S fun S1 => match body S1 with
      | .nx S2 => loopF tg body xs S2
      | .ct S2 => loopF tg body xs S2
      | .bk S2 => .nx S2
      | o => o
/-- behind the walk of a lent list what was lent is forgotten -/
def noBw1 (t : Nat → Bool) (i : Nat) : Sl → Sl
  | .bw v => if t i then .no else .bw v
  | x => x
def noBw (t : Nat → Bool) (S : S) : PL.S := S.mapIdx (noBw1 t)
def wipW (S : S) (w : List (Nat × SV)) : PL.S := w.foldl (fun T p => T.set p.1 .no) S
def outTake (t : Nat → Bool) (w : List (Nat × SV)) : Out → Out
  | .nx S => match w with
    | [] => .nx S
    | w => .nx (takeS (noBw t S) w)
  | .rt v => .rt v
  | .ex x S => .ex x (wipW S w)
  | _ => .no
def loopW (test : S → Res (Bool × S)) (body : S → Out) : Nat → S → Out
  | 0, _ => .no
  | n + 1, S => (test S).out S fun (b, S1) => match b with
    | false => .nx S1
    | true => match body S1 with
      | .nx S2 => loopW test body n S2
      | .ct S2 => loopW test body n S2
      | .bk S2 => .nx S2
      | o => o
/-- the turns of a comprehension -/
def loopC (tg : Tg) (ws : List Nat) (test : S → Res (Bool × S)) (el : S → Res (SV × S)) : List Itm → S → List SV → Res (List SV × S)
  | [], S, acc => .ok (acc, S)
  | x :: xs, S, acc => (setTg (wipS S ws) tg x).noex.bind fun S1 => (test S1).bind fun p => match p.1 with
    | false => loopC tg ws test el xs p.2 acc
    | true => (el p.2).bind fun q => Res.guard (decide (acc.length < szLine)) (loopC tg ws test el xs q.2 (acc ++ [q.1]))

def isKeep : Ex → Bool
  | .keep _ => true
  | _ => false
/-- as a value: a view is frozen, or nothing -/
def valOf (e : Ex) (r : Res (SV × S)) : Res (SV × S) := r.bind fun p => match isPath e, p.1 with
  | false, _ => .ok p
  | true, .fz v => .ok (.fz v, p.2)
  | true, _ => .no
/-- as an element: frozen, or kept -/
def elemOf (e : Ex) (r : Res (SV × S)) : Res (SV × S) := (valOf e r).bind fun p => match isKeep e with
  | true => .ok p
  | false => .ok (.fz p.1.pv, p.2)
/-- as an argument -/
def argOf (e : Ex) (r : Res (SV × S)) : Res (Sl × S) := r.bind fun p => match isPath e with
  | true => .ok (lend p.1, p.2)
  | false => .ok (.ow p.1, p.2)
/-- as what is walked -/
def srOf (e : Ex) (r : Res (SV × S)) : Res (Sr × S) := match e with
  | .v i => r.bind fun p => .ok (.slot i, p.2)
  | e => (valOf e r).bind fun p => .ok (.val p.1.pv, p.2)
/-- as a test -/
def tstOf (r : Res (SV × S)) : Res (Bool × S) := r.bind fun p => match p.1 with
  | .fz (.bl b) => .ok (b, p.2)
  | _ => .no
def isNonE : Ex → Bool
  | .c .non => true
  | _ => false
def optOf (e : Ex) (r : Res (SV × S)) : Res (Option Int × S) := match isNonE e with
  | true => r.bind fun p => .ok (none, p.2)
  | false => r.bind fun p => match asInt p.1.pv with
    | some i => .ok (some i, p.2)
    | none => .no
def atP {α : Type} (l : List α) (n : Int) : Option α := (ixP l.length n).bind fun j => l[j]?
def getN : SV → Int → Option SV
  | .fz (.str z), n => if z.length ≤ szLine then (atP z.cps.toList n).map fun c => .fz (.str ⟨#[c]⟩) else none
  | .fz (.tup l), n => (atP l n).map .fz
  | .fz (.lst l), n => (atP l n).map .fz
  | .lst l, n => atP l n
  | _, _ => none
def getIt (x : SV) : SV → Option SV
  | .fz (.int n) => getN x n
  | _ => none
def cutIt (lo hi : Option Int) : SV → Option SV
  | .fz (.tup xs) => some (.fz (.tup (cut xs lo hi)))
  | .fz (.lst xs) => some (.lst ((cut xs lo hi).map .fz))
  | .lst xs => (allFz (cut xs lo hi)).map fun ys => .lst (ys.map .fz)
  | .fz (.scr l) => some (.lst ((cut l lo hi).map fun i => .fz (.int i)))
  | _ => none
def revIt : SV → Option SV
  | .fz (.lst xs) => some (.lst (xs.reverse.map .fz))
  | .lst xs => (allFz xs).map fun ys => .lst (ys.reverse.map .fz)
  | _ => none
def isNon : SV → Bool
  | .fz .non => true
  | _ => false
/-- behind a comprehension its own names are as they were -/
def back (S0 : S) (ws : List Nat) (S1 : S) : S := ws.foldl (fun T i => T.set i (S0.getD i .no)) S1

def tstC (r : Res (SV × S)) : Res (Bool × S) := tstOf r
mutual
def ev (fe : FE) : Ex → S → Res (SV × S)
  | .c v, S => .ok (.fz v, S)
  | .v i, S => match rd S i with
    | some x => .ok (x, S)
    | none => .no
  | .f i, S => match S[i]? with
    | some (.ow x) => .ok (.fz x.pv, S.set i (.ow (.fz x.pv)))
    | _ => .no
  | .bin o a b, S => (ev fe a S).bind fun p => (ev fe b p.2).bind fun q => (binop o p.1 q.1).noex.bind fun r => .ok (r, q.2)
  | .neg a, S => (ev fe a S).bind fun p => match p.1 with
    | .fz (.int i) => .ok (.fz (.int (-i)), p.2)
    | _ => .no
  | .cmp o a b, S => (ev fe a S).bind fun p => (ev fe b p.2).bind fun q => (cmpop o p.1.pv q.1.pv).noex.bind fun r => .ok (.fz r, q.2)
  | .isn p a, S => (ev fe a S).bind fun q => .ok (.fz (.bl (p == isNon q.1)), q.2)
  | .isi a ts, S => (ev fe a S).bind fun q => .ok (.fz (.bl (ts.any fun t => isTy t q.1.pv)), q.2)
  | .isx i cs, S => match S[i]? with
    | some (.xc x) => .ok (.fz (.bl (cs.contains x.c)), S)
    | _ => .no
  | .attx i k, S => match S[i]? with
    | some (.xc x) => match (x.ks.zip x.vs).lookup k with
      | some v => .ok (.fz v, S)
      | none => .no
    | _ => .no
  | .nott a, S => (tstOf (ev fe a S)).bind fun p => .ok (.fz (.bl (!p.1)), p.2)
  | .truth a, S => (ev fe a S).bind fun p => match tru p.1.pv with
    | some b => .ok (.fz (.bl b), p.2)
    | none => .no
  | .andd a b, S => (tstOf (ev fe a S)).bind fun p => match p.1 with
    | true => ev fe b p.2
    | false => .ok (.fz (.bl false), p.2)
  | .orr a b, S => (tstOf (ev fe a S)).bind fun p => match p.1 with
    | false => ev fe b p.2
    | true => .ok (.fz (.bl true), p.2)
  | .ife t a b, S => (tstOf (ev fe t S)).bind fun p => match p.1 with
    | true => valOf a (ev fe a p.2)
    | false => valOf b (ev fe b p.2)
  | .tup es, S => (evs fe es S).bind fun p => Res.guard (decide (p.1.length ≤ szLine)) (.ok (.fz (.tup (SV.pvs p.1)), p.2))
  | .lst es, S => (evs fe es S).bind fun p => Res.guard (decide (p.1.length ≤ szLine)) (.ok (.lst p.1, p.2))
  | .keep e, S => valOf e (ev fe e S)
  | .idx a i, S => (ev fe a S).bind fun p => (ev fe i p.2).bind fun q => match getIt p.1 q.1 with
    | some y => .ok (y, q.2)
    | none => .no
  | .sl a lo hi, S => (ev fe a S).bind fun p => (optOf lo (ev fe lo p.2)).bind fun l => (optOf hi (ev fe hi l.2)).bind fun h =>
    match cutIt l.1 h.1 p.1 with
    | some y => .ok (y, h.2)
    | none => .no
  | .rev a, S => (ev fe a S).bind fun p => match revIt p.1 with
    | some y => .ok (y, p.2)
    | none => .no
  | .call f es, S => (evA fe es S).bind fun p => (fe f p.1).bind fun r => .ok (r, p.2)
  | .bi b es, S => (evBs fe es S).bind fun p => (biop b p.1).noex.bind fun r => .ok (r, p.2)
  | .comp tg it cnd el ws, S => (evI fe it S).bind fun p =>
    (loopC tg ws (fun T => tstC (evC fe cnd T)) (fun T => elemOf el (ev fe el T)) p.1.1 (lendS p.2 p.1.2) []).noex.bind fun q => .ok (.lst q.1, takeS (back p.2 ws q.2) p.1.2)
/-- the elements of a display -/
def evs (fe : FE) : Exs → S → Res (List SV × S)
  | .nil, S => .ok ([], S)
  | .cons e es, S => (elemOf e (ev fe e S)).bind fun p => (evs fe es p.2).bind fun q => .ok (p.1 :: q.1, q.2)
/-- views of arguments -/
def evBs (fe : FE) : Exs → S → Res (List SV × S)
  | .nil, S => .ok ([], S)
  | .cons e es, S => (ev fe e S).bind fun p => (evBs fe es p.2).bind fun q => .ok (p.1 :: q.1, q.2)
/-- the arguments of a def -/
def evA (fe : FE) : Exs → S → Res (List Sl × S)
  | .nil, S => .ok ([], S)
  | .cons e es, S => (argOf e (ev fe e S)).bind fun p => (evA fe es p.2).bind fun q => .ok (p.1 :: q.1, q.2)
def evI (fe : FE) : It → S → Res ((List Itm × List (Nat × SV)) × S)
  | .ex e, S => (srOf e (ev fe e S)).bind fun p => match srcAt p.2 p.1 with
    | some s => .ok ((s.its.map .one, s.w), p.2)
    | none => .no
  | .r1 a, S => (ev fe a S).bind fun p => match asInt p.1.pv with
    | some n => Res.guard (r62 n) (.ok ((rangeL 0 n, []), p.2))
    | _ => .no
  | .r2 a b, S => (ev fe a S).bind fun p => (ev fe b p.2).bind fun q => match asInt p.1.pv, asInt q.1.pv with
    | some i, some n => Res.guard (r62 i && r62 n) (.ok ((rangeL i n, []), q.2))
    | _, _ => .no
  | .r3 a b c, S => (ev fe a S).bind fun p => (ev fe b p.2).bind fun q => (ev fe c q.2).bind fun r => match asInt p.1.pv, asInt q.1.pv, asInt r.1.pv with
    | some i, some n, some st => Res.guard (r62 i && r62 n && r62 st && st != 0) (.ok ((range3L i n st, []), r.2))
    | _, _, _ => .no
  | .zip a b, S => (srOf a (ev fe a S)).bind fun p => (srOf b (ev fe b p.2)).bind fun q => match srcAt q.2 p.1, srcAt q.2 q.1 with
    | some s, some t => Res.guard (s.k != 2 && t.k != 2) (.ok ((List.zipWith .two s.its t.its, s.w ++ t.w), q.2))
    | _, _ => .no
  | .enum a, S => (srOf a (ev fe a S)).bind fun p => match srcAt p.2 p.1 with
    | some s => Res.guard (s.k == 0) (.ok ((s.its.zipIdx.map fun x => .two (fzI (.int x.2)) x.1, s.w), p.2))
    | none => .no
  | .rev a, S => (srOf a (ev fe a S)).bind fun p => match srcAt p.2 p.1 with
    | some s => Res.guard (s.k != 2) (.ok ((s.its.reverse.map .one, s.w), p.2))
    | none => .no
/-- a comprehension's tests -/
def evC (fe : FE) : Exs → S → Res (SV × S)
  | .nil, S => .ok (.fz (.bl true), S)
  | .cons e _, S => ev fe e S
end

/-- a place: the slot and the way down -/
def getAt : List Int → SV → Option SV
  | [], x => some x
  | n :: r, .lst l => match ixP l.length n with
    | some j => match l[j]? with
      | some y => getAt r y
      | none => none
    | none => none
  | _, _ => none
def getO : Option Sl → List Int → Option SV
  | some (.ow x), ns => getAt ns x
  | _, _ => none
def asL : SV → Option (List SV)
  | .lst l => some l
  | _ => none
def getL (s : Option Sl) (ns : List Int) : Option (List SV) := (getO s ns).bind asL
def evP (fe : FE) : Pl → S → Res ((Nat × List Int) × S)
  | .v i, S => (Res.ofOpt (getL S[i]? [])).bind fun _ => .ok ((i, []), S)
  | .idx p e, S => (evP fe p S).bind fun q => (ev fe e q.2).bind fun r => (Res.ofOpt (asInt r.1.pv)).bind fun n =>
    (Res.ofOpt (getL r.2[q.1.1]? (q.1.2 ++ [n]))).bind fun _ => .ok ((q.1.1, q.1.2 ++ [n]), r.2)
def updAt (g : SV → Option SV) : List Int → SV → Option SV
  | [], x => g x
  | n :: r, .lst l => match ixP l.length n with
    | some j => match l[j]? with
      | some y => (updAt g r y).map fun z => .lst (l.set j z)
      | none => none
    | none => none
  | _, _ => none
def updS (S : S) (i : Nat) (ns : List Int) (g : SV → Option SV) : Res PL.S := match S[i]? with
  | some (.ow x) => match updAt g ns x with
    | some y => .ok (S.set i (.ow y))
    | none => .no
  | _ => .no
def gSet (n : Int) (v : SV) : SV → Option SV
  | .lst l => match ixP l.length n with
    | some j => some (.lst (l.set j v))
    | none => none
  | _ => none
def gApp (v : SV) : SV → Option SV
  | .lst l => if l.length < szLine then some (.lst (l ++ [v])) else none
  | _ => none
def gExt (vs : List SV) : SV → Option SV
  | .lst l => if l.length + vs.length ≤ szLine then some (.lst (l ++ vs)) else none
  | _ => none
def gPop : SV → Option SV
  | .lst l => if l.isEmpty then none else some (.lst l.dropLast)
  | _ => none
def lastOf : SV → Option SV
  | .lst l => l.getLast?
  | _ => none
def whFuel : Nat := 1000000000

def seqOut (o : Out) (f : S → Out) : Out := match o with
  | .nx S => f S
  | o => o
@[simp] theorem seqOut_nx (S : S) (f : PL.S → Out) : seqOut (.nx S) f = f S := rfl
@[simp] theorem seqOut_rt (v : SV) (f : PL.S → Out) : seqOut (.rt v) f = .rt v := rfl
@[simp] theorem seqOut_no (f : PL.S → Out) : seqOut .no f = .no := rfl
@[simp] theorem seqOut_bk (S : S) (f : PL.S → Out) : seqOut (.bk S) f = .bk S := rfl
@[simp] theorem seqOut_ct (S : S) (f : PL.S → Out) : seqOut (.ct S) f = .ct S := rfl
@[simp] theorem seqOut_ex (x : Exc) (S : S) (f : PL.S → Out) : seqOut (.ex x S) f = .ex x S := rfl

def inTg (i : Nat) : Tg → Bool
  | .nm j => i == j
  | .tp js => js.contains i
mutual
/-- may slot i be stored -/
def asg (i : Nat) : Sx → Bool
  | .asg j _ => i == j
  | .unp js _ => js.contains i
  | .par j k _ _ => i == j || i == k
  | .asgPop j _ => i == j
  | .iff _ a b => asgs i a || asgs i b
  | .whil _ b => asgs i b
  | .forr tg _ b => inTg i tg || asgs i b
  | .tryy b hs => asgs i b || asgH i hs
  | _ => false
def asgs (i : Nat) : Ss → Bool
  | .nil => false
  | .cons s ss => asg i s || asgs i ss
def asgH (i : Nat) : Hs → Bool
  | .nil => false
  | .cons _ nm b hs => nm == some i || asgs i b || asgH i hs
end
mutual
def exe (fe : FE) : Sx → S → Out
  | .asg i e, S => (valOf e (ev fe e S)).out S fun p => .nx (p.2.set i (.ow p.1))
  | .unp is e, S => (elemOf e (ev fe e S)).out S fun p => (setTg p.2 (.tp is) (.one (.ow p.1))).out S .nx
  | .par i j a b, S => (valOf a (ev fe a S)).out S fun p => (valOf b (ev fe b p.2)).out S fun q => .nx ((q.2.set i (.ow p.1)).set j (.ow q.1))
  | .setI p i e, S => (elemOf e (ev fe e S)).out S fun x => (evP fe p x.2).out S fun y => (ev fe i y.2).out S fun z => (Res.ofOpt (asInt z.1.pv)).out S fun n => (updS z.2 y.1.1 y.1.2 (gSet n x.1)).out S .nx
  | .app p e, S => (evP fe p S).out S fun y => (elemOf e (ev fe e y.2)).out S fun x => (updS x.2 y.1.1 y.1.2 (gApp x.1)).out S .nx
  | .ext p e, S => (evP fe p S).out S fun y => (ev fe e y.2).out S fun x => match x.1.pv with
    | .lst l => (updS x.2 y.1.1 y.1.2 (gExt (l.map .fz))).out S .nx
    | _ => .no
  | .pop p, S => (evP fe p S).out S fun y => (updS y.2 y.1.1 y.1.2 gPop).out S .nx
  | .asgPop i p, S => (evP fe p S).out S fun y => (Res.ofOpt ((getO y.2[y.1.1]? y.1.2).bind lastOf)).out S fun v => (updS y.2 y.1.1 y.1.2 gPop).out S fun S2 => .nx (S2.set i (.ow v))
  | .xpr e, S => (ev fe e S).out S fun p => .nx p.2
  | .iff t a b, S => (tstOf (ev fe t S)).out S fun p => match p.1 with
    | true => exes fe a p.2
    | false => exes fe b p.2
  | .whil t b, S => loopW (fun T => tstOf (ev fe t T)) (exes fe b) whFuel S
  | .forr tg it b, S => (evI fe it S).out S fun p => match p.1.2.all fun x => !asgs x.1 b && !inTg x.1 tg with
    | true => outTake (fun i => inTg i tg || asgs i b) p.1.2 (loopF tg (exes fe b) p.1.1 (lendS p.2 p.1.2))
    | false => .no
  | .ret e, S => (valOf e (ev fe e S)).out S fun p => .rt p.1
  | .retM i, S => match S[i]? with
    | some (.ow x) => .rt x
    | _ => .no
  | .retN, _ => .rt (.fz .non)
  | .brk, S => .bk S
  | .cnt, S => .ct S
  | .pass, S => .nx S
  | .rais c ks es, S => (evs fe es S).out S fun p => .ex ⟨c, ks, SV.pvs p.1⟩ (p.2.map dropOwn)
  | .tryy b hs, S => match exes fe b S with
    | .ex x S1 => exeH fe hs x S1
    | o => o
def exes (fe : FE) : Ss → S → Out
  | .nil, S => .nx S
  | .cons s ss, S => seqOut (exe fe s S) (exes fe ss)
def exeH (fe : FE) : Hs → Exc → S → Out
  | .nil, x, S => .ex x S
  | .cons cs nm b hs, x, S => match cs.contains x.c with
    | true => exes fe b (match nm with | some i => S.set i (.xc x) | none => S)
    | false => exeH fe hs x S
end

/-- a def -/
structure Fd where
  np : Nat
  nn : Nat
  body : Ss
def stS (d : Fd) (l : List Sl) : S := l ++ List.replicate (d.nn - l.length) .no
def fin : Out → Res SV
  | .nx _ => .ok (.fz .non)
  | .rt v => .ok v
  | .ex x _ => .ex x
  | _ => .no
/-- the defs, n calls deep -/
def FEn (P : Nat → Option Fd) : Nat → FE
  | 0 => fun _ _ => .no
  | n + 1 => fun f l => match P f with
    | some d => Res.guard (l.length == d.np) (fin (exes (FEn P n) d.body (stS d l)))
    | none => .no
end PL

namespace PL
open PySem PyProof.Rows
open L2 (V Hp HO SqL SqT upd Rd Cx PE PT PW PA PS PSs PG PI Ends VK XK WX TE TT TA TS)

section
variable (K : PySem.W.Frag)
mutual
/-- v is the tree t, all of it in F -/
inductive RF (F : Hp) : PV → V → Prop
  | non : RF F .non .non
  | bl (b : Bool) : RF F (.bl b) (.bl b)
  | int (i : Int) : RF F (.int i) (.int i)
  | str (x : Str) : RF F (.str x) (.str x)
  | tup {a : Addr} {l : List PV} {vs : List V} : SqT K F a vs → RFs F l vs → RF F (.tup l) (.ref a)
  | scr {a : Addr} {l : List Int} : SqL K F a (l.map V.int) → RF F (.scr l) (.ref a)
  | lst {a : Addr} {l : List PV} {vs : List V} : Rd F a (.lst vs) → RFs F l vs → RF F (.lst l) (.ref a)
inductive RFs (F : Hp) : List PV → List V → Prop
  | nil : RFs F [] []
  | cons {x : PV} {xs : List PV} {v : V} {vs : List V} : RF F x v → RFs F xs vs → RFs F (x :: xs) (v :: vs)
end
mutual
/-- v is the tree s: its frozen parts in F, its own lists at fp, in H -/
inductive Rp (F H : Hp) : SV → V → List Addr → Prop
  | fz {x : PV} {v : V} : RF K F x v → Rp F H (.fz x) v []
  | lst {a : Addr} {l : List SV} {vs : List V} {q : List Addr} : H a = some (.lst vs) → Rps F H l vs q → Rp F H (.lst l) (.ref a) (a :: q)
inductive Rps (F H : Hp) : List SV → List V → List Addr → Prop
  | nil : Rps F H [] [] []
  | cons {x : SV} {xs : List SV} {v : V} {vs : List V} {q r : List Addr} : Rp F H x v q → Rps F H xs vs r → Rps F H (x :: xs) (v :: vs) (q ++ r)
end
end

def Sub (F H : Hp) : Prop := ∀ a o, F a = some o → H a = some o
theorem Sub.refl {F : Hp} : Sub F F := fun _ _ h => h
theorem Sub.trans {F G H : Hp} (a : Sub F G) (b : Sub G H) : Sub F H := fun x o h => b x o (a x o h)
theorem Sub.nil_of {F H : Hp} (s : Sub F H) {a : Addr} (h : H a = none) : F a = none := by
  cases e : F a with
  | none => rfl
  | some o => rw [s a o e] at h; cases h
theorem Sub.new {H : Hp} {a : Addr} {o : HO} (h : H a = none) : Sub H (upd H a o) := fun b x e => by
  rw [L2.upd_ne (L2.ne_of_none e h)]; exact e
theorem Sub.both {F H : Hp} {a : Addr} {o : HO} (s : Sub F H) : Sub (L2.upd F a o) (L2.upd H a o) := fun b x e => by
  unfold L2.upd at *; split
  · rename_i h; rw [if_pos h] at e; exact e
  · rename_i h; rw [if_neg h] at e; exact s b x e
theorem Sub.outer {F H : Hp} {a : Addr} {o : HO} (s : Sub F H) (h : F a = none) : Sub F (L2.upd H a o) := fun b x e => by
  rw [L2.upd_ne (L2.ne_of_none e h)]; exact s b x e

section
variable {K : PySem.W.Frag} {F F' H H' : Hp}
theorem rd_mono (s : Sub F F') {a : Addr} {o : HO} (h : Rd F a o) : Rd F' a o := h.elim (fun e => .inl (s _ _ e)) fun ⟨x, e⟩ => .inr ⟨x, s _ _ e⟩
theorem sqL_mono (s : Sub F F') {a : Addr} {vs : List V} (h : SqL K F a vs) : SqL K F' a vs := h.elim (fun e => .inl (rd_mono s e)) .inr
theorem sqT_mono (s : Sub F F') {a : Addr} {vs : List V} (h : SqT K F a vs) : SqT K F' a vs := h.elim (fun e => .inl (rd_mono s e)) .inr
mutual
theorem RF.mono (s : Sub F F') : ∀ {x : PV} {v : V}, RF K F x v → RF K F' x v
  | _, _, .non => .non
  | _, _, .bl b => .bl b
  | _, _, .int i => .int i
  | _, _, .str x => .str x
  | _, _, .scr h => .scr (sqL_mono s h)
  | _, _, .tup h t => .tup (sqT_mono s h) (RFs.mono s t)
  | _, _, .lst h t => .lst (rd_mono s h) (RFs.mono s t)
theorem RFs.mono (s : Sub F F') : ∀ {x : List PV} {v : List V}, RFs K F x v → RFs K F' x v
  | _, _, .nil => .nil
  | _, _, .cons h t => .cons (RF.mono s h) (RFs.mono s t)
end
mutual
/-- the frozen part grows, the own lists stay -/
theorem Rp.mono (s : Sub F F') : ∀ {x : SV} {v : V} {q : List Addr}, Rp K F H x v q → (∀ a ∈ q, ∀ o, H a = some o → H' a = some o) → Rp K F' H' x v q
  | _, _, _, .fz h, _ => .fz (h.mono s)
  | _, _, _, .lst h t, k => .lst (k _ List.mem_cons_self _ h) (Rps.mono s t fun a ha => k a (List.mem_cons_of_mem _ ha))
theorem Rps.mono (s : Sub F F') : ∀ {x : List SV} {v : List V} {q : List Addr}, Rps K F H x v q → (∀ a ∈ q, ∀ o, H a = some o → H' a = some o) → Rps K F' H' x v q
  | _, _, _, .nil, _ => .nil
  | _, _, _, .cons h t, k => .cons (Rp.mono s h fun a ha => k a (List.mem_append_left _ ha)) (Rps.mono s t fun a ha => k a (List.mem_append_right _ ha))
end
theorem Rp.up (s : Sub F F') (t : Sub H H') {x : SV} {v : V} {q : List Addr} (h : Rp K F H x v q) : Rp K F' H' x v q := h.mono s fun a _ o e => t a o e
theorem Rps.up (s : Sub F F') (t : Sub H H') {x : List SV} {v : List V} {q : List Addr} (h : Rps K F H x v q) : Rps K F' H' x v q := h.mono s fun a _ o e => t a o e
mutual
/-- read in H, it is its tree -/
theorem Rp.rd (s : Sub F H) : ∀ {x : SV} {v : V} {q : List Addr}, Rp K F H x v q → RF K H x.pv v
  | _, _, _, .fz h => by show RF K H _ _; exact h.mono s
  | _, _, _, .lst h t => .lst (.inl h) (Rps.rd s t)
theorem Rps.rd (s : Sub F H) : ∀ {x : List SV} {v : List V} {q : List Addr}, Rps K F H x v q → RFs K H (SV.pvs x) v
  | _, _, _, .nil => .nil
  | _, _, _, .cons h t => .cons (Rp.rd s h) (Rps.rd s t)
end
mutual
theorem Rp.there : ∀ {x : SV} {v : V} {q : List Addr}, Rp K F H x v q → ∀ a ∈ q, H a ≠ none
  | _, _, _, .fz h, _, ha => by cases ha
  | _, _, _, .lst h t, a, ha => by
    rcases List.mem_cons.mp ha with e | ha
    · rw [e, h]; exact fun z => nomatch z
    · exact Rps.there t a ha
theorem Rps.there : ∀ {x : List SV} {v : List V} {q : List Addr}, Rps K F H x v q → ∀ a ∈ q, H a ≠ none
  | _, _, _, .nil, _, ha => by cases ha
  | _, _, _, .cons h t, a, ha => by
    rcases List.mem_append.mp ha with ha | ha
    · exact Rp.there h a ha
    · exact Rps.there t a ha
end
/-- F and the objects of H at q -/
def frz (F H : Hp) (q : List Addr) : Hp := fun a => if a ∈ q then H a else F a
theorem frz_in {q : List Addr} {a : Addr} (h : a ∈ q) : frz F H q a = H a := if_pos h
theorem frz_out {q : List Addr} {a : Addr} (h : a ∉ q) : frz F H q a = F a := if_neg h
theorem frz_sub (s : Sub F H) {q : List Addr} : Sub (frz F H q) H := fun a o e => by
  by_cases h : a ∈ q
  · rw [frz_in h] at e; exact e
  · rw [frz_out h] at e; exact s a o e
theorem sub_frz (s : Sub F H) {q : List Addr} : Sub F (frz F H q) := fun a o e => by
  by_cases h : a ∈ q
  · rw [frz_in h]; exact s a o e
  · rw [frz_out h]; exact e
mutual
theorem Rp.frz' (s : Sub F H) : ∀ {x : SV} {v : V} {q : List Addr} (p : List Addr), Rp K F H x v q → (∀ a ∈ q, a ∈ p) → RF K (frz F H p) x.pv v
  | _, _, _, _, .fz h, _ => h.mono (sub_frz s)
  | _, _, _, p, .lst h t, k => .lst (.inl (by rw [frz_in (k _ List.mem_cons_self)]; exact h)) (Rps.frz' s p t fun a ha => k a (List.mem_cons_of_mem _ ha))
theorem Rps.frz' (s : Sub F H) : ∀ {x : List SV} {v : List V} {q : List Addr} (p : List Addr), Rps K F H x v q → (∀ a ∈ q, a ∈ p) → RFs K (frz F H p) (SV.pvs x) v
  | _, _, _, _, .nil, _ => .nil
  | _, _, _, p, .cons h t, k => .cons (Rp.frz' s p h fun a ha => k a (List.mem_append_left _ ha)) (Rps.frz' s p t fun a ha => k a (List.mem_append_right _ ha))
end
theorem RFs.length : ∀ {x : List PV} {v : List V}, RFs K F x v → x.length = v.length
  | _, _, .nil => rfl
  | _, _, .cons _ t => by rw [List.length_cons, List.length_cons, RFs.length t]
theorem Rps.length : ∀ {x : List SV} {v : List V} {q : List Addr}, Rps K F H x v q → x.length = v.length
  | _, _, _, .nil => rfl
  | _, _, _, .cons _ t => by rw [List.length_cons, List.length_cons, Rps.length t]
theorem RFs.get : ∀ {x : List PV} {v : List V} {i : Nat} {y : PV}, RFs K F x v → x[i]? = some y → ∃ w, v[i]? = some w ∧ RF K F y w
  | _, _, _, _, .nil, e => by simp at e
  | _, _, 0, _, .cons h _, e => by simp at e; subst e; exact ⟨_, rfl, h⟩
  | _, _, i + 1, _, .cons _ t, e => by
    obtain ⟨w, h1, h2⟩ := RFs.get (i := i) t (by simpa using e)
    exact ⟨w, by simpa using h1, h2⟩
theorem RFs.get' : ∀ {x : List PV} {v : List V} {i : Nat} {w : V}, RFs K F x v → v[i]? = some w → ∃ y, x[i]? = some y ∧ RF K F y w
  | _, _, _, _, .nil, e => by simp at e
  | _, _, 0, _, .cons h _, e => by simp at e; subst e; exact ⟨_, rfl, h⟩
  | _, _, i + 1, _, .cons _ t, e => by
    obtain ⟨w, h1, h2⟩ := RFs.get' (i := i) t (by simpa using e)
    exact ⟨w, by simpa using h1, h2⟩
theorem RFs.append : ∀ {x y : List PV} {v w : List V}, RFs K F x v → RFs K F y w → RFs K F (x ++ y) (v ++ w)
  | _, _, _, _, .nil, s => s
  | _, _, _, _, .cons h t, s => .cons h (RFs.append t s)
theorem RFs.take : ∀ {x : List PV} {v : List V} (n : Nat), RFs K F x v → RFs K F (x.take n) (v.take n)
  | _, _, 0, _ => .nil
  | _, _, _ + 1, .nil => .nil
  | _, _, n + 1, .cons h t => .cons h (RFs.take n t)
theorem RFs.drop : ∀ {x : List PV} {v : List V} (n : Nat), RFs K F x v → RFs K F (x.drop n) (v.drop n)
  | _, _, 0, h => h
  | _, _, _ + 1, .nil => .nil
  | _, _, n + 1, .cons _ t => RFs.drop n t
theorem RFs.reverse : ∀ {x : List PV} {v : List V}, RFs K F x v → RFs K F x.reverse v.reverse
  | _, _, .nil => .nil
  | _, _, .cons h t => by rw [List.reverse_cons, List.reverse_cons]; exact (RFs.reverse t).append (.cons h .nil)
theorem RFs.rep {x : List PV} {v : List V} (h : RFs K F x v) : ∀ k : Nat, RFs K F (List.replicate k x).flatten (List.replicate k v).flatten
  | 0 => .nil
  | k + 1 => by
    rw [List.replicate_succ, List.replicate_succ, List.flatten_cons, List.flatten_cons]
    exact h.append (RFs.rep h k)
/-- frozen items, as items -/
theorem RFs.rps : ∀ {x : List PV} {v : List V}, RFs K F x v → Rps K F H (x.map .fz) v []
  | _, _, .nil => .nil
  | _, _, .cons h t => by
    have := Rps.cons (Rp.fz (H := H) h) (RFs.rps t)
    exact this
theorem Rps.get : ∀ {x : List SV} {v : List V} {q : List Addr} {i : Nat} {y : SV}, Rps K F H x v q → x[i]? = some y → ∃ w r, v[i]? = some w ∧ Rp K F H y w r ∧ ∀ a ∈ r, a ∈ q
  | _, _, _, _, _, .nil, e => by simp at e
  | _, _, _, 0, _, .cons h _, e => by simp at e; subst e; exact ⟨_, _, rfl, h, fun a ha => List.mem_append_left _ ha⟩
  | _, _, _, i + 1, _, .cons _ t, e => by
    obtain ⟨w, r, h1, h2, h3⟩ := Rps.get (i := i) t (by simpa using e)
    exact ⟨w, r, by simpa using h1, h2, fun a ha => List.mem_append_right _ (h3 a ha)⟩
theorem Rps.get' : ∀ {x : List SV} {v : List V} {q : List Addr} {i : Nat} {w : V}, Rps K F H x v q → v[i]? = some w → ∃ y r, x[i]? = some y ∧ Rp K F H y w r ∧ ∀ a ∈ r, a ∈ q
  | _, _, _, _, _, .nil, e => by simp at e
  | _, _, _, 0, _, .cons h _, e => by simp at e; subst e; exact ⟨_, _, rfl, h, fun a ha => List.mem_append_left _ ha⟩
  | _, _, _, i + 1, _, .cons _ t, e => by
    obtain ⟨w, r, h1, h2, h3⟩ := Rps.get' (i := i) t (by simpa using e)
    exact ⟨w, r, by simpa using h1, h2, fun a ha => List.mem_append_right _ (h3 a ha)⟩
theorem Rps.append : ∀ {x y : List SV} {v w : List V} {q r : List Addr}, Rps K F H x v q → Rps K F H y w r → Rps K F H (x ++ y) (v ++ w) (q ++ r)
  | _, _, _, _, _, _, .nil, s => s
  | _, _, _, _, _, _, .cons h t, s => by
    have := Rps.cons h (Rps.append t s)
    rw [← List.append_assoc] at this
    exact this
theorem Rp.fz_inv {x : PV} {v : V} {q : List Addr} (h : Rp K F H (.fz x) v q) : RF K F x v ∧ q = [] := by cases h with | fz h => exact ⟨h, rfl⟩
theorem allFz_some : ∀ {l : List SV} {ys : List PV}, allFz l = some ys → l = ys.map .fz
  | [], ys, h => by cases h; rfl
  | .fz v :: r, ys, h => by
    unfold allFz at h
    cases e : allFz r with
    | none => rw [e] at h; cases h
    | some zs => rw [e] at h; cases h; rw [allFz_some e]; rfl
  | .lst _ :: r, ys, h => by cases h
  | .obj _ _ _ :: r, ys, h => by cases h
theorem Rps.fz : ∀ {l : List PV} {v : List V} {q : List Addr}, Rps K F H (l.map .fz) v q → RFs K F l v ∧ q = []
  | [], _, _, h => by cases h; exact ⟨.nil, rfl⟩
  | x :: xs, _, _, h => by
    cases h with
    | cons h t =>
      obtain ⟨h1, e1⟩ := h.fz_inv
      obtain ⟨h2, e2⟩ := Rps.fz t
      exact ⟨.cons h1 h2, by rw [e1, e2]; rfl⟩
theorem pvs_map (l : List PV) : SV.pvs (l.map .fz) = l := by
  induction l with
  | nil => rfl
  | cons x xs ih => show _ :: _ = _; rw [ih]; rfl
theorem pvs_eq (l : List SV) : SV.pvs l = l.map SV.pv := by
  induction l with
  | nil => rfl
  | cons x xs ih => show _ :: _ = _; rw [ih]; rfl
end
end PL

namespace PL
open PySem PyProof.Rows
open L2 (V Hp HO SqL SqT upd Rd Cx PE PT PW PA PS PSs PG PI Ends VK XK WX TE TT TA TS)

abbrev FP := Nat → List Addr
section
variable (K : PySem.W.Frag)
/-- a slot's content -/
def SlO (xr : Exc → V → Hp → Prop) (F H : Hp) (x : Sl) (o : Option (Option V)) (fp bq : List Addr) : Prop := match x with
  | .no => fp = [] ∧ bq = []
  | .ow s => bq = [] ∧ ∃ v, o = some (some v) ∧ Rp K F H s v fp
  | .bw s => fp = [] ∧ ∃ v, o = some (some v) ∧ Rp K F H s v bq
  | .xc x => (fp = [] ∧ bq = []) ∧ ∃ v, o = some (some v) ∧ xr x v F
structure Good (xr : Exc → V → Hp → Prop) (F H : Hp) (S : PL.S) (σ : L2.St) (fp bq : FP) : Prop where
  sub : Sub F H
  len : S.length = σ.length
  sl : ∀ i x, S[i]? = some x → SlO K xr F H x (σ[i]?) (fp i) (bq i)
  out : ∀ i, S.length ≤ i → fp i = [] ∧ bq i = []
  nd : ∀ i, (fp i).Nodup
  dj : ∀ i j a, a ∈ fp i → a ∈ fp j → i = j
  fr : ∀ i a, a ∈ fp i → F a = none
  db : ∀ i j a, a ∈ bq i → a ∉ fp j
end
/-- what may be newly frozen -/
def Fz (F H F' : Hp) (fp : FP) : Prop := ∀ a, F a = none → F' a ≠ none → H a = none ∨ ∃ i, a ∈ fp i
structure Ext (F H F' H' : Hp) (fp fp' : FP) : Prop where
  f : Sub F F'
  h : Sub H H'
  new : Fz F H F' fp
  own : ∀ i a, a ∈ fp' i → a ∈ fp i
def Own (F H : Hp) (fp bq : FP) (q : List Addr) : Prop := q.Nodup ∧ ∀ a ∈ q, F a = none ∧ H a ≠ none ∧ ∀ i, a ∉ fp i ∧ a ∉ bq i
def NewIn (H : Hp) (q : List Addr) : Prop := ∀ a ∈ q, H a = none
theorem Ext.refl {F H : Hp} {fp : FP} : Ext F H F H fp fp := ⟨Sub.refl, Sub.refl, fun a h h' => absurd h h', fun _ _ h => h⟩
theorem Fz.trans {F H F' H' F'' : Hp} {fp fp' : FP} (e : Ext F H F' H' fp fp') (n : Fz F' H' F'' fp') : Fz F H F'' fp := fun a h1 h2 => by
  cases h3 : F' a with
  | some o => exact e.new a h1 (by rw [h3]; exact fun z => nomatch z)
  | none =>
    rcases n a h3 h2 with q | ⟨i, q⟩
    · exact .inl (e.h.nil_of q)
    · exact .inr ⟨i, e.own i a q⟩
theorem Ext.trans {F H F' H' F'' H'' : Hp} {fp fp' fp'' : FP} (e : Ext F H F' H' fp fp') (d : Ext F' H' F'' H'' fp' fp'') : Ext F H F'' H'' fp fp'' :=
  ⟨e.f.trans d.f, e.h.trans d.h, Fz.trans e d.new, fun i a h => e.own i a (d.own i a h)⟩
theorem NewIn.back {H H' : Hp} {q : List Addr} (e : Sub H H') (n : NewIn H' q) : NewIn H q := fun a ha => e.nil_of (n a ha)
theorem Own.keep {F H F' H' : Hp} {fp fp' bq : FP} {q : List Addr} (e : Ext F H F' H' fp fp') (o : Own F H fp bq q) : Own F' H' fp' bq q := ⟨o.1, fun a ha => by
  obtain ⟨h1, h2, h3⟩ := o.2 a ha
  refine ⟨?_, fun z => h2 (e.h.nil_of z), fun i => ⟨fun z => (h3 i).1 (e.own i a z), (h3 i).2⟩⟩
  cases z : F' a with
  | none => rfl
  | some u =>
    rcases e.new a h1 (by rw [z]; exact fun z => nomatch z) with q | ⟨i, q⟩
    · exact absurd q h2
    · exact absurd q (h3 i).1⟩
theorem Own.nil {F H : Hp} {fp bq : FP} : Own F H fp bq [] := ⟨.nil, fun _ h => nomatch h⟩
theorem NewIn.nil {H : Hp} : NewIn H [] := fun _ h => nomatch h
theorem Own.append {F H H' F' : Hp} {fp fp' bq : FP} {q r : List Addr} (o : Own F H fp bq q) (e : Ext F H F' H' fp fp') (n : NewIn H r) (o' : Own F' H' fp' bq r) : Own F' H' fp' bq (q ++ r) := by
  have k := o.keep e
  refine ⟨List.nodup_append.mpr ⟨o.1, o'.1, fun a ha b hb z => ?_⟩, fun a ha => ?_⟩
  · subst z
    exact (o.2 a ha).2.1 (n a hb)
  · rcases List.mem_append.mp ha with ha | ha
    · exact k.2 a ha
    · exact o'.2 a ha
theorem NewIn.append {H : Hp} {q r : List Addr} (n : NewIn H q) (m : NewIn H r) : NewIn H (q ++ r) := fun a ha => by
  rcases List.mem_append.mp ha with ha | ha
  · exact n a ha
  · exact m a ha

section
variable {K : PySem.W.Frag} {xr : Exc → V → Hp → Prop} {xd : Exc → Value → Option Addr → Hp → Prop} {W : WX} {σ : L2.St} {F H F' H' : Hp} {S S' : PL.S} {fp fp' bq : FP}

/-- what is wanted of an exception -/
def WEx (xd : Exc → Value → Option Addr → Hp → Prop) (W : WX) (σ : L2.St) (F H : Hp) (fp : FP) (x : Exc) : Prop :=
  ∀ F' H' cls d, Sub F F' → Sub H H' → Sub F' H' → Fz F H F' fp → xd x cls d F' → W cls d σ H'
/-- what is wanted of a result: Rel tells what the machine's thing β is to the interpreter's α -/
def Want {α β : Type} (K : PySem.W.Frag) (xr : Exc → V → Hp → Prop) (xd : Exc → Value → Option Addr → Hp → Prop) (W : WX) (σ : L2.St) (F H : Hp) (fp bq : FP)
    (Rel : Hp → Hp → FP → α → β → Prop) (r : Res (α × PL.S)) (Q : β → Hp → Prop) : Prop := match r with
  | .no => False
  | .ok p => ∀ F' H' fp' b, Good K xr F' H' p.2 σ fp' bq → Ext F H F' H' fp fp' → Rel F' H' fp' p.1 b → Q b H'
  | .ex x => WEx xd W σ F H fp x
/-- a value, a view -/
def RelV' (K : PySem.W.Frag) (H₀ : Hp) (fp₀ bq : FP) (path : Bool) (F H : Hp) (fp : FP) (s : SV) (v : V) : Prop :=
  ∃ q, Rp K F H s v q ∧ (path = false → Own F H fp bq q ∧ NewIn H₀ q) ∧ ∀ a ∈ q, H₀ a = none ∨ ∃ i, a ∈ fp₀ i ∨ a ∈ bq i
theorem WEx.shift {x : Exc} (e : Ext F H F' H' fp fp') (w : WEx xd W σ F H fp x) : WEx xd W σ F' H' fp' x :=
  fun F2 H2 c d s1 s2 s3 n r => w F2 H2 c d (e.f.trans s1) (e.h.trans s2) s3 (Fz.trans e n) r
theorem RelV'.back {s : SV} {v : V} {path : Bool} {F2 H2 : Hp} {fp2 : FP} (e : Ext F H F' H' fp fp') (r : RelV' K H' fp' bq path F2 H2 fp2 s v) : RelV' K H fp bq path F2 H2 fp2 s v := by
  obtain ⟨q, r, o, n⟩ := r
  refine ⟨q, r, fun h => ⟨(o h).1, (o h).2.back e.h⟩, fun a ha => ?_⟩
  rcases n a ha with z | ⟨i, z | z⟩
  · exact .inl (e.h.nil_of z)
  · exact .inr ⟨i, .inl (e.own i a z)⟩
  · exact .inr ⟨i, .inr z⟩
theorem RelV'.fz0 {x : PV} {v : V} {path : Bool} {F2 H2 : Hp} {fp2 : FP} (r : RF K F2 x v) : RelV' K H fp bq path F2 H2 fp2 (.fz x) v :=
  ⟨[], .fz r, fun _ => ⟨.nil, .nil⟩, fun _ h => nomatch h⟩
/-- a relation may be seen from an earlier state -/
theorem Want.shift {α β : Type} {Rel Rel' : Hp → Hp → FP → α → β → Prop} {r : Res (α × PL.S)} {Q : β → Hp → Prop} (e : Ext F H F' H' fp fp')
    (hr : ∀ F2 H2 fp2 a b, Rel' F2 H2 fp2 a b → Rel F2 H2 fp2 a b) (w : Want K xr xd W σ F H fp bq Rel r Q) : Want K xr xd W σ F' H' fp' bq Rel' r Q := by
  cases r with
  | no => exact w
  | ex x => exact WEx.shift e w
  | ok p => exact fun F2 H2 fp2 b G E R => w F2 H2 fp2 b G (e.trans E) (hr _ _ _ _ _ R)
/-- THE STEP: behind r comes f -/
theorem Want.bind {α β γ δ : Type} {RelA : Hp → Hp → FP → α → β → Prop} {RelB : Hp → Hp → FP → γ → δ → Prop} {r : Res (α × PL.S)} {f : α × PL.S → Res (γ × PL.S)} {Q : β → Hp → Prop} {R : δ → Hp → Prop}
    (w : Want K xr xd W σ F H fp bq RelB (r.bind f) R)
    (k : ∀ p F' H' fp' b, Good K xr F' H' p.2 σ fp' bq → Ext F H F' H' fp fp' → RelA F' H' fp' p.1 b → Want K xr xd W σ F H fp bq RelB (f p) R → Q b H') :
    Want K xr xd W σ F H fp bq RelA r Q := by
  cases r with
  | no => exact w
  | ex x => exact w
  | ok p => exact fun F' H' fp' b G E R => k p F' H' fp' b G E R w
end

/-- what stays fixed in a def's body -/
structure Ct where
  X : Cx
  xr : Exc → V → Hp → Prop
  xd : Exc → Value → Option Addr → Hp → Prop
  W : WX
  fe : FE
  g : Bool
/-- an expression -/
def SE (C : Ct) (e : Ex) (pe : Expr) : Prop := ∃ t, PE C.X pe t ∧ ∀ σ H Q F S fp bq, Good C.X.K C.xr F H S σ fp bq →
  Want C.X.K C.xr C.xd C.W σ F H fp bq (RelV' C.X.K H fp bq (isPath e)) (ev C.fe e S) Q → t σ H Q
/-- .. as a test -/
def SB (C : Ct) (e : Ex) (pe : Expr) : Prop := ∃ t, PT C.X pe t ∧ ∀ σ H Q F S fp bq, Good C.X.K C.xr F H S σ fp bq →
  Want C.X.K C.xr C.xd C.W σ F H fp bq (fun _ _ _ (a b : Bool) => a = b) (tstOf (ev C.fe e S)) Q → t σ H Q

section
variable {C : Ct} {pos : Pos}

theorem se_const {e : Ex} {pv : PV} {v : V} {pe : Expr} (h1 : ∀ S, ev C.fe e S = .ok (.fz pv, S)) (h2 : isPath e = false) (h3 : ∀ F, RF C.X.K F pv v) (hp : PE C.X pe (L2.tC v)) : SE C e pe := by
  refine ⟨_, hp, fun σ H Q F S fp bq G w => ?_⟩
  rw [h1] at w
  exact w F H fp v G .refl (.fz0 (h3 F))
theorem se_int {i : Int} {k : Nat} : SE C (.c (.int i)) (.Constant (.int i) k pos) := se_const (fun _ => rfl) rfl (fun _ => .int i) L2.pe_int
theorem se_bl {b : Bool} {k : Nat} : SE C (.c (.bl b)) (.Constant (.bool b) k pos) := se_const (fun _ => rfl) rfl (fun _ => .bl b) L2.pe_bl
theorem se_non {k : Nat} : SE C (.c .non) (.Constant .none k pos) := se_const (fun _ => rfl) rfl (fun _ => .non) L2.pe_non
theorem se_str {x : Str} {k : Nat} : SE C (.c (.str x)) (.Constant (.str x) k pos) := se_const (fun _ => rfl) rfl (fun _ => .str x) L2.pe_str

theorem Good.rd {K : PySem.W.Frag} {xr : Exc → V → Hp → Prop} {F H : Hp} {S : PL.S} {σ : L2.St} {fp bq : FP} (G : Good K xr F H S σ fp bq) {i : Nat} {x : SV} (h : rd S i = some x) : ∃ v q, σ[i]? = some (some v) ∧ Rp K F H x v q ∧ ∀ a ∈ q, a ∈ fp i ∨ a ∈ bq i := by
  unfold PL.rd at h
  cases e : S[i]? with
  | none => rw [e] at h; cases h
  | some y =>
    have g := G.sl i y e
    rw [e] at h
    cases y with
    | no => cases h
    | xc x => cases h
    | ow s => cases h; obtain ⟨_, v, h1, h2⟩ := g; exact ⟨v, _, h1, h2, fun a h => .inl h⟩
    | bw s => cases h; obtain ⟨_, v, h1, h2⟩ := g; exact ⟨v, _, h1, h2, fun a h => .inr h⟩
theorem se_v {i : Nat} {x : Str} (hN : C.X.N[i]? = some x) (hv : L2.Vis C.X.env.scope x) (hd : (x == ("__debug__" : Str)) = false) (hc : (x == ("__classdict__" : Str)) = false) : SE C (.v i) (.Name x pos) := by
  refine ⟨_, L2.pe_var hN hv hd hc, fun σ H Q F S fp bq G w => ?_⟩
  unfold ev at w
  cases e : rd S i with
  | none => rw [e] at w; exact w.elim
  | some s =>
    rw [e] at w
    obtain ⟨v, q, h1, h2, h3⟩ := G.rd e
    exact ⟨v, h1, w F H fp v G .refl ⟨q, h2, fun h => (nomatch h), fun a ha => .inr ⟨i, h3 a ha⟩⟩⟩
/-- slot i is emptied (its list goes to a value), or frozen -/
def clr (fp : FP) (i : Nat) : FP := fun j => if j = i then [] else fp j
theorem clr_mem {fp : FP} {i j : Nat} {a : Addr} (h : a ∈ clr fp i j) : a ∈ fp j ∧ j ≠ i := by
  unfold clr at h
  by_cases e : j = i
  · rw [if_pos e] at h; cases h
  · rw [if_neg e] at h; exact ⟨h, e⟩
theorem SlO.up {K : PySem.W.Frag} {xr : Exc → V → Hp → Prop} (hx : ∀ x v F F', Sub F F' → xr x v F → xr x v F') {F H F' H' : Hp} {x : Sl} {o : Option (Option V)} {p b : List Addr} (sf : Sub F F') (sh : ∀ a, (a ∈ p ∨ a ∈ b) → ∀ u, H a = some u → H' a = some u) (g : SlO K xr F H x o p b) : SlO K xr F' H' x o p b := by
  cases x with
  | no => exact g
  | ow s => obtain ⟨h0, v, h1, h2⟩ := g; exact ⟨h0, v, h1, h2.mono sf fun a ha u e => sh a (.inl ha) u e⟩
  | bw s => obtain ⟨h0, v, h1, h2⟩ := g; exact ⟨h0, v, h1, h2.mono sf fun a ha u e => sh a (.inr ha) u e⟩
  | xc x => obtain ⟨h0, v, h1, h2⟩ := g; exact ⟨h0, v, h1, hx _ _ _ _ sf h2⟩
theorem Good.clr {K : PySem.W.Frag} {xr : Exc → V → Hp → Prop} {F H : Hp} {S : PL.S} {σ : L2.St} {fp bq : FP} (G : Good K xr F H S σ fp bq) (hx : ∀ x v F F', Sub F F' → xr x v F → xr x v F') (i : Nat) {F' : Hp} (sf : Sub F F') (sh : Sub F' H)
    (hn : ∀ a, F a = none → F' a ≠ none → a ∈ fp i) {y : Sl} (hy : SlO K xr F' H y (σ[i]?) [] (bq i)) : Good K xr F' H (S.set i y) σ (PL.clr fp i) bq := by
  refine ⟨sh, by rw [List.length_set]; exact G.len, fun j x e => ?_, fun j h => ?_, fun j => ?_, fun j k a h1 h2 => G.dj j k a (clr_mem h1).1 (clr_mem h2).1, fun j a h => ?_, fun j k a h1 h2 => G.db j k a h1 (clr_mem h2).1⟩
  · by_cases hj : j = i
    · subst hj
      rw [List.getElem?_set_self' ] at e
      cases q : S[j]? with
      | none => rw [q] at e; cases e
      | some z =>
        rw [q] at e
        cases e
        unfold PL.clr
        rw [if_pos rfl]
        exact hy
    · rw [List.getElem?_set_ne (Ne.symm hj)] at e
      have g := G.sl j x e
      unfold PL.clr
      rw [if_neg hj]
      exact g.up hx sf fun _ _ _ h => h
  · rw [List.length_set] at h
    unfold PL.clr
    by_cases e : j = i
    · rw [if_pos e]; exact ⟨rfl, (G.out j h).2⟩
    · rw [if_neg e]; exact G.out j h
  · unfold PL.clr
    by_cases e : j = i
    · rw [if_pos e]; exact .nil
    · rw [if_neg e]; exact G.nd j
  · obtain ⟨h1, h2⟩ := clr_mem h
    cases z : F' a with
    | none => rfl
    | some o =>
      have := hn a (G.fr j a h1) (by rw [z]; exact fun z => nomatch z)
      exact absurd (G.dj j i a h1 this) h2
theorem frz_new {F H : Hp} {q : List Addr} {a : Addr} (h1 : F a = none) (h2 : frz F H q a ≠ none) : a ∈ q := by
  by_cases h : a ∈ q
  · exact h
  · rw [frz_out h] at h2; exact absurd h1 h2
structure CtOk (C : Ct) : Prop where
  xr : ∀ x v F F', Sub F F' → C.xr x v F → C.xr x v F'
theorem se_f (ok : CtOk C) {i : Nat} {x : Str} (hN : C.X.N[i]? = some x) (hv : L2.Vis C.X.env.scope x) (hd : (x == ("__debug__" : Str)) = false) (hc : (x == ("__classdict__" : Str)) = false) : SE C (.f i) (.Name x pos) := by
  refine ⟨_, L2.pe_var hN hv hd hc, fun σ H Q F S fp bq G w => ?_⟩
  unfold ev at w
  cases e : S[i]? with
  | none => rw [e] at w; exact w.elim
  | some y =>
    rw [e] at w
    cases y with
    | no => exact w.elim
    | bw s => exact w.elim
    | xc s => exact w.elim
    | ow s =>
      obtain ⟨h0, v, h1, h2⟩ := G.sl i _ e
      have r : RF C.X.K (frz F H (fp i)) s.pv v := h2.frz' G.sub (fp i) fun _ h => h
      exact ⟨v, h1, w (frz F H (fp i)) H (clr fp i) v (G.clr ok.xr i (sub_frz G.sub) (frz_sub G.sub) (fun a ha hb => frz_new ha hb) ⟨h0, v, h1, .fz r⟩) ⟨sub_frz G.sub, .refl, fun a ha hb => .inr ⟨i, frz_new ha hb⟩, fun j a h => (clr_mem h).1⟩ (.fz0 r)⟩
end
end PL

namespace L2
open PySem PySem.Spec PyProof.Rows
section
variable {X : Cx}
theorem rdL {P : Program} {w : World} {H : Hp} {h : Heap} {a : Addr} {xs : List V} (r : Rd H a (.lst xs)) (x : HOk P w H h) : xs.length ≤ sizeLine ∧ ∃ (its : List Value) (n : Nat), Vals xs its ∧ xs.length = its.length ∧ h.get? a = some { cls := .type "list", data := .seq its.toArray n } := by
  obtain ⟨z, its, n, q, e⟩ := r.ok x
  exact ⟨z, its, n, q, q.length, e⟩
def rCatR : R2 := fun x y H Q => ∃ l b xs zs, x = .ref l ∧ y = .ref b ∧ Rd H l (.lst xs) ∧ Rd H b (.lst zs) ∧ xs.length + zs.length ≤ sizeLine ∧ ∀ p, H p = none → Q (.ref p) (upd H p (.lst (xs ++ zs)))
theorem op_catR : OpR X (binaryOp .Add) rCatR := by
  intro pins s σ H x y v u Q I rx ry h
  obtain ⟨l, b, xs, zs, rfl, rfl, hH, hB, hz, q⟩ := h
  cases rx
  cases ry
  obtain ⟨z, its, n, r, hl, e⟩ := rdL hH I.hok
  obtain ⟨z2, its2, n2, r2, hl2, e2⟩ := rdL hB I.hok
  refine PySem.P.add_list e e2 ?_ (by rw [List.size_toArray, List.size_toArray]; omega)
  have ea : its.toArray ++ its2.toArray = (its ++ its2).toArray := by simp
  rw [ea]
  exact ⟨.ref _, _, I.lnew (t' := s.toks) (r.append r2) (by rw [List.length_append]; omega), rfl, q _ I.fresh⟩
def rRepR : R2 := fun x y H Q => ∃ l k xs, x = .ref l ∧ y = .int k ∧ Rd H l (.lst xs) ∧ -(2 ^ 63) ≤ k ∧ k < 2 ^ 63 ∧ xs.length * k.toNat ≤ sizeLine ∧
  ∀ p, H p = none → Q (.ref p) (upd H p (.lst (List.replicate k.toNat xs).flatten))
theorem op_repR : OpR X (binaryOp .Mult) rRepR := by
  intro pins s σ H x y v u Q I rx ry h
  obtain ⟨l, k, xs, rfl, rfl, hH, h1, h2, hz, q⟩ := h
  cases rx
  obtain ⟨t, rfl⟩ := ry
  obtain ⟨z, its, n, r, hl, e⟩ := rdL hH I.hok
  have hlen : its.toArray.size * k.toNat ≤ sizeLine := by rw [List.size_toArray, ← hl]; exact hz
  have hcap : ¬ its.toArray.size * k.toNat > (2 ^ 63 - 1) / 8 := by
    have : (sizeLine : Nat) ≤ (2 ^ 63 - 1) / 8 := by decide
    omega
  have hfit : ¬ (!Builtin.List.listFitsIndex k) = true := by
    rw [fitsIndex_both h1 h2]
    exact Bool.false_ne_true
  have hlong : ¬ Builtin.List.listTooLong (its.toArray.size * k.toNat) = true := by
    rw [notLongL hlen]
    exact Bool.false_ne_true
  have hnew : List.foldl (fun x1 x2 => x1 ++ x2) #[] (List.replicate (if its.toArray.isEmpty = true then 0 else k.toNat) its.toArray) = (List.replicate k.toNat its).flatten.toArray := by
    have f0 : ∀ m : Nat, List.foldl (fun x1 x2 => x1 ++ x2) #[] (List.replicate m its.toArray) = (List.replicate m its).flatten.toArray := fun m => by
      have := foldl_rep its m []
      rw [List.nil_append] at this
      exact this
    rw [f0]
    cases its with
    | nil => simp
    | cons a r' => rw [if_neg (by simp)]
  refine wpAny_binaryOp_repeat_ref (T := "list") (U := "int") (by decide) ⟨_, e, rfl⟩ (fun s' => typeIs_int s' k t) noFill_list_mul F.fills_int_mul F.slot_int_rmul repeat_list F.slot_int_index.lookup
    (call_meets F.slot_int_rmul (typeIs_int s k t) F.entry_int_rmul (F.args_int_rmul_2 _ _) (int___rmul___int_list k t l its.toArray n)
      ⟨e, rfl, ⟨_, e, rfl⟩, call_meets F.slot_list_mul ⟨_, e, rfl⟩ F.entry_list_mul (F.args_list_mul_2 _ _) (AutoListH.list___mul___list_int_3 l its.toArray n k t hfit hcap hlong) ⟨e, ?_⟩⟩)
  rw [hnew]
  exact ⟨.ref _, _, I.lnew (t' := s.toks) (r.rep k.toNat) (by rw [PyProof.Rows.lm_len_rep_flat, Nat.mul_comm]; exact hz), rfl, q _ I.fresh⟩
/-- * of ints together below a hundred million bits -/
def CMulB (i j : Int) : Prop := i.natAbs.log2 + j.natAbs.log2 < 100000000
theorem CMulB.ok {i j : Int} (h : CMulB i j) : IntMulOk i j := by
  have b : ∀ x : Int, Builtin.Int.intBits x ≤ x.natAbs.log2 + 1 := fun x => by
    unfold Builtin.Int.intBits
    split <;> omega
  have h1 := b i
  have h2 := b j
  have h3 : i.natAbs.log2 + j.natAbs.log2 < 100000000 := h
  have e : bitsLine = 134217728 := by decide
  unfold IntMulOk
  intro z
  rw [Bool.and_eq_true] at z
  have z2 := z.2
  unfold Builtin.Int.intTooBig at z2
  have z3 := of_decide_eq_true z2
  rw [e] at z3
  omega
theorem op_mulB : OpR X (binaryOp .Mult) (rI CMulB fun i j => .int (i * j)) := opI fun _ _ _ _ _ _ _ hc q => mul_int q hc.ok
theorem op_fdivB : OpR X (binaryOp .FloorDiv) (rI (fun _ j => j ≠ 0 ∧ j.natAbs.log2 < 9000) fun i j => .int (i.fdiv j)) := opI fun i j _ _ _ _ _ hc q => floordiv_int hc.1 q (.inl (PyProof.noPylong_of_log2 hc.2))
end
end L2
namespace PL
open PySem PyProof.Rows
open L2 (V Hp HO SqL SqT upd Rd Cx PE PT PW PA PS PSs PG PI Ends VK XK WX TE TT TA TS OpR R2)

theorem szLine_eq : szLine = sizeLine := by rw [sizeLine_eq]; rfl
section
variable {K : PySem.W.Frag}
/-- a new thing, made of what is read -/
structure Made (K : PySem.W.Frag) (F H : Hp) (s : SV) (F' H' : Hp) (v : V) : Prop where
  f : Sub F F'
  h : Sub H H'
  sub : Sub F' H'
  new : ∀ a, F a = none → F' a ≠ none → H a = none
  rel : ∃ q, Rp K F' H' s v q ∧ q.Nodup ∧ ∀ a ∈ q, H a = none ∧ F' a = none
theorem Made.here {F H : Hp} (s : Sub F H) {x : PV} {v : V} (r : RF K F x v) : Made K F H (.fz x) F H v := ⟨.refl, .refl, s, fun a h h' => absurd h h', [], .fz r, .nil, fun _ h => nomatch h⟩
/-- a scalar -/
theorem Made.sc {F H : Hp} (s : Sub F H) {x : PV} {v : V} (r : ∀ F, RF K F x v) : Made K F H (.fz x) F H v := .here s (r F)
theorem Made.tup {F H : Hp} (s : Sub F H) {l : List PV} {vs : List V} {p : Addr} (hp : H p = none) (r : RFs K F l vs) : Made K F H (.fz (.tup l)) (upd F p (.tup vs)) (upd H p (.tup vs)) (.ref p) :=
  ⟨.new (s.nil_of hp), .new hp, s.both, fun a h h' => by
    by_cases e : a = p
    · rw [e]; exact hp
    · rw [L2.upd_ne e] at h'; exact absurd h h', [], .fz (.tup (.inl (.inl L2.upd_same)) (r.mono (.new (s.nil_of hp)))), .nil, fun _ h => nomatch h⟩
theorem Made.lst {F H : Hp} (s : Sub F H) {l : List PV} {vs : List V} {p : Addr} (hp : H p = none) (r : RFs K F l vs) : Made K F H (.lst (l.map .fz)) F (upd H p (.lst vs)) (.ref p) :=
  ⟨.refl, .new hp, s.outer (s.nil_of hp), fun a h h' => absurd h h', [p], .lst L2.upd_same r.rps, by simp, fun a h => by
    have e : a = p := by simpa using h
    subst e
    exact ⟨hp, s.nil_of hp⟩⟩
theorem Made.ext {F H F' H' : Hp} {s : SV} {v : V} {fp : FP} (m : Made K F H s F' H' v) : Ext F H F' H' fp fp := ⟨m.f, m.h, fun a h h' => .inl (m.new a h h'), fun _ _ h => h⟩
theorem Good.there {xr : Exc → V → Hp → Prop} {F H : Hp} {S : PL.S} {σ : L2.St} {fp bq : FP} (G : Good K xr F H S σ fp bq) (i : Nat) (a : Addr) (ha : a ∈ fp i ∨ a ∈ bq i) : H a ≠ none := by
  by_cases hi : S.length ≤ i
  · obtain ⟨h1, h2⟩ := G.out i hi
    rw [h1, h2] at ha; rcases ha with ha | ha <;> cases ha
  · have hi : i < S.length := by omega
    have g := G.sl i S[i] (List.getElem?_eq_getElem hi)
    cases e : S[i] with
    | no => rw [e] at g; rw [g.1, g.2] at ha; rcases ha with ha | ha <;> cases ha
    | ow s =>
      rw [e] at g; obtain ⟨h0, v, _, r⟩ := g
      rcases ha with ha | ha
      · exact r.there a ha
      · rw [h0] at ha; cases ha
    | bw s =>
      rw [e] at g; obtain ⟨h0, v, _, r⟩ := g
      rcases ha with ha | ha
      · rw [h0] at ha; cases ha
      · exact r.there a ha
    | xc x => rw [e] at g; rw [g.1.1, g.1.2] at ha; rcases ha with ha | ha <;> cases ha
theorem Good.up {xr : Exc → V → Hp → Prop} (hx : ∀ x v F F', Sub F F' → xr x v F → xr x v F') {F H F' H' : Hp} {S : PL.S} {σ : L2.St} {fp bq : FP} (G : Good K xr F H S σ fp bq) (sf : Sub F F') (sh : Sub H H') (s : Sub F' H')
    (hn : ∀ i a, a ∈ fp i → F' a = none) : Good K xr F' H' S σ fp bq :=
  ⟨s, G.len, fun i x e => (G.sl i x e).up hx sf fun a _ u h => sh a u h, G.out, G.nd, G.dj, hn, G.db⟩
theorem Made.good {xr : Exc → V → Hp → Prop} (hx : ∀ x v F F', Sub F F' → xr x v F → xr x v F') {F H F' H' : Hp} {s : SV} {v : V} {S : PL.S} {σ : L2.St} {fp bq : FP} (m : Made K F H s F' H' v) (G : Good K xr F H S σ fp bq) : Good K xr F' H' S σ fp bq :=
  G.up hx m.f m.h m.sub fun i a ha => by
    cases z : F' a with
    | none => rfl
    | some o => exact absurd (m.new a (G.fr i a ha) (by rw [z]; exact fun z => nomatch z)) (G.there i a (.inl ha))
theorem Made.own {xr : Exc → V → Hp → Prop} {F H F' H' : Hp} {s : SV} {v : V} {S : PL.S} {σ : L2.St} {fp bq : FP} (m : Made K F H s F' H' v) (G : Good K xr F H S σ fp bq) (path : Bool) : RelV' K H fp bq path F' H' fp s v := by
  obtain ⟨q, r, nd, h⟩ := m.rel
  exact ⟨q, r, fun _ => ⟨⟨nd, fun a ha => ⟨(h a ha).2, r.there a ha, fun i => ⟨fun z => G.there i a (.inl z) (h a ha).1, fun z => G.there i a (.inr z) (h a ha).1⟩⟩⟩, fun a ha => (h a ha).1⟩, fun a ha => .inl (h a ha).1⟩
/-- .. ends a Want -/
theorem Made.done {xr : Exc → V → Hp → Prop} {xd : Exc → Value → Option Addr → Hp → Prop} {W : WX} (hx : ∀ x v F F', Sub F F' → xr x v F → xr x v F') {F₀ H₀ F H F' H' : Hp} {s : SV} {v : V} {S : PL.S} {σ : L2.St} {fp₀ fp bq : FP} {path : Bool} {Q : VK} (m : Made K F H s F' H' v) (G : Good K xr F H S σ fp bq)
    (e : Ext F₀ H₀ F H fp₀ fp) (w : Want K xr xd W σ F₀ H₀ fp₀ bq (RelV' K H₀ fp₀ bq path) (.ok (s, S)) Q) : Q v H' :=
  w F' H' fp v (m.good hx G) (e.trans m.ext) ((m.own G path).back e)
end

/-- a view -/
def Vw (K : PySem.W.Frag) (F H : Hp) (x : SV) (v : V) : Prop := ∃ q, Rp K F H x v q
theorem Vw.up {K : PySem.W.Frag} {F H F' H' : Hp} {x : SV} {v : V} (w : Vw K F H x v) (sf : Sub F F') (sh : Sub H H') : Vw K F' H' x v := w.elim fun q r => ⟨q, r.up sf sh⟩
theorem Vw.rd {K : PySem.W.Frag} {F H : Hp} {x : SV} {v : V} (w : Vw K F H x v) (s : Sub F H) : RF K H x.pv v := w.elim fun _ r => r.rd s
theorem Vw.int {K : PySem.W.Frag} {F H : Hp} {i : Int} {v : V} (w : Vw K F H (.fz (.int i)) v) : v = .int i := by obtain ⟨q, r⟩ := w; cases r with | fz r => cases r; rfl
theorem Vw.str {K : PySem.W.Frag} {F H : Hp} {i : Str} {v : V} (w : Vw K F H (.fz (.str i)) v) : v = .str i := by obtain ⟨q, r⟩ := w; cases r with | fz r => cases r; rfl
theorem Vw.bl {K : PySem.W.Frag} {F H : Hp} {i : Bool} {v : V} (w : Vw K F H (.fz (.bl i)) v) : v = .bl i := by obtain ⟨q, r⟩ := w; cases r with | fz r => cases r; rfl
theorem Vw.tup {K : PySem.W.Frag} {F H : Hp} {l : List PV} {v : V} (w : Vw K F H (.fz (.tup l)) v) : ∃ a vs, v = .ref a ∧ SqT K F a vs ∧ RFs K F l vs := by
  obtain ⟨q, r⟩ := w; cases r with | fz r => cases r with | tup h t => exact ⟨_, _, rfl, h, t⟩
theorem Vw.fl {K : PySem.W.Frag} {F H : Hp} {l : List PV} {v : V} (s : Sub F H) (w : Vw K F H (.fz (.lst l)) v) : ∃ a vs, v = .ref a ∧ Rd H a (.lst vs) ∧ RFs K F l vs := by
  obtain ⟨q, r⟩ := w; cases r with | fz r => cases r with | lst h t => exact ⟨_, _, rfl, rd_mono s h, t⟩
theorem Vw.ol {K : PySem.W.Frag} {F H : Hp} {l : List SV} {v : V} (w : Vw K F H (.lst l) v) : ∃ a vs q, v = .ref a ∧ Rd H a (.lst vs) ∧ Rps K F H l vs q := by
  obtain ⟨q, r⟩ := w; cases r with | lst h t => exact ⟨_, _, _, rfl, .inl h, t⟩
theorem Vw.ofl {K : PySem.W.Frag} {F H : Hp} {l : List SV} {v : V} {ys : List PV} (w : Vw K F H (.lst l) v) (e : allFz l = some ys) : ∃ a vs, v = .ref a ∧ Rd H a (.lst vs) ∧ RFs K F ys vs := by
  obtain ⟨a, vs, q, h1, h2, h3⟩ := w.ol
  rw [allFz_some e] at h3
  exact ⟨a, vs, h1, h2, h3.fz.1⟩

/-- what a result asks -/
def Gives (K : PySem.W.Frag) (F H : Hp) (r : Res SV) (Q : VK) : Prop := match r with
  | .ok s => ∀ F' H' v, Made K F H s F' H' v → Q v H'
  | _ => False
theorem Gives.guard {K : PySem.W.Frag} {F H : Hp} {b : Bool} {r : Res SV} {Q : VK} (g : Gives K F H (Res.guard b r) Q) : b = true ∧ Gives K F H r Q := by
  cases b with
  | true => exact ⟨rfl, g⟩
  | false => exact g.elim
/-- an operator by values -/
def OpW (C : Ct) (f : SV → SV → Res SV) (r : R2) : Prop := ∀ x y vx vy F H Q, Sub F H → Vw C.X.K F H x vx → Vw C.X.K F H y vy → Gives C.X.K F H (f x y) Q → r vx vy H Q

theorem ow_sub {C : Ct} : OpW C subV (L2.rI0 fun i j => .int (i - j)) := by
  intro x y vx vy F H Q s wx wy g
  unfold subV at g
  split at g
  · rename_i i j
    exact ⟨i, j, wx.int, wy.int, g _ _ _ (.sc s fun _ => .int _)⟩
  · exact g.elim
theorem ow_fdiv {C : Ct} : OpW C fdivV (L2.rI (fun _ j => j ≠ 0 ∧ j.natAbs.log2 < 9000) fun i j => .int (i.fdiv j)) := by
  intro x y vx vy F H Q s wx wy g
  unfold fdivV at g
  split at g
  · rename_i i j
    obtain ⟨h, g⟩ := g.guard
    unfold divOk at h
    rw [Bool.and_eq_true, decide_eq_true_eq, bne_iff_ne] at h
    exact ⟨i, j, wx.int, wy.int, h, g _ _ _ (.sc s fun _ => .int _)⟩
  · exact g.elim
theorem ow_mod {C : Ct} : OpW C modV (L2.rI (fun _ j => j ≠ 0) fun i j => .int (i.fmod j)) := by
  intro x y vx vy F H Q s wx wy g
  unfold modV at g
  split at g
  · rename_i i j
    obtain ⟨h, g⟩ := g.guard
    rw [bne_iff_ne] at h
    exact ⟨i, j, wx.int, wy.int, h, g _ _ _ (.sc s fun _ => .int _)⟩
  · exact g.elim
theorem ow_pow {C : Ct} : OpW C powV (L2.rI L2.CPow fun i j => .int (i ^ j.toNat)) := by
  intro x y vx vy F H Q s wx wy g
  unfold powV at g
  split at g
  · rename_i i j
    obtain ⟨h, g⟩ := g.guard
    rw [Bool.and_eq_true, Bool.and_eq_true, decide_eq_true_eq, decide_eq_true_eq, decide_eq_true_eq] at h
    exact ⟨i, j, wx.int, wy.int, ⟨h.1.1, (by have := h.1.2; omega), h.2⟩, g _ _ _ (.sc s fun _ => .int _)⟩
  · exact g.elim
def rMul : R2 := fun x y H Q => L2.rI L2.CMulB (fun i j => .int (i * j)) x y H Q ∨ L2.rRepR x y H Q
theorem op_mulA {X : Cx} : OpR X (binaryOp .Mult) rMul := L2.OpR.or L2.op_mulB L2.op_repR
theorem repL_ok {K : PySem.W.Frag} {F H : Hp} {o : Option (List PV)} {k : Int} {v : V} {Q : VK} (s : Sub F H) (w : ∀ ys, o = some ys → ∃ a vs, v = .ref a ∧ Rd H a (.lst vs) ∧ RFs K F ys vs) (g : Gives K F H (repL o k) Q) : L2.rRepR v (.int k) H Q := by
  cases o with
  | none => exact g.elim
  | some ys =>
    obtain ⟨a, vs, h1, h2, h3⟩ := w ys rfl
    obtain ⟨h, g⟩ := Gives.guard (b := decide (k.natAbs < 2 ^ 63) && decide (ys.length * k.toNat ≤ szLine)) g
    rw [Bool.and_eq_true, decide_eq_true_eq, decide_eq_true_eq, h3.length, szLine_eq] at h
    exact ⟨a, k, vs, h1, rfl, h2, by omega, by omega, h.2, fun p hp => g _ _ _ (.lst s hp (h3.rep k.toNat))⟩
theorem ow_mul {C : Ct} : OpW C mulV rMul := by
  intro x y vx vy F H Q s wx wy g
  unfold mulV at g
  split at g
  · rename_i i j
    obtain ⟨h, g⟩ := g.guard
    exact .inl ⟨i, j, wx.int, wy.int, show L2.CMulB i j from (decide_eq_true_eq.mp h : i.natAbs.log2 + j.natAbs.log2 < mulBits), g _ _ _ (.sc s fun _ => .int _)⟩
  · rename_i l k
    have e := wy.int
    subst e
    exact .inr (repL_ok s (fun ys e => by cases e; exact wx.fl s) g)
  · rename_i l k
    have e := wy.int
    subst e
    exact .inr (repL_ok s (fun ys e => wx.ofl e) g)
  · exact g.elim
def rAdd (K : PySem.W.Frag) : R2 := fun x y H Q => L2.rI0 (fun i j => .int (i + j)) x y H Q ∨ L2.rCatA K x y H Q ∨ (∃ i j, x = .str i ∧ y = .str j ∧ i.length + j.length ≤ sizeLine ∧ Q (.str (i ++ j)) H) ∨ L2.rCatR x y H Q
theorem op_addA {X : Cx} : OpR X (binaryOp .Add) (rAdd X.K) := L2.OpR.or L2.op_add (L2.OpR.or L2.op_catA (L2.OpR.or L2.op_add_str L2.op_catR))
theorem catL_ok {K : PySem.W.Frag} {F H : Hp} {o o' : Option (List PV)} {v u : V} {Q : VK} (s : Sub F H) (w : ∀ ys, o = some ys → ∃ a vs, v = .ref a ∧ Rd H a (.lst vs) ∧ RFs K F ys vs)
    (w' : ∀ ys, o' = some ys → ∃ a vs, u = .ref a ∧ Rd H a (.lst vs) ∧ RFs K F ys vs) (g : Gives K F H (catL o o') Q) : L2.rCatR v u H Q := by
  unfold catL at g
  split at g
  · rename_i ys zs
    obtain ⟨a, vs, h1, h2, h3⟩ := w ys rfl
    obtain ⟨b, us, k1, k2, k3⟩ := w' zs rfl
    obtain ⟨h, g⟩ := g.guard
    rw [decide_eq_true_eq, h3.length, k3.length, szLine_eq] at h
    exact ⟨a, b, vs, us, h1, k1, h2, k2, h, fun p hp => g _ _ _ (.lst s hp (h3.append k3))⟩
  · exact g.elim
theorem ow_add {C : Ct} : OpW C addV (rAdd C.X.K) := by
  intro x y vx vy F H Q s wx wy g
  unfold addV at g
  split at g
  · rename_i i j
    exact .inl ⟨i, j, wx.int, wy.int, g _ _ _ (.sc s fun _ => .int _)⟩
  · rename_i a b
    obtain ⟨h, g⟩ := g.guard
    obtain ⟨p, vs, h1, h2, h3⟩ := wx.tup
    obtain ⟨q, us, k1, k2, k3⟩ := wy.tup
    rw [decide_eq_true_eq, h3.length, k3.length, szLine_eq] at h
    refine .inr (.inl ⟨p, q, vs, us, h1, k1, sqT_mono s h2, sqT_mono s k2, h, fun e => ?_, fun e e2 => ?_, fun e e2 p hp => g _ _ _ (.tup s hp (h3.append k3))⟩)
    · subst e
      cases h3
      exact g _ _ _ (.here s (.tup k2 k3))
    · subst e2
      cases k3
      rw [List.append_nil] at g
      exact g _ _ _ (.here s (.tup h2 h3))
  · rename_i a b
    obtain ⟨h, g⟩ := g.guard
    rw [decide_eq_true_eq, szLine_eq] at h
    exact .inr (.inr (.inl ⟨a, b, wx.str, wy.str, h, g _ _ _ (.sc s fun _ => .str _)⟩))
  · exact .inr (.inr (.inr (catL_ok s (fun ys e => by cases e; exact wx.fl s) (fun ys e => by cases e; exact wy.fl s) g)))
  · exact .inr (.inr (.inr (catL_ok s (fun ys e => by cases e; exact wx.fl s) (fun ys e => wy.ofl e) g)))
  · exact .inr (.inr (.inr (catL_ok s (fun ys e => wx.ofl e) (fun ys e => by cases e; exact wy.fl s) g)))
  · exact .inr (.inr (.inr (catL_ok s (fun ys e => wx.ofl e) (fun ys e => wy.ofl e) g)))
  · exact g.elim
def bopOf : Bop → Operator
  | .add => .Add
  | .sub => .Sub
  | .mul => .Mult
  | .fdiv => .FloorDiv
  | .mod => .Mod
  | .pow => .Pow
theorem op_any (C : Ct) : ∀ o : Bop, ∃ r, OpR C.X (binaryOp (bopOf o)) r ∧ OpW C (binop o) r
  | .add => ⟨_, op_addA, ow_add⟩
  | .sub => ⟨_, L2.op_sub, ow_sub⟩
  | .mul => ⟨_, op_mulA, ow_mul⟩
  | .fdiv => ⟨_, L2.op_fdivB, ow_fdiv⟩
  | .mod => ⟨_, L2.op_modN, ow_mod⟩
  | .pow => ⟨_, L2.op_pow, ow_pow⟩

mutual
theorem RF.dp {K : PySem.W.Frag} {H : Hp} : ∀ {x : PV} {v : V}, RF K H x v → plain x = true → L2.Dp K H v (dat x)
  | _, _, .scr _, p => by simp [plain] at p
  | _, _, .non, _ => .non
  | _, _, .bl b, _ => .bl b
  | _, _, .int i, _ => .int i
  | _, _, .str x, _ => .str x
  | _, _, .tup h t, p => .tup h (RFs.dp t p)
  | _, _, .lst h t, p => .lst (.inl h) (RFs.dp t p)
theorem RFs.dp {K : PySem.W.Frag} {H : Hp} : ∀ {x : List PV} {v : List V}, RFs K H x v → plains x = true → L2.DpAll K H v (dats x)
  | _, _, .nil, _ => .nil
  | _, _, .cons h t, p => by
    simp only [plains, Bool.and_eq_true] at p
    exact .cons (RF.dp h p.1) (RFs.dp t p.2)
end
mutual
theorem peq_dat : ∀ x y : PV, plain x = true → plain y = true → PyData.eqv (dat x) (dat y) = peq x y
  | .non, y, _, h => by cases y <;> first | rfl | (simp [plain] at h)
  | .bl a, y, _, h => by cases y <;> first | rfl | (simp [plain] at h)
  | .int a, y, _, h => by cases y <;> first | rfl | (simp [plain] at h)
  | .str a, y, _, h => by cases y <;> first | rfl | (simp [plain] at h)
  | .tup a, y, g, h => by
    cases y with
    | tup b => exact peqs_dat a b g h
    | obj _ _ _ => simp [plain] at h
    | scr _ => simp [plain] at h
    | _ => rfl
  | .lst a, y, g, h => by
    cases y with
    | lst b => exact peqs_dat a b g h
    | obj _ _ _ => simp [plain] at h
    | scr _ => simp [plain] at h
    | _ => rfl
  | .obj _ _ _, _, h, _ => by simp [plain] at h
  | .scr _, _, h, _ => by simp [plain] at h
theorem peqs_dat : ∀ x y : List PV, plains x = true → plains y = true → PyData.eqvAll (dats x) (dats y) = peqs x y
  | [], [], _, _ => rfl
  | [], _ :: _, _, _ => rfl
  | _ :: _, [], _, _ => rfl
  | x :: xs, y :: ys, g, h => by
    simp only [plains, Bool.and_eq_true] at g h
    show (PyData.eqv (dat x) (dat y) && PyData.eqvAll (dats xs) (dats ys)) = (peq x y && peqs xs ys)
    rw [peq_dat x y g.1 h.1, peqs_dat xs ys g.2 h.2]
end
mutual
theorem dat_lay : ∀ x : PV, plain x = true → (dat x).canLay0 = true
  | .non, _ => rfl
  | .bl _, _ => rfl
  | .int _, _ => rfl
  | .str _, h => h
  | .tup l, h => dats_lay l h
  | .lst l, h => dats_lay l h
  | .obj _ _ _, h => by simp [plain] at h
  | .scr _, h => by simp [plain] at h
theorem dats_lay : ∀ x : List PV, plains x = true → PyData.canLayAll0 (dats x) = true
  | [], _ => rfl
  | x :: xs, h => by
    simp only [plains, Bool.and_eq_true] at h
    show (PyData.canLay0 (dat x) && PyData.canLayAll0 (dats xs)) = true
    rw [dat_lay x h.1, dats_lay xs h.2]; rfl
end
mutual
theorem dat_dep : ∀ x : PV, (dat x).depth = pdep x
  | .non => rfl
  | .bl _ => rfl
  | .int _ => rfl
  | .str _ => rfl
  | .tup l => by show PyData.depthAll (dats l) + 1 = _; rw [dats_dep l]; rfl
  | .lst l => by show PyData.depthAll (dats l) + 1 = _; rw [dats_dep l]; rfl
  | .obj _ _ _ => rfl
  | .scr _ => rfl
theorem dats_dep : ∀ x : List PV, PyData.depthAll (dats x) = pdeps x
  | [] => rfl
  | x :: xs => by show max (dat x).depth (PyData.depthAll (dats xs)) = _; rw [dat_dep x, dats_dep xs]; rfl
end
theorem shp_shaped {x : PV} (h : shp x = true) : SeqAt.shaped (dat x) = true := by
  unfold shp at h
  rw [Bool.and_eq_true, decide_eq_true_eq] at h
  unfold SeqAt.shaped
  rw [dat_lay x h.1, dat_dep x, Bool.true_and, decide_eq_true_eq]
  exact h.2
theorem shp_plain {x : PV} (h : shp x = true) : plain x = true := by
  unfold shp at h
  rw [Bool.and_eq_true] at h
  exact h.1
theorem pin_dat : ∀ (x : PV) (l : List PV), plain x = true → plains l = true → (dats l).any (fun z => PyData.eqv z (dat x)) = pin x l
  | _, [], _, _ => rfl
  | x, y :: ys, h, g => by
    simp only [plains, Bool.and_eq_true] at g
    show (PyData.eqv (dat y) (dat x) || (dats ys).any _) = (peq y x || pin x ys)
    rw [peq_dat y x g.1 h, pin_dat x ys h g.2]

/-- what a comparison asks -/
def GivesC (r : Res PV) (H : Hp) (Q : VK) : Prop := match r with
  | .ok (.bl b) => Q (.bl b) H
  | _ => False
theorem GivesC.guard {b : Bool} {r : Res PV} {H : Hp} {Q : VK} (g : GivesC (Res.guard b r) H Q) : b = true ∧ GivesC r H Q := by
  cases b with
  | true => exact ⟨rfl, g⟩
  | false => exact g.elim
def CoW (C : Ct) (f : PV → PV → Res PV) (r : R2) : Prop := ∀ x y vx vy F H Q, Sub F H → Vw C.X.K F H x vx → Vw C.X.K F H y vy → GivesC (f x.pv y.pv) H Q → r vx vy H Q
theorem Vw.asInt {K : PySem.W.Frag} {F H : Hp} {x : SV} {i : Int} {v : V} (w : Vw K F H x v) (s : Sub F H) (e : x.pv = .int i) : v = .int i := by
  have r := w.rd s
  rw [e] at r
  cases r; rfl
theorem cw_int {C : Ct} {o : Cop} {p : Int → Int → Bool} (h : ∀ i j, cmpop o (.int i) (.int j) = .ok (.bl (p i j))) (n : ∀ x y, (∀ i j, ¬ (x = .int i ∧ y = .int j)) → cmpop o x y = .no) : CoW C (cmpop o) (L2.rI0 fun i j => .bl (p i j)) := by
  intro x y vx vy F H Q s wx wy g
  by_cases e : ∃ i j, x.pv = .int i ∧ y.pv = .int j
  · obtain ⟨i, j, e1, e2⟩ := e
    rw [e1, e2, h] at g
    exact ⟨i, j, wx.asInt s e1, wy.asInt s e2, g⟩
  · rw [n _ _ fun i j q => e ⟨i, j, q⟩] at g
    exact g.elim
theorem cw_eq {C : Ct} : CoW C (cmpop .eq) (L2.rEqD C.X.K) := by
  intro x y vx vy F H Q s wx wy g
  obtain ⟨h, g⟩ := GivesC.guard (b := shp x.pv && shp y.pv) g
  rw [Bool.and_eq_true] at h
  refine ⟨dat x.pv, dat y.pv, (wx.rd s).dp (shp_plain h.1), (wy.rd s).dp (shp_plain h.2), shp_shaped h.1, shp_shaped h.2, ?_⟩
  rw [peq_dat _ _ (shp_plain h.1) (shp_plain h.2)]
  exact g
theorem cw_ne {C : Ct} : CoW C (cmpop .ne) (L2.rNeD C.X.K) := by
  intro x y vx vy F H Q s wx wy g
  obtain ⟨h, g⟩ := GivesC.guard (b := shp x.pv && shp y.pv) g
  rw [Bool.and_eq_true] at h
  refine ⟨dat x.pv, dat y.pv, (wx.rd s).dp (shp_plain h.1), (wy.rd s).dp (shp_plain h.2), shp_shaped h.1, shp_shaped h.2, ?_⟩
  rw [peq_dat _ _ (shp_plain h.1) (shp_plain h.2)]
  exact g

theorem RF.flat {K : PySem.W.Frag} {H : Hp} {x : PV} {v : V} (r : RF K H x v) (f : flat x = true) : L2.flatV v = true ∧ ∀ y w, RF K H y w → PL.flat y = true → L2.eqV w v = peq y x := by
  cases r with
  | non => exact ⟨rfl, fun y w q g => by cases q <;> first | rfl | (simp [PL.flat] at g)⟩
  | bl b => exact ⟨rfl, fun y w q g => by cases q <;> first | rfl | (simp [PL.flat] at g)⟩
  | int i => exact ⟨rfl, fun y w q g => by cases q <;> first | rfl | (simp [PL.flat] at g)⟩
  | str z => exact ⟨rfl, fun y w q g => by cases q <;> first | rfl | (simp [PL.flat] at g)⟩
  | tup _ _ => simp [PL.flat] at f
  | lst _ _ => simp [PL.flat] at f
  | scr _ => simp [PL.flat] at f
theorem RFs.flat {K : PySem.W.Frag} {H : Hp} {x : PV} {v : V} (r : RF K H x v) (f : flat x = true) : ∀ {l : List PV} {vs : List V}, RFs K H l vs → l.all PL.flat = true → vs.all L2.flatV = true ∧ L2.inV v vs = pin x l
  | _, _, .nil, _ => ⟨rfl, rfl⟩
  | _, _, .cons h t, g => by
    simp only [List.all_cons, Bool.and_eq_true] at g
    obtain ⟨h1, h2⟩ := RFs.flat r f t g.2
    have e := (r.flat f).2 _ _ h g.1
    refine ⟨by rw [List.all_cons, (h.flat g.1).1, h1]; rfl, ?_⟩
    show (L2.eqV _ v || L2.inV v _) = (peq _ x || pin x _)
    rw [e, h2]
def rInA (K : PySem.W.Frag) : R2 := fun x y H Q => L2.rIn K false x y H Q ∨ L2.rInD K x y H Q
def rNotInA (K : PySem.W.Frag) : R2 := fun x y H Q => L2.rIn K true x y H Q ∨ L2.rNotInD K x y H Q
theorem cw_in {C : Ct} : CoW C (cmpop .isin) (rInA C.X.K) := by
  intro x y vx vy F H Q s wx wy g
  have rx := wx.rd s
  have ry := wy.rd s
  generalize x.pv = a at *
  generalize y.pv = b at *
  cases b with
  | tup l =>
    obtain ⟨h, g⟩ := GivesC.guard (b := flat a && l.all flat) g
    rw [Bool.and_eq_true] at h
    cases ry with
    | tup hs t =>
      obtain ⟨h1, h2⟩ := t.flat rx h.1 h.2
      refine .inl ⟨_, _, rfl, .inr hs, (rx.flat h.1).1, h1, ?_⟩
      show Q (.bl (L2.inV vx _)) H
      rw [h2]
      exact g
  | lst l =>
    obtain ⟨h, g⟩ := GivesC.guard (b := shp a && shp (.lst l)) g
    rw [Bool.and_eq_true] at h
    refine .inr ⟨dat a, dats l, rx.dp (shp_plain h.1), ry.dp (shp_plain h.2), shp_shaped h.1, shp_shaped h.2, ?_⟩
    rw [pin_dat _ _ (shp_plain h.1) (shp_plain h.2)]
    exact g
  | _ => exact g.elim
theorem cw_notin {C : Ct} : CoW C (cmpop .notin) (rNotInA C.X.K) := by
  intro x y vx vy F H Q s wx wy g
  have rx := wx.rd s
  have ry := wy.rd s
  generalize x.pv = a at *
  generalize y.pv = b at *
  cases b with
  | tup l =>
    obtain ⟨h, g⟩ := GivesC.guard (b := flat a && l.all flat) g
    rw [Bool.and_eq_true] at h
    cases ry with
    | tup hs t =>
      obtain ⟨h1, h2⟩ := t.flat rx h.1 h.2
      refine .inl ⟨_, _, rfl, .inr hs, (rx.flat h.1).1, h1, ?_⟩
      show Q (.bl (!L2.inV vx _)) H
      rw [h2]
      exact g
  | lst l =>
    obtain ⟨h, g⟩ := GivesC.guard (b := shp a && shp (.lst l)) g
    rw [Bool.and_eq_true] at h
    refine .inr ⟨dat a, dats l, rx.dp (shp_plain h.1), ry.dp (shp_plain h.2), shp_shaped h.1, shp_shaped h.2, ?_⟩
    rw [pin_dat _ _ (shp_plain h.1) (shp_plain h.2)]
    exact g
  | _ => exact g.elim
def copOf : Cop → CmpOp
  | .eq => .Eq
  | .ne => .NotEq
  | .lt => .Lt
  | .le => .LtE
  | .gt => .Gt
  | .ge => .GtE
  | .isin => .In
  | .notin => .NotIn
theorem cop_any (C : Ct) (hu : C.X.A.units + 65 < cLine) : ∀ o : Cop, ∃ r, OpR C.X (compareOp (copOf o)) r ∧ CoW C (cmpop o) r
  | .eq => ⟨_, L2.op_eqD (by omega), cw_eq⟩
  | .ne => ⟨_, L2.op_neD (by omega), cw_ne⟩
  | .lt => ⟨_, L2.op_lt, cw_int (p := fun i j => decide (i < j)) (fun _ _ => rfl) fun x y h => by cases x <;> cases y <;> first | rfl | exact absurd ⟨rfl, rfl⟩ (h _ _)⟩
  | .le => ⟨_, L2.op_le, cw_int (p := fun i j => decide (i ≤ j)) (fun _ _ => rfl) fun x y h => by cases x <;> cases y <;> first | rfl | exact absurd ⟨rfl, rfl⟩ (h _ _)⟩
  | .gt => ⟨_, L2.op_gt, cw_int (p := fun i j => decide (j < i)) (fun _ _ => rfl) fun x y h => by cases x <;> cases y <;> first | rfl | exact absurd ⟨rfl, rfl⟩ (h _ _)⟩
  | .ge => ⟨_, L2.op_ge, cw_int (p := fun i j => decide (j ≤ i)) (fun _ _ => rfl) fun x y h => by cases x <;> cases y <;> first | rfl | exact absurd ⟨rfl, rfl⟩ (h _ _)⟩
  | .isin => ⟨_, L2.OpR.or L2.op_in_seq (L2.op_inD hu), cw_in⟩
  | .notin => ⟨_, L2.OpR.or L2.op_notIn_seq (L2.op_notInD hu), cw_notin⟩
theorem cop_bl {o : Cop} {a b r : PV} (h : cmpop o a b = .ok r) : ∃ k, r = .bl k := by
  have g : ∀ {b : Bool} {k : Bool}, Res.guard b (.ok (PV.bl k)) = .ok r → ∃ k, r = .bl k := fun {b k} e => by
    cases b with
    | true => cases e; exact ⟨_, rfl⟩
    | false => cases e
  cases o with
  | eq => exact g (b := shp a && shp b) h
  | ne => exact g (b := shp a && shp b) h
  | lt => cases a <;> cases b <;> cases h; exact ⟨_, rfl⟩
  | le => cases a <;> cases b <;> cases h; exact ⟨_, rfl⟩
  | gt => cases a <;> cases b <;> cases h; exact ⟨_, rfl⟩
  | ge => cases a <;> cases b <;> cases h; exact ⟨_, rfl⟩
  | isin => cases b with
    | tup l => exact g (b := flat a && l.all flat) h
    | lst l => exact g (b := shp a && shp (.lst l)) h
    | _ => cases h
  | notin => cases b with
    | tup l => exact g (b := flat a && l.all flat) h
    | lst l => exact g (b := shp a && shp (.lst l)) h
    | _ => cases h
end PL

namespace PL
open PySem PyProof.Rows
open L2 (V Hp HO SqL SqT upd Rd Cx PE PT PW PA PS PSs PG PI Ends VK XK WX TE TT TA TS OpR R2 CallR)

/-- views of several things -/
inductive Vws (K : PySem.W.Frag) (F H : Hp) : List SV → List V → Prop
  | nil : Vws K F H [] []
  | cons {x : SV} {xs : List SV} {v : V} {vs : List V} : Vw K F H x v → Vws K F H xs vs → Vws K F H (x :: xs) (v :: vs)
theorem Vws.one {K : PySem.W.Frag} {F H : Hp} {x : SV} {vs : List V} (w : Vws K F H [x] vs) : ∃ v, vs = [v] ∧ Vw K F H x v := by
  cases w with
  | cons h t => cases t; exact ⟨_, rfl, h⟩
theorem Vws.two {K : PySem.W.Frag} {F H : Hp} {x y : SV} {vs : List V} (w : Vws K F H [x, y] vs) : ∃ v u, vs = [v, u] ∧ Vw K F H x v ∧ Vw K F H y u := by
  cases w with
  | cons h t =>
    cases t with
    | cons h' t => cases t; exact ⟨_, _, rfl, h, h'⟩
def BiW (C : Ct) (b : Bi) (r : List V → Hp → VK → Prop) : Prop := ∀ xs vs F H Q, Sub F H → Vws C.X.K F H xs vs → Gives C.X.K F H (biop b xs) Q → r vs H Q
/-- one argument -/
theorem bi1 {C : Ct} {b : Bi} {r : List V → Hp → VK → Prop} {f : SV → Res SV} (h1 : ∀ x, biop b [x] = f x) (h0 : biop b [] = .no) (h2 : ∀ x y xs, biop b (x :: y :: xs) = .no)
    (h : ∀ x v F H Q, Sub F H → Vw C.X.K F H x v → Gives C.X.K F H (f x) Q → r [v] H Q) : BiW C b r := by
  intro xs vs F H Q s w g
  match xs, w with
  | [], w => rw [h0] at g; exact g.elim
  | [x], w =>
    obtain ⟨v, rfl, w1⟩ := w.one
    rw [h1] at g
    exact h x v F H Q s w1 g
  | x :: y :: xs, w => rw [h2] at g; exact g.elim
theorem bi2 {C : Ct} {b : Bi} {r : List V → Hp → VK → Prop} {f : SV → SV → Res SV} (h1 : ∀ x y, biop b [x, y] = f x y) (h0 : biop b [] = .no) (h3 : ∀ x, biop b [x] = .no) (h2 : ∀ x y z xs, biop b (x :: y :: z :: xs) = .no)
    (h : ∀ x y v u F H Q, Sub F H → Vw C.X.K F H x v → Vw C.X.K F H y u → Gives C.X.K F H (f x y) Q → r [v, u] H Q) : BiW C b r := by
  intro xs vs F H Q s w g
  match xs, w with
  | [], w => rw [h0] at g; exact g.elim
  | [x], w => rw [h3] at g; exact g.elim
  | [x, y], w =>
    obtain ⟨v, u, rfl, w1, w2⟩ := w.two
    rw [h1] at g
    exact h x y v u F H Q s w1 w2 g
  | x :: y :: z :: xs, w => rw [h2] at g; exact g.elim
section
variable {C : Ct}
def rLen (K : PySem.W.Frag) : List V → Hp → VK → Prop := fun xs H Q => (∃ p ys, xs = [.ref p] ∧ (SqL K H p ys ∨ SqT K H p ys) ∧ Q (.int ys.length) H) ∨ ∃ z, xs = [.str z] ∧ z.length ≤ sizeLine ∧ Q (.int z.length) H
theorem call_lenA {X : Cx} : CallR X (.builtin "len") (rLen X.K) := L2.CallR.or L2.call_len_seq L2.call_len_str
theorem bw_len : BiW C .len (rLen C.X.K) := by
  refine bi1 (f := lenV) (fun _ => rfl) rfl (fun _ _ _ => rfl) fun x v F H Q s w g => ?_
  unfold lenV at g
  split at g
  · obtain ⟨a, vs, rfl, h2, h3⟩ := w.fl s
    exact .inl ⟨a, vs, rfl, .inl (.inl h2), by rw [← h3.length]; exact g _ _ _ (.sc s fun _ => .int _)⟩
  · obtain ⟨a, vs, rfl, h2, h3⟩ := w.tup
    exact .inl ⟨a, vs, rfl, .inr (sqT_mono s h2), by rw [← h3.length]; exact g _ _ _ (.sc s fun _ => .int _)⟩
  · obtain ⟨a, vs, q, rfl, h2, h3⟩ := w.ol
    exact .inl ⟨a, vs, rfl, .inl (.inl h2), by rw [← h3.length]; exact g _ _ _ (.sc s fun _ => .int _)⟩
  · obtain ⟨h, g⟩ := g.guard
    rw [decide_eq_true_eq, szLine_eq] at h
    rw [w.str]
    exact .inr ⟨_, rfl, h, g _ _ _ (.sc s fun _ => .int _)⟩
  · exact g.elim
theorem bw_abs : BiW C .abs (fun xs H Q => ∃ i, xs = [.int i] ∧ Q (.int (if i < 0 then -i else i)) H) := by
  refine bi1 (f := absV) (fun _ => rfl) rfl (fun _ _ _ => rfl) fun x v F H Q s w g => ?_
  unfold absV at g
  split at g
  · rw [w.int]; exact ⟨_, rfl, g _ _ _ (.sc s fun _ => .int _)⟩
  · exact g.elim
theorem bw_int : BiW C .int (fun xs H Q => (∃ i, xs = [.int i] ∧ Q (.int i) H) ∨ ∃ k, xs = [.bl k] ∧ Q (.int (if k then 1 else 0)) H) := by
  refine bi1 (f := intV) (fun _ => rfl) rfl (fun _ _ _ => rfl) fun x v F H Q s w g => ?_
  unfold intV at g
  split at g
  · rw [w.int]; exact .inl ⟨_, rfl, g _ _ _ (.sc s fun _ => .int _)⟩
  · rw [w.bl]; exact .inr ⟨_, rfl, g _ _ _ (.sc s fun _ => .int _)⟩
  · exact g.elim
def rTuple (K : PySem.W.Frag) : List V → Hp → VK → Prop := fun xs H Q => ∃ p ys, xs = [.ref p] ∧ ((SqL K H p ys ∧ ∀ l, H l = none → Q (.ref l) (upd H l (.tup ys))) ∨ (SqT K H p ys ∧ Q (.ref p) H))
theorem bw_tuple : BiW C .tuple (rTuple C.X.K) := by
  refine bi1 (f := tupleV) (fun _ => rfl) rfl (fun _ _ _ => rfl) fun x v F H Q s w g => ?_
  unfold tupleV at g
  split at g
  · obtain ⟨a, vs, rfl, h2, h3⟩ := w.fl s
    exact ⟨a, vs, rfl, .inl ⟨.inl h2, fun p hp => g _ _ _ (.tup s hp h3)⟩⟩
  · obtain ⟨a, vs, rfl, h2, h3⟩ := w.tup
    exact ⟨a, vs, rfl, .inr ⟨sqT_mono s h2, g _ _ _ (.here s (.tup h2 h3))⟩⟩
  · rename_i l
    cases e : allFz l with
    | none => rw [e] at g; exact g.elim
    | some ys =>
      rw [e] at g
      obtain ⟨a, vs, rfl, h2, h3⟩ := w.ofl e
      exact ⟨a, vs, rfl, .inl ⟨.inl h2, fun p hp => g _ _ _ (.tup s hp h3)⟩⟩
  · exact g.elim
def rList (K : PySem.W.Frag) : List V → Hp → VK → Prop := fun xs H Q => ∃ p ys, xs = [.ref p] ∧ (SqL K H p ys ∨ SqT K H p ys) ∧ ∀ l, H l = none → Q (.ref l) (upd H l (.lst ys))
theorem bw_list : BiW C .list (rList C.X.K) := by
  refine bi1 (f := listV) (fun _ => rfl) rfl (fun _ _ _ => rfl) fun x v F H Q s w g => ?_
  unfold listV at g
  split at g
  · obtain ⟨a, vs, rfl, h2, h3⟩ := w.fl s
    exact ⟨a, vs, rfl, .inl (.inl h2), fun p hp => g _ _ _ (.lst s hp h3)⟩
  · obtain ⟨a, vs, rfl, h2, h3⟩ := w.tup
    exact ⟨a, vs, rfl, .inr (sqT_mono s h2), fun p hp => g _ _ _ (.lst s hp h3)⟩
  · rename_i l
    cases e : allFz l with
    | none => rw [e] at g; exact g.elim
    | some ys =>
      rw [e] at g
      obtain ⟨a, vs, rfl, h2, h3⟩ := w.ofl e
      exact ⟨a, vs, rfl, .inl (.inl h2), fun p hp => g _ _ _ (.lst s hp h3)⟩
  · exact g.elim
theorem ints_rel {K : PySem.W.Frag} {H : Hp} : ∀ {l : List PV} {ns : List Int} {vs : List V}, ints? l = some ns → RFs K H l vs → vs = ns.map V.int
  | [], ns, vs, e, r => by cases r; cases e; rfl
  | .int i :: l, ns, vs, e, r => by
    unfold ints? at e
    cases e' : ints? l with
    | none => rw [e'] at e; cases e
    | some ms =>
      rw [e'] at e
      cases e
      cases r with
      | cons h t => cases h; rw [ints_rel e' t]; rfl
  | .non :: l, ns, vs, e, r => by cases e
  | .bl _ :: l, ns, vs, e, r => by cases e
  | .str _ :: l, ns, vs, e, r => by cases e
  | .tup _ :: l, ns, vs, e, r => by cases e
  | .lst _ :: l, ns, vs, e, r => by cases e
  | .scr _ :: l, ns, vs, e, r => by cases e
  | .obj _ _ _ :: l, ns, vs, e, r => by cases e
theorem bw_sum : BiW C .sum (L2.rSum C.X.K) := by
  refine bi1 (f := sumV) (fun _ => rfl) rfl (fun _ _ _ => rfl) fun x v F H Q s w g => ?_
  unfold sumV at g
  have r := w.rd s
  generalize x.pv = b at *
  cases b with
  | lst l =>
    have g : Gives C.X.K F H (sumO (ints? l)) Q := g
    cases e : ints? l with
    | none => rw [e] at g; exact g.elim
    | some ns =>
      rw [e] at g
      cases r with
      | lst h t =>
        have := ints_rel e t
        subst this
        exact ⟨_, ns, rfl, .inl h, g _ _ _ (.sc s fun _ => .int _)⟩
  | _ => exact g.elim
theorem maxL_spec : ∀ (a : Int) (r : List Int), maxL a r ∈ a :: r ∧ ∀ y ∈ a :: r, y ≤ maxL a r
  | a, [] => ⟨List.mem_singleton.mpr rfl, fun y h => by rw [List.mem_singleton.mp h]; exact Int.le_refl _⟩
  | a, b :: r => by
    obtain ⟨h1, h2⟩ := maxL_spec (if b > a then b else a) r
    show maxL (if b > a then b else a) r ∈ _ ∧ ∀ y ∈ _, y ≤ maxL (if b > a then b else a) r
    by_cases c : b > a
    · rw [if_pos c] at h1 h2 ⊢
      have h3 := h2 _ List.mem_cons_self
      refine ⟨List.mem_cons_of_mem _ h1, fun y hy => ?_⟩
      rcases List.mem_cons.mp hy with e | hy
      · subst e; omega
      · exact h2 y hy
    · rw [if_neg c] at h1 h2 ⊢
      have h3 := h2 _ List.mem_cons_self
      refine ⟨?_, fun y hy => ?_⟩
      · rcases List.mem_cons.mp h1 with e | e
        · rw [e]; exact List.mem_cons_self
        · exact List.mem_cons_of_mem _ (List.mem_cons_of_mem _ e)
      · rcases List.mem_cons.mp hy with e | hy
        · subst e; exact h3
        · rcases List.mem_cons.mp hy with e | hy
          · subst e; omega
          · exact h2 y (List.mem_cons_of_mem _ hy)
theorem minL_spec : ∀ (a : Int) (r : List Int), minL a r ∈ a :: r ∧ ∀ y ∈ a :: r, minL a r ≤ y
  | a, [] => ⟨List.mem_singleton.mpr rfl, fun y h => by rw [List.mem_singleton.mp h]; exact Int.le_refl _⟩
  | a, b :: r => by
    obtain ⟨h1, h2⟩ := minL_spec (if b < a then b else a) r
    show minL (if b < a then b else a) r ∈ _ ∧ ∀ y ∈ _, minL (if b < a then b else a) r ≤ y
    by_cases c : b < a
    · rw [if_pos c] at h1 h2 ⊢
      have h3 := h2 _ List.mem_cons_self
      refine ⟨List.mem_cons_of_mem _ h1, fun y hy => ?_⟩
      rcases List.mem_cons.mp hy with e | hy
      · subst e; omega
      · exact h2 y hy
    · rw [if_neg c] at h1 h2 ⊢
      have h3 := h2 _ List.mem_cons_self
      refine ⟨?_, fun y hy => ?_⟩
      · rcases List.mem_cons.mp h1 with e | e
        · rw [e]; exact List.mem_cons_self
        · exact List.mem_cons_of_mem _ (List.mem_cons_of_mem _ e)
      · rcases List.mem_cons.mp hy with e | hy
        · subst e; exact h3
        · rcases List.mem_cons.mp hy with e | hy
          · subst e; omega
          · exact h2 y (List.mem_cons_of_mem _ hy)
def rMx (K : PySem.W.Frag) : List V → Hp → VK → Prop := fun xs H Q => L2.rMax K xs H Q ∨ ∃ i j, xs = [.int i, .int j] ∧ Q (.int (if j > i then j else i)) H
def rMn (K : PySem.W.Frag) : List V → Hp → VK → Prop := fun xs H Q => L2.rMin K xs H Q ∨ ∃ i j, xs = [.int i, .int j] ∧ Q (.int (if j < i then j else i)) H
theorem eq_of_mx {a : Int} {r : List Int} {m : Int} (h1 : m ∈ a :: r) (h2 : ∀ y ∈ a :: r, y ≤ m) : m = maxL a r := by
  obtain ⟨k1, k2⟩ := maxL_spec a r
  have := h2 _ k1
  have := k2 _ h1
  omega
theorem eq_of_mn {a : Int} {r : List Int} {m : Int} (h1 : m ∈ a :: r) (h2 : ∀ y ∈ a :: r, m ≤ y) : m = minL a r := by
  obtain ⟨k1, k2⟩ := minL_spec a r
  have := h2 _ k1
  have := k2 _ h1
  omega
theorem bw_max : BiW C .max (rMx C.X.K) := by
  intro xs vs F H Q s w g
  match xs, w with
  | [], w => exact g.elim
  | [x], w =>
    obtain ⟨v, rfl, w1⟩ := w.one
    have g : Gives C.X.K F H (max1 x) Q := g
    unfold max1 at g
    have r := w1.rd s
    generalize x.pv = b at *
    cases b with
    | lst l =>
      have g : Gives C.X.K F H (maxO (ints? l)) Q := g
      cases e : ints? l with
      | none => rw [e] at g; exact g.elim
      | some ns =>
        rw [e] at g
        cases ns with
        | nil => exact g.elim
        | cons a r' =>
          cases r with
          | lst h t =>
            have := ints_rel e t
            subst this
            exact .inl ⟨_, _, rfl, .inl h, by simp, fun m h1 h2 => by rw [eq_of_mx h1 h2]; exact g _ _ _ (.sc s fun _ => .int _)⟩
    | _ => exact g.elim
  | [x, y], w =>
    obtain ⟨v, u, rfl, w1, w2⟩ := w.two
    have g : Gives C.X.K F H (max2 x y) Q := g
    unfold max2 at g
    split at g
    · rw [w1.int, w2.int]; exact .inr ⟨_, _, rfl, g _ _ _ (.sc s fun _ => .int _)⟩
    · exact g.elim
  | x :: y :: z :: xs, w => exact g.elim
theorem bw_min : BiW C .min (rMn C.X.K) := by
  intro xs vs F H Q s w g
  match xs, w with
  | [], w => exact g.elim
  | [x], w =>
    obtain ⟨v, rfl, w1⟩ := w.one
    have g : Gives C.X.K F H (min1 x) Q := g
    unfold min1 at g
    have r := w1.rd s
    generalize x.pv = b at *
    cases b with
    | lst l =>
      have g : Gives C.X.K F H (minO (ints? l)) Q := g
      cases e : ints? l with
      | none => rw [e] at g; exact g.elim
      | some ns =>
        rw [e] at g
        cases ns with
        | nil => exact g.elim
        | cons a r' =>
          cases r with
          | lst h t =>
            have := ints_rel e t
            subst this
            exact .inl ⟨_, _, rfl, .inl h, by simp, fun m h1 h2 => by rw [eq_of_mn h1 h2]; exact g _ _ _ (.sc s fun _ => .int _)⟩
    | _ => exact g.elim
  | [x, y], w =>
    obtain ⟨v, u, rfl, w1, w2⟩ := w.two
    have g : Gives C.X.K F H (min2 x y) Q := g
    unfold min2 at g
    split at g
    · rw [w1.int, w2.int]; exact .inr ⟨_, _, rfl, g _ _ _ (.sc s fun _ => .int _)⟩
    · exact g.elim
  | x :: y :: z :: xs, w => exact g.elim
theorem bw_gcd : BiW C .gcd L2.rGcd := by
  refine bi2 (f := gcdV) (fun _ _ => rfl) rfl (fun _ => rfl) (fun _ _ _ _ => rfl) fun x y v u F H Q s w w' g => ?_
  unfold gcdV at g
  split at g
  · rw [w.int, w'.int]; exact ⟨_, _, rfl, g _ _ _ (.sc s fun _ => .int _)⟩
  · exact g.elim
/-- repr of data -/
def rRepr (K : PySem.W.Frag) : List V → Hp → VK → Prop := fun xs H Q => ∃ (x : V) (d : PyData), xs = [x] ∧ L2.Dp K H x d ∧ d.canLay0 = true ∧ d.depth ≤ 64 ∧ d.showable = true ∧ d.shown.length ≤ sizeLine ∧ Q (.str d.shown) H
theorem call_reprD {X : Cx} (hg : X.A.guards = some []) (hu : X.A.units + 65 < cLine) : CallR X (.builtin "repr") (rRepr X.K) := by
  intro pins s σ H xs us Q I r h
  obtain ⟨x, d, rfl, hd, hl, hp, hs, hz, q⟩ := h
  obtain ⟨u, rfl, rx⟩ := L2.vals1 r
  cases hd with
  | non => cases rx; exact PySem.P.repr_of_none ⟨.str "None", H, I.tok _, ⟨_, rfl⟩, q⟩
  | bl b => cases rx; exact PySem.P.repr_of_bool ⟨.str (if b then "True" else "False"), H, I.tok _, ⟨_, rfl⟩, q⟩
  | int i =>
    obtain ⟨t, rfl⟩ := rx
    exact PySem.P.repr_of_int (of_decide_eq_true hs) ⟨.str (toString i), H, I.tok _, ⟨_, rfl⟩, q⟩
  | str z =>
    obtain ⟨t, rfl⟩ := rx
    exact PySem.P.repr_of_str ⟨.str (reprText z), H, I.tok _, ⟨_, rfl⟩, q⟩ hz
  | lst h1 h2 =>
    cases rx
    obtain ⟨as, r⟩ := L2.Dp.reads I _ _ _ (.lst h1 h2) rfl
    exact PySem.repr_of_reads' r hs (PyData.noDict_hsm (PyData.hasDict_of_canLay _ hl)) hg (by omega) (fun _ _ e => e) (fun h' u tk hk => ⟨.str _, H, I.kept hk, ⟨_, rfl⟩, q⟩) hz
  | tup h1 h2 =>
    cases rx
    obtain ⟨as, r⟩ := L2.Dp.reads I _ _ _ (.tup h1 h2) rfl
    exact PySem.repr_of_reads' r hs (PyData.noDict_hsm (PyData.hasDict_of_canLay _ hl)) hg (by omega) (fun _ _ e => e) (fun h' u tk hk => ⟨.str _, H, I.kept hk, ⟨_, rfl⟩, q⟩) hz
theorem bw_repr : BiW C .repr (rRepr C.X.K) := by
  refine bi1 (f := reprV) (fun _ => rfl) rfl (fun _ _ _ => rfl) fun x v F H Q s w g => ?_
  obtain ⟨h, g⟩ := Gives.guard (b := shp x.pv && (dat x.pv).showable && decide ((reprP x.pv).length ≤ szLine)) g
  rw [Bool.and_eq_true, Bool.and_eq_true, decide_eq_true_eq, szLine_eq] at h
  have hp : (dat x.pv).depth ≤ 64 := by
    have := h.1.1
    unfold shp at this
    rw [Bool.and_eq_true, decide_eq_true_eq] at this
    rw [dat_dep]; exact this.2
  exact ⟨v, dat x.pv, rfl, (w.rd s).dp (shp_plain h.1.1), dat_lay _ (shp_plain h.1.1), hp, h.1.2, h.2, g _ _ _ (.sc s fun _ => .str _)⟩
end
end PL

namespace PL
open PySem PyProof.Rows
open L2 (V Hp HO SqL SqT upd Rd Cx PE PT PW PA PS PSs PG PI Ends VK XK WX TE TT TA TS OpR R2 CallR)

/-- what holds of a def's context -/
structure CtK (C : Ct) : Prop extends CtOk C where
  calm : C.X.calm = true
  un : C.X.A.units + 65 < cLine
  gd : C.g = true → C.X.A.guards = some []
  nd : C.X.N.Nodup
theorem RelV'.vw {K : PySem.W.Frag} {H F' H' : Hp} {fp fp' bq : FP} {path : Bool} {s : SV} {v : V} (r : RelV' K H fp bq path F' H' fp' s v) : Vw K F' H' s v := let ⟨q, r, _⟩ := r; ⟨q, r⟩
section
variable {C : Ct} {pos : Pos} {a b t e : Ex} {pa pb pt pe : Expr}
/-- a value that is no view, made -/
theorem gives_of {x : Res SV} {F₀ H₀ F H : Hp} {S : S} {σ : L2.St} {fp₀ fp bq : FP} {path : Bool} {Q : VK} (ok : CtOk C) (G : Good C.X.K C.xr F H S σ fp bq) (e : Ext F₀ H₀ F H fp₀ fp)
    (w : Want C.X.K C.xr C.xd C.W σ F₀ H₀ fp₀ bq (RelV' C.X.K H₀ fp₀ bq path) (x.noex.bind fun r => .ok (r, S)) Q) : Gives C.X.K F H x Q := by
  cases x with
  | no => exact w.elim
  | ex x => exact w.elim
  | ok s => exact fun F' H' v m => m.done ok.xr G e w
theorem se_bin (ok : CtK C) (o : Bop) (ha : SE C a pa) (hb : SE C b pb) : SE C (.bin o a b) (.BinOp pa (bopOf o) pb pos) := by
  obtain ⟨ta, hpa, ha⟩ := ha
  obtain ⟨tb, hpb, hb⟩ := hb
  obtain ⟨r, hr, ow⟩ := op_any C o
  refine ⟨_, L2.pe_op hr hpa hpb, fun σ H Q F S fp bq G w => ?_⟩
  refine ha σ H _ F S fp bq G (Want.bind w fun p F1 H1 fp1 v G1 E1 R1 w1 => ?_)
  refine hb σ H1 _ F1 p.2 fp1 bq G1 (Want.bind (w1.shift E1 fun _ _ _ _ _ r => RelV'.back E1 r) fun q F2 H2 fp2 u G2 E2 R2 w2 => ?_)
  exact ow p.1 q.1 v u F2 H2 Q G2.sub (R1.vw.up E2.f E2.h) R2.vw (gives_of ok.toCtOk G2 E2 w2)
/-- a scalar made of one value -/
theorem want_sc {F₀ H₀ F H : Hp} {S : S} {σ : L2.St} {fp₀ fp bq : FP} {path : Bool} {Q : VK} {x : PV} {v : V} (ok : CtOk C) (G : Good C.X.K C.xr F H S σ fp bq) (e : Ext F₀ H₀ F H fp₀ fp) (r : ∀ F, RF C.X.K F x v)
    (w : Want C.X.K C.xr C.xd C.W σ F₀ H₀ fp₀ bq (RelV' C.X.K H₀ fp₀ bq path) (.ok (.fz x, S)) Q) : Q v H := (Made.sc G.sub r).done ok.xr G e w
theorem se_neg (ok : CtK C) (ha : SE C a pa) : SE C (.neg a) (.UnaryOp .USub pa pos) := by
  obtain ⟨ta, hpa, ha⟩ := ha
  refine ⟨_, L2.pe_un L2.un_neg hpa, fun σ H Q F S fp bq G w => ?_⟩
  refine ha σ H _ F S fp bq G (Want.bind w fun p F1 H1 fp1 v G1 E1 R1 w1 => ?_)
  obtain ⟨s, S1⟩ := p
  have vw := R1.vw
  split at w1
  · rename_i i he
    have he : s = .fz (.int i) := he
    subst he
    exact ⟨i, vw.int, want_sc ok.toCtOk G1 E1 (fun _ => .int _) w1⟩
  · exact w1.elim
theorem givesC_of {x : Res PV} {F₀ H₀ F H : Hp} {S : S} {σ : L2.St} {fp₀ fp bq : FP} {path : Bool} {Q : VK} (ok : CtOk C) (G : Good C.X.K C.xr F H S σ fp bq) (e : Ext F₀ H₀ F H fp₀ fp) (hb : ∀ r, x = .ok r → ∃ k, r = .bl k)
    (w : Want C.X.K C.xr C.xd C.W σ F₀ H₀ fp₀ bq (RelV' C.X.K H₀ fp₀ bq path) (x.noex.bind fun r => .ok (.fz r, S)) Q) : GivesC x H Q := by
  cases x with
  | no => exact w.elim
  | ex x => exact w.elim
  | ok s =>
    obtain ⟨k, rfl⟩ := hb _ rfl
    exact want_sc ok G e (fun _ => .bl _) w
theorem se_cmp (ok : CtK C) (o : Cop) (ha : SE C a pa) (hb : SE C b pb) (hm : behindInMarks (copOf o) pb = false) : SE C (.cmp o a b) (.Compare pa [copOf o] [pb] pos) := by
  obtain ⟨ta, hpa, ha⟩ := ha
  obtain ⟨tb, hpb, hb⟩ := hb
  obtain ⟨r, hr, ow⟩ := cop_any C ok.un o
  refine ⟨_, L2.pe_cmpR hr hpa hpb hm, fun σ H Q F S fp bq G w => ?_⟩
  refine ha σ H _ F S fp bq G (Want.bind w fun p F1 H1 fp1 v G1 E1 R1 w1 => ?_)
  refine hb σ H1 _ F1 p.2 fp1 bq G1 (Want.bind (w1.shift E1 fun _ _ _ _ _ r => RelV'.back E1 r) fun q F2 H2 fp2 u G2 E2 R2 w2 => ?_)
  exact ow p.1 q.1 v u F2 H2 Q G2.sub (R1.vw.up E2.f E2.h) R2.vw (givesC_of ok.toCtOk G2 E2 (fun r h => cop_bl h) w2)
/-- the same of a test -/
theorem tst_want {F₀ H₀ F H : Hp} {S : S} {σ : L2.St} {fp₀ fp bq : FP} {Q : Bool → Hp → Prop} {k : Bool} (G : Good C.X.K C.xr F H S σ fp bq) (e : Ext F₀ H₀ F H fp₀ fp)
    (w : Want C.X.K C.xr C.xd C.W σ F₀ H₀ fp₀ bq (fun _ _ _ (a b : Bool) => a = b) (tstOf (.ok (.fz (.bl k), S))) Q) : Q k H := w F H fp k G e rfl
theorem tst_bind {α : Type} {r : Res α} {f : α → Res (SV × S)} : tstOf (r.bind f) = r.bind fun x => tstOf (f x) := by cases r <;> rfl
theorem noex_bind_tst {x : Res PV} {F₀ H₀ F H : Hp} {S : S} {σ : L2.St} {fp₀ fp bq : FP} {Q : Bool → Hp → Prop} (G : Good C.X.K C.xr F H S σ fp bq) (e : Ext F₀ H₀ F H fp₀ fp) (hb : ∀ r, x = .ok r → ∃ k, r = .bl k)
    (w : Want C.X.K C.xr C.xd C.W σ F₀ H₀ fp₀ bq (fun _ _ _ (a b : Bool) => a = b) (tstOf (x.noex.bind fun r => .ok (.fz r, S))) Q) : GivesC x H (fun v H' => ∃ k, v = .bl k ∧ Q k H') := by
  cases x with
  | no => exact w.elim
  | ex x => exact w.elim
  | ok s =>
    obtain ⟨k, rfl⟩ := hb _ rfl
    exact ⟨k, rfl, tst_want G e w⟩
theorem sb_cmp (ok : CtK C) (o : Cop) (ha : SE C a pa) (hb : SE C b pb) (hm : behindInMarks (copOf o) pb = false) : SB C (.cmp o a b) (.Compare pa [copOf o] [pb] pos) := by
  obtain ⟨ta, hpa, ha⟩ := ha
  obtain ⟨tb, hpb, hb⟩ := hb
  obtain ⟨r, hr, ow⟩ := cop_any C ok.un o
  refine ⟨_, L2.pt_cmpR hr hpa hpb hm, fun σ H Q F S fp bq G w => ?_⟩
  have w : Want C.X.K C.xr C.xd C.W σ F H fp bq _ (tstOf ((ev C.fe a S).bind fun p => (ev C.fe b p.2).bind fun q => (cmpop o p.1.pv q.1.pv).noex.bind fun r => .ok (.fz r, q.2))) Q := w
  rw [tst_bind] at w
  refine ha σ H _ F S fp bq G (Want.bind w fun p F1 H1 fp1 v G1 E1 R1 w1 => ?_)
  rw [tst_bind] at w1
  refine hb σ H1 _ F1 p.2 fp1 bq G1 (Want.bind (w1.shift (Rel' := fun _ _ _ (a b : Bool) => a = b) E1 fun _ _ _ _ _ r => r) fun q F2 H2 fp2 u G2 E2 R2 w2 => ?_)
  exact ow p.1 q.1 v u F2 H2 _ G2.sub (R1.vw.up E2.f E2.h) R2.vw (noex_bind_tst G2 E2 (fun r h => cop_bl h) w2)
theorem isNon_rel {K : PySem.W.Frag} {F H : Hp} {s : SV} {v : V} (w : Vw K F H s v) : isNon s = decide (v = .non) := by
  obtain ⟨q, r⟩ := w
  cases r with
  | lst h t => rfl
  | fz r => cases r <;> rfl
theorem isn_eq (x : Bool) : (true == x) = x ∧ (false == x) = !x := by cases x <;> exact ⟨rfl, rfl⟩
theorem se_is (ok : CtK C) {k : Nat} {p2 : Pos} (ha : SE C a pa) : SE C (.isn true a) (.Compare pa [.Is] [.Constant .none k p2] pos) := by
  obtain ⟨ta, hpa, ha⟩ := ha
  refine ⟨_, L2.pe_cmpR L2.op_isN hpa L2.pe_non rfl, fun σ H Q F S fp bq G w => ?_⟩
  refine ha σ H _ F S fp bq G (Want.bind w fun p F1 H1 fp1 v G1 E1 R1 w1 => ?_)
  have e := isNon_rel R1.vw
  simp only [e, (isn_eq _).1] at w1
  exact ⟨rfl, want_sc ok.toCtOk G1 E1 (fun _ => .bl _) w1⟩
theorem se_isnot (ok : CtK C) {k : Nat} {p2 : Pos} (ha : SE C a pa) : SE C (.isn false a) (.Compare pa [.IsNot] [.Constant .none k p2] pos) := by
  obtain ⟨ta, hpa, ha⟩ := ha
  refine ⟨_, L2.pe_cmpR L2.op_notN hpa L2.pe_non rfl, fun σ H Q F S fp bq G w => ?_⟩
  refine ha σ H _ F S fp bq G (Want.bind w fun p F1 H1 fp1 v G1 E1 R1 w1 => ?_)
  have e := isNon_rel R1.vw
  simp only [e, (isn_eq _).2] at w1
  exact ⟨rfl, want_sc ok.toCtOk G1 E1 (fun _ => .bl _) w1⟩
theorem sb_is (ok : CtK C) {k : Nat} {p2 : Pos} (ha : SE C a pa) : SB C (.isn true a) (.Compare pa [.Is] [.Constant .none k p2] pos) := by
  obtain ⟨ta, hpa, ha⟩ := ha
  refine ⟨_, L2.pt_cmpR L2.op_isN hpa L2.pe_non rfl, fun σ H Q F S fp bq G w => ?_⟩
  have w : Want C.X.K C.xr C.xd C.W σ F H fp bq _ (tstOf ((ev C.fe a S).bind fun q => .ok (.fz (.bl (true == isNon q.1)), q.2))) Q := w
  rw [tst_bind] at w
  refine ha σ H _ F S fp bq G (Want.bind w fun p F1 H1 fp1 v G1 E1 R1 w1 => ?_)
  have e := isNon_rel R1.vw
  simp only [e, (isn_eq _).1] at w1
  exact ⟨rfl, _, rfl, tst_want G1 E1 w1⟩
theorem sb_isnot (ok : CtK C) {k : Nat} {p2 : Pos} (ha : SE C a pa) : SB C (.isn false a) (.Compare pa [.IsNot] [.Constant .none k p2] pos) := by
  obtain ⟨ta, hpa, ha⟩ := ha
  refine ⟨_, L2.pt_cmpR L2.op_notN hpa L2.pe_non rfl, fun σ H Q F S fp bq G w => ?_⟩
  have w : Want C.X.K C.xr C.xd C.W σ F H fp bq _ (tstOf ((ev C.fe a S).bind fun q => .ok (.fz (.bl (false == isNon q.1)), q.2))) Q := w
  rw [tst_bind] at w
  refine ha σ H _ F S fp bq G (Want.bind w fun p F1 H1 fp1 v G1 E1 R1 w1 => ?_)
  have e := isNon_rel R1.vw
  simp only [e, (isn_eq _).2] at w1
  exact ⟨rfl, _, rfl, tst_want G1 E1 w1⟩
theorem tru_rel {K : PySem.W.Frag} {H : Hp} {x : PV} {v : V} {k : Bool} (r : RF K H x v) (h : tru x = some k) : L2.TruV K v H k := by
  cases r with
  | non => cases h; rfl
  | bl b => cases h; rfl
  | int i => cases h; rfl
  | str z => cases h
  | scr hs => cases h
  | tup hs t => cases h; exact .inr (.inl ⟨_, hs, by cases t <;> rfl⟩)
  | lst hs t => cases h; exact .inl ⟨_, .inl hs, by cases t <;> rfl⟩
theorem sb_truth (ok : CtK C) (ha : SE C a pa) (he : ∀ whole, isTrue pa C.X.env whole = (do let v ← whole; standAt pa.pos; holding [v] (truthy v))) : SB C (.truth a) pa := by
  obtain ⟨ta, hpa, ha⟩ := ha
  refine ⟨_, L2.pt_truth hpa he, fun σ H Q F S fp bq G w => ?_⟩
  have w : Want C.X.K C.xr C.xd C.W σ F H fp bq _ (tstOf ((ev C.fe a S).bind fun p => match tru p.1.pv with | some b => .ok (.fz (.bl b), p.2) | none => .no)) Q := w
  rw [tst_bind] at w
  refine ha σ H _ F S fp bq G (Want.bind w fun p F1 H1 fp1 v G1 E1 R1 w1 => ?_)
  cases e : tru p.1.pv with
  | none => simp only [e] at w1; exact w1.elim
  | some k =>
    simp only [e] at w1
    exact ⟨k, tru_rel (R1.vw.rd G1.sub) e, tst_want G1 E1 w1⟩
/-- a bool, as a test -/
theorem sb_val (ha : SE C a pa) (he : ∀ whole, isTrue pa C.X.env whole = (do let v ← whole; standAt pa.pos; holding [v] (truthy v))) : SB C a pa := by
  obtain ⟨ta, hpa, ha⟩ := ha
  refine ⟨_, L2.pt_val hpa he, fun σ H Q F S fp bq G w => ?_⟩
  refine ha σ H _ F S fp bq G ?_
  unfold tstOf at w
  refine Want.bind w fun p F1 H1 fp1 v G1 E1 R1 w1 => ?_
  obtain ⟨s, S1⟩ := p
  have vw := R1.vw
  split at w1
  · rename_i k he
    have he : s = .fz (.bl k) := he
    subst he
    exact ⟨k, vw.bl, w1 F1 H1 fp1 k G1 E1 rfl⟩
  · exact w1.elim
theorem sb_nott (ha : SB C a pa) : SB C (.nott a) (.UnaryOp .Not pa pos) := by
  obtain ⟨ta, hpa, ha⟩ := ha
  refine ⟨_, L2.pt_not hpa, fun σ H Q F S fp bq G w => ?_⟩
  have w : Want C.X.K C.xr C.xd C.W σ F H fp bq _ (tstOf ((tstOf (ev C.fe a S)).bind fun p => .ok (.fz (.bl (!p.1)), p.2))) Q := w
  rw [tst_bind] at w
  refine ha σ H _ F S fp bq G (Want.bind w fun p F1 H1 fp1 k G1 E1 R1 w1 => ?_)
  have R1 : p.1 = k := R1
  subst R1
  exact tst_want G1 E1 w1
/-- a test's value: the and (or) of its tests -/
def SW (C : Ct) (e : Ex) (pe : Expr) : Prop := ∃ t, PW C.X pe t ∧ ∀ σ H Q F S fp bq, Good C.X.K C.xr F H S σ fp bq →
  Want C.X.K C.xr C.xd C.W σ F H fp bq (fun _ _ _ (a b : Bool) => a = b) (tstOf (ev C.fe e S)) Q → t σ H Q
theorem SW.sb (h : SW C e pe) : SB C e pe := let ⟨t, hp, h⟩ := h; ⟨t, hp.pt, h⟩
theorem sw_and1 (ha : SB C a pa) : SW C a (.BoolOp .And [pa] pos) := let ⟨t, hp, h⟩ := ha; ⟨t, L2.pw_and1 hp, h⟩
theorem sw_or1 (ha : SB C a pa) : SW C a (.BoolOp .Or [pa] pos) := let ⟨t, hp, h⟩ := ha; ⟨t, L2.pw_or1 hp, h⟩
theorem ite_cases {α : Type} {f : Bool → Res α} {b : Bool} : (match b with | true => f true | false => f false) = f b := by cases b <;> rfl
theorem sw_and {rest : List Expr} (ha : SB C a pa) (hb : SW C b (.BoolOp .And (pb :: rest) pos)) : SW C (.andd a b) (.BoolOp .And (pa :: pb :: rest) pos) := by
  obtain ⟨ta, hpa, ha⟩ := ha
  obtain ⟨tb, hpb, hb⟩ := hb
  refine ⟨_, L2.pw_and hpa hpb, fun σ H Q F S fp bq G w => ?_⟩
  have w : Want C.X.K C.xr C.xd C.W σ F H fp bq _ (tstOf ((tstOf (ev C.fe a S)).bind fun p => match p.1 with | true => ev C.fe b p.2 | false => .ok (.fz (.bl false), p.2))) Q := w
  rw [tst_bind] at w
  refine ha σ H _ F S fp bq G (Want.bind w fun p F1 H1 fp1 k G1 E1 R1 w1 => ?_)
  have R1 : p.1 = k := R1
  obtain ⟨k', S1⟩ := p
  subst R1
  cases k' with
  | true => exact hb σ H1 Q F1 S1 fp1 bq G1 (w1.shift (Rel' := fun _ _ _ (a b : Bool) => a = b) E1 fun _ _ _ _ _ r => r)
  | false => exact tst_want G1 E1 w1
theorem sw_or {rest : List Expr} (ha : SB C a pa) (hb : SW C b (.BoolOp .Or (pb :: rest) pos)) : SW C (.orr a b) (.BoolOp .Or (pa :: pb :: rest) pos) := by
  obtain ⟨ta, hpa, ha⟩ := ha
  obtain ⟨tb, hpb, hb⟩ := hb
  refine ⟨_, L2.pw_or hpa hpb, fun σ H Q F S fp bq G w => ?_⟩
  have w : Want C.X.K C.xr C.xd C.W σ F H fp bq _ (tstOf ((tstOf (ev C.fe a S)).bind fun p => match p.1 with | false => ev C.fe b p.2 | true => .ok (.fz (.bl true), p.2))) Q := w
  rw [tst_bind] at w
  refine ha σ H _ F S fp bq G (Want.bind w fun p F1 H1 fp1 k G1 E1 R1 w1 => ?_)
  have R1 : p.1 = k := R1
  obtain ⟨k', S1⟩ := p
  subst R1
  cases k' with
  | false => exact hb σ H1 Q F1 S1 fp1 bq G1 (w1.shift (Rel' := fun _ _ _ (a b : Bool) => a = b) E1 fun _ _ _ _ _ r => r)
  | true => exact tst_want G1 E1 w1
theorem se_one {op : BoolOp} (ha : SE C a pa) : SE C a (.BoolOp op [pa] pos) := let ⟨t, hp, h⟩ := ha; ⟨t, L2.pe_one hp, h⟩
theorem tst_inv {r : Res (SV × S)} {p : Bool × S} (h : tstOf r = .ok p) : r = .ok (.fz (.bl p.1), p.2) := by
  unfold tstOf at h
  cases r with
  | no => cases h
  | ex x => cases h
  | ok q =>
    obtain ⟨s, S1⟩ := q
    rw [Res.bind_ok] at h
    split at h
    · rename_i k he
      have he : s = .fz (.bl k) := he
      subst he
      cases h; rfl
    · cases h
/-- behind a value that must be a bool -/
theorem Want.bool {σ : L2.St} {F H : Hp} {fp bq : FP} {γ δ : Type} {RelB : Hp → Hp → FP → γ → δ → Prop} {path : Bool} {r : Res (SV × S)} {f : Bool × S → Res (γ × S)} {R : δ → Hp → Prop} {Q : VK}
    (w : Want C.X.K C.xr C.xd C.W σ F H fp bq RelB ((tstOf r).bind f) R)
    (k : ∀ b S' F' H' fp', Good C.X.K C.xr F' H' S' σ fp' bq → Ext F H F' H' fp fp' → Want C.X.K C.xr C.xd C.W σ F H fp bq RelB (f (b, S')) R → Q (.bl b) H') :
    Want C.X.K C.xr C.xd C.W σ F H fp bq (RelV' C.X.K H fp bq path) r Q := by
  cases r with
  | no => exact w
  | ex x => exact w
  | ok p =>
    obtain ⟨s, S'⟩ := p
    intro F' H' fp' v G E R
    unfold tstOf at w
    rw [Res.bind_ok] at w
    have vw := R.vw
    split at w
    · rename_i b he
      have he : s = .fz (.bl b) := he
      subst he
      rw [vw.bl]
      exact k b S' F' H' fp' G E w
    · exact w.elim
theorem se_andV {rest : List Expr} (ok : CtK C) (ha : SE C a pa) (hb : SE C b (.BoolOp .And (pb :: rest) pos)) (hp : isPath b = false) : SE C (.andd a b) (.BoolOp .And (pa :: pb :: rest) pos) := by
  obtain ⟨ta, hpa, ha⟩ := ha
  obtain ⟨tb, hpb, hb⟩ := hb
  refine ⟨_, L2.pe_and hpa hpb, fun σ H Q F S fp bq G w => ?_⟩
  have w : Want C.X.K C.xr C.xd C.W σ F H fp bq (RelV' C.X.K H fp bq false) ((tstOf (ev C.fe a S)).bind fun p => match p.1 with | true => ev C.fe b p.2 | false => .ok (.fz (.bl false), p.2)) Q := w
  refine ha σ H _ F S fp bq G (Want.bool w fun k S1 F1 H1 fp1 G1 E1 w1 => ⟨k, rfl, ?_⟩)
  cases k with
  | true => exact hb σ H1 Q F1 S1 fp1 bq G1 (by rw [hp]; exact w1.shift E1 fun _ _ _ _ _ r => RelV'.back E1 r)
  | false => exact want_sc ok.toCtOk G1 E1 (fun _ => .bl _) w1
theorem se_orV {rest : List Expr} (ok : CtK C) (ha : SE C a pa) (hb : SE C b (.BoolOp .Or (pb :: rest) pos)) (hp : isPath b = false) : SE C (.orr a b) (.BoolOp .Or (pa :: pb :: rest) pos) := by
  obtain ⟨ta, hpa, ha⟩ := ha
  obtain ⟨tb, hpb, hb⟩ := hb
  refine ⟨_, L2.pe_or hpa hpb, fun σ H Q F S fp bq G w => ?_⟩
  have w : Want C.X.K C.xr C.xd C.W σ F H fp bq (RelV' C.X.K H fp bq false) ((tstOf (ev C.fe a S)).bind fun p => match p.1 with | false => ev C.fe b p.2 | true => .ok (.fz (.bl true), p.2)) Q := w
  refine ha σ H _ F S fp bq G (Want.bool w fun k S1 F1 H1 fp1 G1 E1 w1 => ⟨k, rfl, ?_⟩)
  cases k with
  | true => exact want_sc ok.toCtOk G1 E1 (fun _ => .bl _) w1
  | false => exact hb σ H1 Q F1 S1 fp1 bq G1 (by rw [hp]; exact w1.shift E1 fun _ _ _ _ _ r => RelV'.back E1 r)
theorem se_notV (ok : CtK C) (ha : SE C a pa) : SE C (.nott a) (.UnaryOp .Not pa pos) := by
  obtain ⟨ta, hpa, ha⟩ := ha
  refine ⟨_, L2.pe_not hpa, fun σ H Q F S fp bq G w => ?_⟩
  have w : Want C.X.K C.xr C.xd C.W σ F H fp bq (RelV' C.X.K H fp bq false) ((tstOf (ev C.fe a S)).bind fun p => .ok (.fz (.bl (!p.1)), p.2)) Q := w
  exact ha σ H _ F S fp bq G (Want.bool w fun k S1 F1 H1 fp1 G1 E1 w1 => ⟨k, rfl, want_sc ok.toCtOk G1 E1 (fun _ => .bl _) w1⟩)
/-- where a value is asked: SE of valOf -/
def SV' (C : Ct) (e : Ex) (pe : Expr) : Prop := ∃ t, PE C.X pe t ∧ ∀ σ H Q F S fp bq, Good C.X.K C.xr F H S σ fp bq →
  Want C.X.K C.xr C.xd C.W σ F H fp bq (RelV' C.X.K H fp bq false) (valOf e (ev C.fe e S)) Q → t σ H Q
theorem SE.val (ha : SE C a pa) : SV' C a pa := by
  obtain ⟨ta, hpa, ha⟩ := ha
  refine ⟨_, hpa, fun σ H Q F S fp bq G w => ha σ H Q F S fp bq G ?_⟩
  unfold valOf at w
  refine Want.bind w fun p F1 H1 fp1 v G1 E1 R1 w1 => ?_
  obtain ⟨s, S1⟩ := p
  cases hp : isPath a with
  | false =>
    rw [hp] at R1
    simp only [hp] at w1
    exact w1 F1 H1 fp1 v G1 E1 R1
  | true =>
    cases s with
    | fz x =>
      simp only [hp] at w1
      obtain ⟨q, r, _⟩ := R1
      obtain ⟨r1, rfl⟩ := r.fz_inv
      exact w1 F1 H1 fp1 v G1 E1 (.fz0 r1)
    | lst l => simp only [hp] at w1; exact w1.elim
    | obj _ _ _ => simp only [hp] at w1; exact w1.elim
theorem se_ife (ok : CtK C) (ht : SB C t pt) (ha : SE C a pa) (hb : SE C b pb) : SE C (.ife t a b) (.IfExp pt pa pb pos) := by
  obtain ⟨tt, hpt, ht⟩ := ht
  obtain ⟨ta, hpa, ha⟩ := ha.val
  obtain ⟨tb, hpb, hb⟩ := hb.val
  refine ⟨_, L2.pe_ifExp hpt hpa hpb, fun σ H Q F S fp bq G w => ?_⟩
  refine ht σ H _ F S fp bq G (Want.bind w fun p F1 H1 fp1 k G1 E1 R1 w1 => ?_)
  have R1 : p.1 = k := R1
  obtain ⟨k', S1⟩ := p
  subst R1
  cases k' with
  | true => exact ha σ H1 Q F1 S1 fp1 bq G1 (w1.shift E1 fun _ _ _ _ _ r => RelV'.back E1 r)
  | false => exact hb σ H1 Q F1 S1 fp1 bq G1 (w1.shift E1 fun _ _ _ _ _ r => RelV'.back E1 r)
theorem se_keep (ha : SE C a pa) : SE C (.keep a) pa := by
  obtain ⟨ta, hpa, ha⟩ := ha.val
  exact ⟨ta, hpa, ha⟩
/-- as an element -/
theorem SE.elem (ok : CtK C) (ha : SE C a pa) : ∃ t, PE C.X pa t ∧ ∀ σ H Q F S fp bq, Good C.X.K C.xr F H S σ fp bq →
    Want C.X.K C.xr C.xd C.W σ F H fp bq (RelV' C.X.K H fp bq false) (elemOf a (ev C.fe a S)) Q → t σ H Q := by
  obtain ⟨ta, hpa, ha⟩ := ha.val
  refine ⟨_, hpa, fun σ H Q F S fp bq G w => ha σ H Q F S fp bq G ?_⟩
  unfold elemOf at w
  refine Want.bind w fun p F1 H1 fp1 v G1 E1 R1 w1 => ?_
  obtain ⟨s, S1⟩ := p
  cases hk : isKeep a with
  | true => simp only [hk] at w1; exact w1 F1 H1 fp1 v G1 E1 R1
  | false =>
    simp only [hk] at w1
    obtain ⟨q, r, o, _⟩ := R1
    obtain ⟨o, n⟩ := o rfl
    -- the value's own lists are frozen
    refine w1 (frz F1 H1 q) H1 fp1 v (G1.up ok.xr (sub_frz G1.sub) .refl (frz_sub G1.sub) fun i a ha => ?_) ⟨E1.f.trans (sub_frz G1.sub), E1.h, fun a ha hb => ?_, E1.own⟩ (.fz0 (r.frz' G1.sub q fun _ h => h))
    · rw [frz_out fun h => ((o.2 a h).2.2 i).1 ha]
      exact G1.fr i a ha
    · by_cases h : a ∈ q
      · exact .inl (n a h)
      · rw [frz_out h] at hb
        exact E1.new a ha hb
end
end PL

namespace PL
open PySem PyProof.Rows
open L2 (V Hp HO SqL SqT upd Rd Cx PE PT PW PA PS PSs PG PI PO Ends VK XK WX TE TT TA TS TO OpR R2 CallR)

/-- the elements of a display -/
def RelEs (K : PySem.W.Frag) (H₀ : Hp) (bq : FP) (F H : Hp) (fp : FP) (l : List SV) (vs : List V) : Prop := ∃ q, Rps K F H l vs q ∧ Own F H fp bq q ∧ NewIn H₀ q
theorem RelEs.back {K : PySem.W.Frag} {F H F' H' F2 H2 : Hp} {fp fp' fp2 bq : FP} {l : List SV} {vs : List V} (e : Ext F H F' H' fp fp') (r : RelEs K H' bq F2 H2 fp2 l vs) : RelEs K H bq F2 H2 fp2 l vs :=
  let ⟨q, r, o, n⟩ := r; ⟨q, r, o, n.back e.h⟩
def SEs (C : Ct) (es : Exs) (pes : List Expr) : Prop := ∃ t, PA C.X pes t ∧ ∀ σ H Q F S fp bq, Good C.X.K C.xr F H S σ fp bq →
  Want C.X.K C.xr C.xd C.W σ F H fp bq (RelEs C.X.K H bq) (evs C.fe es S) Q → t σ H Q
/-- views of arguments -/
def SBs (C : Ct) (es : Exs) (pes : List Expr) : Prop := ∃ t, PA C.X pes t ∧ ∀ σ H Q F S fp bq, Good C.X.K C.xr F H S σ fp bq →
  Want C.X.K C.xr C.xd C.W σ F H fp bq (fun F H _ => Vws C.X.K F H) (evBs C.fe es S) Q → t σ H Q
theorem Vws.up {K : PySem.W.Frag} {F H F' H' : Hp} (sf : Sub F F') (sh : Sub H H') : ∀ {l : List SV} {vs : List V}, Vws K F H l vs → Vws K F' H' l vs
  | _, _, .nil => .nil
  | _, _, .cons w t => .cons (w.up sf sh) (Vws.up sf sh t)
def notStar : Expr → Bool
  | .Starred _ _ => false
  | _ => true
theorem star_ns {e : Expr} {es : List Expr} {env : Env} (h : notStar e = true) : starEach (e :: es) env = (false, eval e env) :: starEach es env := by
  cases e <;> first | rfl | (cases h)
section
variable {C : Ct} {pos : Pos} {a b e i lo hi : Ex} {es : Exs} {pa pb pe pi pl ph : Expr} {pes : List Expr}
theorem ses_nil : SEs C .nil [] := ⟨_, L2.pa_nil, fun σ H Q F S fp bq G w => w F H fp [] G .refl ⟨[], .nil, .nil, .nil⟩⟩
theorem sbs_nil : SBs C .nil [] := ⟨_, L2.pa_nil, fun σ H Q F S fp bq G w => w F H fp [] G .refl .nil⟩
theorem ses_cons (ok : CtK C) (hs : notStar pe = true) (he : SE C e pe) (ht : SEs C es pes) : SEs C (.cons e es) (pe :: pes) := by
  obtain ⟨te, hpe, he⟩ := he.elem ok
  obtain ⟨tt, hpt, ht⟩ := ht
  refine ⟨_, L2.pa_cons hpe hpt (star_ns hs), fun σ H Q F S fp bq G w => ?_⟩
  refine he σ H _ F S fp bq G (Want.bind w fun p F1 H1 fp1 v G1 E1 R1 w1 => ?_)
  refine ht σ H1 _ F1 p.2 fp1 bq G1 (Want.bind (w1.shift (Rel' := RelEs C.X.K H bq) E1 fun _ _ _ _ _ r => r) fun q F2 H2 fp2 vs G2 E2 R2 w2 => ?_)
  obtain ⟨r, r1, o1, _⟩ := R1
  obtain ⟨o1, n1⟩ := o1 rfl
  obtain ⟨r', r2, o2, n2⟩ := R2
  exact w2 F2 H2 fp2 (v :: vs) G2 E2 ⟨r ++ r', .cons (r1.up E2.f E2.h) r2, o1.append E2 n2 o2, n1.append (n2.back E1.h)⟩
theorem sbs_cons (ok : CtK C) (hs : notStar pe = true) (he : SE C e pe) (ht : SBs C es pes) : SBs C (.cons e es) (pe :: pes) := by
  obtain ⟨te, hpe, he⟩ := he
  obtain ⟨tt, hpt, ht⟩ := ht
  refine ⟨_, L2.pa_cons hpe hpt (star_ns hs), fun σ H Q F S fp bq G w => ?_⟩
  refine he σ H _ F S fp bq G (Want.bind w fun p F1 H1 fp1 v G1 E1 R1 w1 => ?_)
  refine ht σ H1 _ F1 p.2 fp1 bq G1 (Want.bind (w1.shift (Rel' := fun F H _ => Vws C.X.K F H) E1 fun _ _ _ _ _ r => r) fun q F2 H2 fp2 vs G2 E2 R2 w2 => ?_)
  exact w2 F2 H2 fp2 (v :: vs) G2 E2 (.cons (R1.vw.up E2.f E2.h) R2)

/-- new own things are put under a new list -/
theorem se_lst (ok : CtK C) (h : SEs C es pes) : SE C (.lst es) (.List pes pos) := by
  obtain ⟨t, hp, h⟩ := h
  refine ⟨_, L2.pe_lst hp, fun σ H Q F S fp bq G w => ?_⟩
  refine h σ H _ F S fp bq G (Want.bind w fun p F1 H1 fp1 vs G1 E1 R1 w1 => ?_)
  obtain ⟨q, r, o, n⟩ := R1
  obtain ⟨l, S1⟩ := p
  cases hz : decide (l.length ≤ szLine) with
  | false => simp only [hz] at w1; exact w1.elim
  | true =>
    simp only [hz] at w1
    rw [decide_eq_true_eq, r.length, szLine_eq] at hz
    refine ⟨hz, fun a ha => ?_⟩
    have sh : Sub H1 (upd H1 a (.lst vs)) := .new ha
    refine w1 F1 (upd H1 a (.lst vs)) fp1 (.ref a) (G1.up ok.xr .refl sh (G1.sub.outer (G1.sub.nil_of ha)) G1.fr) ⟨E1.f, E1.h.trans sh, E1.new, E1.own⟩ ⟨a :: q, .lst L2.upd_same (r.up .refl sh), fun _ => ⟨⟨List.nodup_cons.mpr ⟨fun z => (o.2 a z).2.1 ha, o.1⟩, fun b hb => ?_⟩, ?_⟩, ?_⟩
    · rcases List.mem_cons.mp hb with e | hb
      · subst e
        exact ⟨G1.sub.nil_of ha, by rw [L2.upd_same]; exact (fun z => by cases z), fun i => ⟨fun z => G1.there i b (.inl z) ha, fun z => G1.there i b (.inr z) ha⟩⟩
      · exact ⟨(o.2 b hb).1, fun z => (o.2 b hb).2.1 (sh.nil_of z), (o.2 b hb).2.2⟩
    · intro b hb
      rcases List.mem_cons.mp hb with e | hb
      · rw [e]; exact E1.h.nil_of ha
      · exact n b hb
    · intro b hb
      rcases List.mem_cons.mp hb with e | hb
      · rw [e]; exact .inl (E1.h.nil_of ha)
      · exact .inl (n b hb)
theorem se_tup (ok : CtK C) {k : Nat} (h : SEs C es pes) : SE C (.tup es) (.Tuple pes k pos) := by
  obtain ⟨t, hp, h⟩ := h
  refine ⟨_, L2.pe_tup hp, fun σ H Q F S fp bq G w => ?_⟩
  refine h σ H _ F S fp bq G (Want.bind w fun p F1 H1 fp1 vs G1 E1 R1 w1 => ?_)
  obtain ⟨q, r, o, n⟩ := R1
  obtain ⟨l, S1⟩ := p
  cases hz : decide (l.length ≤ szLine) with
  | false => simp only [hz] at w1; exact w1.elim
  | true =>
    simp only [hz] at w1
    rw [decide_eq_true_eq, r.length, szLine_eq] at hz
    refine ⟨hz, fun a ha => ?_⟩
    -- the elements' own lists are frozen, then the tuple stands above them
    have G2 : Good C.X.K C.xr (frz F1 H1 q) H1 S1 σ fp1 bq := G1.up ok.xr (sub_frz G1.sub) .refl (frz_sub G1.sub) fun i a ha => by
      rw [frz_out fun h => ((o.2 a h).2.2 i).1 ha]
      exact G1.fr i a ha
    have m : Made C.X.K (frz F1 H1 q) H1 (.fz (.tup (SV.pvs l))) _ _ (.ref a) := .tup G2.sub ha (r.frz' G1.sub q fun _ h => h)
    exact m.done ok.xr G2 ⟨E1.f.trans (sub_frz G1.sub), E1.h, fun b hb hb' => (by
      by_cases h : b ∈ q
      · exact .inl (n b h)
      · rw [frz_out h] at hb'
        exact E1.new b hb hb'), E1.own⟩ w1
theorem ixP_eq (n : Nat) (i : Int) : ixP n i = L2.ixN n i := rfl
theorem plainIx {p : Expr} (h : ∀ l u s q, p ≠ .Slice l u s q) : L2.PlainIx p := fun o i => by
  cases p <;> first | rfl | exact absurd rfl (h _ _ _ _)
theorem RFs.at_ {K : PySem.W.Frag} {F : Hp} {l : List PV} {vs : List V} (t : RFs K F l vs) {n : Int} {y : PV} (h : atP l n = some y) : ∃ w, L2.atI vs n = some w ∧ RF K F y w := by
  obtain ⟨j, h1, h2⟩ := Option.bind_eq_some_iff.mp h
  obtain ⟨w, h3, h4⟩ := t.get h2
  rw [t.length] at h1
  exact ⟨w, by unfold L2.atI; rw [show L2.ixN _ n = some j from h1]; exact h3, h4⟩
theorem Rps.at_ {K : PySem.W.Frag} {F H : Hp} {l : List SV} {vs : List V} {q : List Addr} (t : Rps K F H l vs q) {n : Int} {y : SV} (h : atP l n = some y) : ∃ w r, L2.atI vs n = some w ∧ Rp K F H y w r ∧ ∀ a ∈ r, a ∈ q := by
  obtain ⟨j, h1, h2⟩ := Option.bind_eq_some_iff.mp h
  obtain ⟨w, r, h3, h4, h5⟩ := t.get h2
  rw [t.length] at h1
  exact ⟨w, r, by unfold L2.atI; rw [show L2.ixN _ n = some j from h1]; exact h3, h4, h5⟩
theorem se_idx (ok : CtK C) (ha : SE C a pa) (hi : SE C i pi) (hs : ∀ l u s q, pi ≠ .Slice l u s q) : SE C (.idx a i) (.Subscript pa pi pos) := by
  obtain ⟨ta, hpa, ha⟩ := ha
  obtain ⟨ti, hpi, hi⟩ := hi
  refine ⟨_, L2.pe_ix L2.ix_seq hpa hpi (plainIx hs), fun σ H Q F S fp bq G w => ?_⟩
  refine ha σ H _ F S fp bq G (Want.bind w fun p F1 H1 fp1 v G1 E1 R1 w1 => ?_)
  refine hi σ H1 _ F1 p.2 fp1 bq G1 (Want.bind (w1.shift (Rel' := RelV' C.X.K H fp bq true) E1 fun _ _ _ _ _ r => r) fun q F2 H2 fp2 u G2 E2 R2 w2 => ?_)
  obtain ⟨x, S1⟩ := p
  obtain ⟨k, S2⟩ := q
  obtain ⟨q, r, _, prov⟩ := R1
  have r := r.up E2.f E2.h
  have vk := R2.vw
  cases e : getIt x k with
  | none => simp only [e] at w2; exact w2.elim
  | some y =>
    simp only [e] at w2
    unfold getIt at e
    split at e
    · rename_i n
      rw [vk.int]
      unfold getN at e
      split at e
      · rename_i z _
        obtain ⟨r1, _⟩ := r.fz_inv
        cases r1
        by_cases hz : z.length ≤ szLine
        · rw [if_pos hz] at e
          obtain ⟨c, h1, h2⟩ := Option.map_eq_some_iff.mp e
          subst h2
          exact .inr (.inr ⟨_, n, c, rfl, rfl, by rw [← szLine_eq]; exact hz, h1, w2 F2 H2 fp2 _ G2 E2 (.fz0 (.str _))⟩)
        · rw [if_neg hz] at e; cases e
      · obtain ⟨c, h1, h2⟩ := Option.map_eq_some_iff.mp e
        subst h2
        obtain ⟨r1, _⟩ := r.fz_inv
        cases r1 with
        | tup hs t =>
          obtain ⟨wv, h4, h5⟩ := t.at_ h1
          exact .inr (.inl ⟨_, _, n, wv, rfl, rfl, sqT_mono G2.sub hs, h4, w2 F2 H2 fp2 wv G2 E2 (.fz0 h5)⟩)
      · obtain ⟨c, h1, h2⟩ := Option.map_eq_some_iff.mp e
        subst h2
        obtain ⟨r1, _⟩ := r.fz_inv
        cases r1 with
        | lst hs t =>
          obtain ⟨wv, h4, h5⟩ := t.at_ h1
          exact .inl ⟨_, _, n, wv, rfl, rfl, .inl (rd_mono G2.sub hs), h4, w2 F2 H2 fp2 wv G2 E2 (.fz0 h5)⟩
      · cases r with
        | lst hs t =>
          obtain ⟨wv, q', h4, h5, h6⟩ := t.at_ e
          exact .inl ⟨_, _, n, wv, rfl, rfl, .inl (.inl hs), h4, w2 F2 H2 fp2 wv G2 E2 ⟨q', h5, fun h => (nomatch h), fun a ha => prov a (List.mem_cons_of_mem _ (h6 a ha))⟩⟩
      · cases e
    · cases e
end
end PL

namespace PL
open PySem PyProof.Rows
open L2 (V Hp HO SqL SqT upd Rd Cx PE PT PW PA PS PSs PG PI PO Ends VK XK WX TE TT TA TS TO OpR R2 CallR SlR)

/-- a part of a slice -/
def SO (C : Ct) (e : Ex) (pe : Option Expr) : Prop := ∃ t, PO C.X pe t ∧ ∀ σ H Q F S fp bq, Good C.X.K C.xr F H S σ fp bq →
  Want C.X.K C.xr C.xd C.W σ F H fp bq (fun _ _ _ (a b : Option Int) => a = b) (optOf e (ev C.fe e S)) Q → t σ H Q
section
variable {C : Ct} {pos : Pos} {a b e i lo hi : Ex} {es : Exs} {pa pb pe : Expr} {pes : List Expr} {pl ph : Option Expr}
theorem so_none : SO C (.c .non) none := ⟨_, L2.po_none, fun σ H Q F S fp bq G w => w F H fp none G .refl rfl⟩
theorem so_some (h : SE C e pe) (hn : isNonE e = false) : SO C e (some pe) := by
  obtain ⟨t, hp, h⟩ := h
  refine ⟨_, L2.po_some hp, fun σ H Q F S fp bq G w => ?_⟩
  refine h σ H _ F S fp bq G ?_
  unfold optOf at w
  rw [hn] at w
  cases hr : ev C.fe e S with
  | no => rw [hr] at w; exact w
  | ex x => rw [hr] at w; exact w
  | ok p =>
    obtain ⟨s, S'⟩ := p
    rw [hr] at w
    intro F1 H1 fp1 v G1 E1 R1
    have rv := R1.vw.rd G1.sub
    have w : Want C.X.K C.xr C.xd C.W σ F H fp bq (fun _ _ _ (a b : Option Int) => a = b) (match asInt s.pv with | some o => .ok (some o, S') | none => .no) Q := w
    generalize s.pv = x at *
    cases x with
    | int i => cases rv; exact ⟨i, rfl, w F1 H1 fp1 (some i) G1 E1 rfl⟩
    | _ => exact w.elim
/-- every slice of a list, a tuple -/
def rSlX (K : PySem.W.Frag) : V → Option Int → Option Int → Hp → VK → Prop := fun x lo hi H Q => L2.rSlL K x lo hi H Q ∨ L2.rSlA K x lo hi H Q
theorem sl_any : SlR C.X (rSlX C.X.K) := L2.SlR.or L2.sl_list L2.sl_tupA
theorem RFs.cut {K : PySem.W.Frag} {F : Hp} {l : List PV} {vs : List V} (t : RFs K F l vs) (lo hi : Option Int) : RFs K F (PL.cut l lo hi) (L2.cutV vs lo hi) := by
  unfold PL.cut L2.cutV
  rw [t.length]
  exact (t.drop _).take _
theorem Rps.take {K : PySem.W.Frag} {F H : Hp} : ∀ {l : List SV} {vs : List V} {q : List Addr} (n : Nat), Rps K F H l vs q → ∃ r, Rps K F H (l.take n) (vs.take n) r
  | _, _, _, 0, _ => ⟨_, .nil⟩
  | _, _, _, _ + 1, .nil => ⟨_, .nil⟩
  | _, _, _, n + 1, .cons h t => let ⟨_, r⟩ := Rps.take n t; ⟨_, .cons h r⟩
theorem Rps.drop {K : PySem.W.Frag} {F H : Hp} : ∀ {l : List SV} {vs : List V} {q : List Addr} (n : Nat), Rps K F H l vs q → ∃ r, Rps K F H (l.drop n) (vs.drop n) r
  | _, _, _, 0, h => ⟨_, h⟩
  | _, _, _, _ + 1, .nil => ⟨_, .nil⟩
  | _, _, _, n + 1, .cons _ t => Rps.drop n t
theorem Rps.cut {K : PySem.W.Frag} {F H : Hp} {l : List SV} {vs : List V} {q : List Addr} (t : Rps K F H l vs q) (lo hi : Option Int) : ∃ r, Rps K F H (PL.cut l lo hi) (L2.cutV vs lo hi) r := by
  unfold PL.cut L2.cutV
  rw [t.length]
  obtain ⟨r, t⟩ := t.drop (HT.sIx vs.length 0 lo)
  exact t.take _
theorem cut_whole {α : Type} {l : List α} {lo hi : Option Int} (h : HT.sIx l.length 0 lo = 0 ∧ HT.sIx l.length l.length hi = l.length) : PL.cut l lo hi = l := by
  unfold PL.cut
  rw [show sIxP l.length 0 lo = 0 from h.1, show sIxP l.length l.length hi = l.length from h.2]
  simp
theorem cut_ints (ns : List Int) (lo hi : Option Int) : L2.cutV (ns.map V.int) lo hi = (PL.cut ns lo hi).map V.int := by
  unfold L2.cutV PL.cut
  rw [List.length_map, List.map_take, List.map_drop]
  rfl
theorem ints_rfs {K : PySem.W.Frag} {F : Hp} : ∀ ns : List Int, RFs K F (ns.map .int) (ns.map V.int)
  | [] => .nil
  | n :: ns => .cons (.int n) (ints_rfs ns)
theorem cut_ok {F H : Hp} {x : SV} {v : V} {lo hi : Option Int} {Q : VK} (s : Sub F H) (w : Vw C.X.K F H x v) (g : Gives C.X.K F H (Res.ofOpt (cutIt lo hi x)) Q) : rSlX C.X.K v lo hi H Q := by
  unfold cutIt at g
  split at g
  · obtain ⟨p, vs, rfl, h2, h3⟩ := w.tup
    refine .inr ⟨p, vs, rfl, sqT_mono s h2, fun h => ?_, fun h q hq => g _ _ _ (.tup s hq (h3.cut lo hi))⟩
    rw [← h3.length] at h
    rw [cut_whole h] at g
    exact g _ _ _ (.here s (.tup h2 h3))
  · obtain ⟨p, vs, rfl, h2, h3⟩ := w.fl s
    exact .inl ⟨p, vs, rfl, .inl h2, fun q hq => g _ _ _ (.lst s hq (h3.cut lo hi))⟩
  · rename_i l
    cases e : allFz (PL.cut l lo hi) with
    | none => rw [e] at g; exact g.elim
    | some ys =>
      rw [e] at g
      obtain ⟨p, vs, q, rfl, h2, h3⟩ := w.ol
      obtain ⟨r, h3⟩ := h3.cut lo hi
      rw [allFz_some e] at h3
      exact .inl ⟨p, vs, rfl, .inl h2, fun q hq => g _ _ _ (.lst s hq h3.fz.1)⟩
  · rename_i l
    obtain ⟨q, r⟩ := w
    cases r with
    | fz r =>
      cases r with
      | scr hs =>
        refine .inl ⟨_, _, rfl, sqL_mono s hs, fun q hq => ?_⟩
        have g : ∀ F' H' v, Made C.X.K F H (.lst ((PL.cut l lo hi).map fun i => .fz (.int i))) F' H' v → Q v H' := g
        have m := Made.lst (K := C.X.K) s hq (ints_rfs (PL.cut l lo hi))
        rw [List.map_map] at m
        rw [cut_ints]
        exact g _ _ _ m
  · exact g.elim
theorem se_sl (ok : CtK C) {p2 : Pos} (ha : SE C a pa) (hl : SO C lo pl) (hh : SO C hi ph) : SE C (.sl a lo hi) (.Subscript pa (.Slice pl ph none p2) pos) := by
  obtain ⟨ta, hpa, ha⟩ := ha
  obtain ⟨tl, hpl, hl⟩ := hl
  obtain ⟨th, hph, hh⟩ := hh
  refine ⟨_, L2.pe_slice sl_any hpa hpl hph, fun σ H Q F S fp bq G w => ?_⟩
  refine ha σ H _ F S fp bq G (Want.bind w fun p F1 H1 fp1 v G1 E1 R1 w1 => ?_)
  refine hl σ H1 _ F1 p.2 fp1 bq G1 (Want.bind (w1.shift (Rel' := RelV' C.X.K H fp bq false) E1 fun _ _ _ _ _ r => r) fun l F2 H2 fp2 l' G2 E2 R2 w2 => ?_)
  have E2' := E1.trans E2
  refine hh σ H2 _ F2 l.2 fp2 bq G2 (Want.bind (w2.shift (Rel' := RelV' C.X.K H fp bq false) E2 fun _ _ _ _ _ r => r) fun h F3 H3 fp3 h' G3 E3 R3 w3 => ?_)
  have R2 : l.1 = l' := R2
  have R3 : h.1 = h' := R3
  subst R2 R3
  refine cut_ok G3.sub ((R1.vw.up E2.f E2.h).up E3.f E3.h) ?_
  cases e : cutIt l.1 h.1 p.1 with
  | none => simp only [e] at w3; exact w3.elim
  | some y =>
    simp only [e] at w3
    have E := E2'.trans E3
    exact fun F' H' v m => w3 F' H' fp3 v (m.good ok.xr G3) (E3.trans m.ext) ((m.own G3 false).back E)
theorem se_rev (ok : CtK C) {k : Nat} {p1 p2 p3 : Pos} (ha : SE C a pa) : SE C (.rev a) (.Subscript pa (.Slice none none (some (.UnaryOp .USub (.Constant (.int 1) k p1) p2)) p3) pos) := by
  obtain ⟨ta, hpa, ha⟩ := ha
  refine ⟨_, L2.pe_revL hpa, fun σ H Q F S fp bq G w => ?_⟩
  refine ha σ H _ F S fp bq G (Want.bind w fun p F1 H1 fp1 v G1 E1 R1 w1 => ?_)
  obtain ⟨x, S1⟩ := p
  have vw := R1.vw
  cases e : revIt x with
  | none => simp only [e] at w1; exact w1.elim
  | some y =>
    simp only [e] at w1
    have fin : ∀ F' H' v, Made C.X.K F1 H1 y F' H' v → Q v H' := fun F' H' v m => m.done ok.xr G1 E1 w1
    unfold revIt at e
    split at e
    · cases e
      obtain ⟨p, vs, rfl, h2, h3⟩ := vw.fl G1.sub
      exact ⟨p, vs, rfl, .inl h2, fun q hq => fin _ _ _ (.lst G1.sub hq h3.reverse)⟩
    · rename_i l
      cases e' : allFz l with
      | none => rw [e'] at e; cases e
      | some ys =>
        rw [e'] at e
        cases e
        obtain ⟨p, vs, rfl, h2, h3⟩ := vw.ofl e'
        exact ⟨p, vs, rfl, .inl h2, fun q hq => fin _ _ _ (.lst G1.sub hq h3.reverse)⟩
    · cases e
/-- how a built-in is reached -/
inductive BiAt (C : Ct) : Bi → Str → Prop
  | len : L2.Gl C.X "len" → C.X.mg "len" = none → BiAt C .len "len"
  | abs : L2.Gl C.X "abs" → C.X.mg "abs" = none → BiAt C .abs "abs"
  | int : L2.Gl C.X "int" → C.X.mg "int" = none → BiAt C .int "int"
  | tuple : L2.Gl C.X "tuple" → C.X.mg "tuple" = none → BiAt C .tuple "tuple"
  | list : L2.Gl C.X "list" → C.X.mg "list" = none → BiAt C .list "list"
  | sum : L2.Gl C.X "sum" → C.X.mg "sum" = none → BiAt C .sum "sum"
  | max : L2.Gl C.X "max" → C.X.mg "max" = none → BiAt C .max "max"
  | min : L2.Gl C.X "min" → C.X.mg "min" = none → BiAt C .min "min"
  | repr : C.g = true → L2.Gl C.X "repr" → C.X.mg "repr" = none → BiAt C .repr "repr"
  | gcd : L2.Gl C.X "gcd" → C.X.mg "gcd" = some (.builtin "math.gcd") → BiAt C .gcd "gcd"
theorem call_maxA (ok : CtK C) : CallR C.X (.builtin "max") (rMx C.X.K) := L2.CallR.or (L2.cr_max ok.calm) (L2.call_max2 ok.calm)
theorem call_minA (ok : CtK C) : CallR C.X (.builtin "min") (rMn C.X.K) := L2.CallR.or (L2.cr_min ok.calm) (L2.call_min2 ok.calm)
theorem stars_plain {es : List Expr} {env : Env} {pos : Pos} (h : es.all notStar = true) : (backTo pos (starEach es env)).any (·.1) = false := by
  induction es with
  | nil => rfl
  | cons e es ih =>
    rw [List.all_cons, Bool.and_eq_true] at h
    rw [star_ns h.1]
    show (false || (backTo pos (starEach es env)).any (·.1)) = false
    rw [Bool.false_or]
    exact ih h.2
theorem bi_reach (ok : CtK C) {b : Bi} {x : Str} {e : Expr} {es : List Expr} {t : TA} {p : Pos} (h : BiAt C b x) (ha : PA C.X (e :: es) t) (hs : (e :: es).all notStar = true) :
    ∃ r, BiW C b r ∧ PE C.X (.Call (.Name x p) (e :: es) [] pos) (L2.tCB r t) := by
  rw [List.all_cons, Bool.and_eq_true] at hs
  have h1 := star_ns (es := es) (env := C.X.env) hs.1
  have h2 := stars_plain (env := C.X.env) (pos := pos) hs.2
  cases h with
  | len hg hm => exact ⟨_, bw_len, L2.pe_callB call_lenA hg hm PySem.boot_len ha (by decide) (by decide) h1 h2⟩
  | abs hg hm => exact ⟨_, bw_abs, L2.pe_callB L2.call_abs hg hm (by decide +kernel) ha (by decide) (by decide) h1 h2⟩
  | int hg hm => exact ⟨_, bw_int, L2.pe_callTy L2.call_int1 hg hm (by decide +kernel) ha (by decide) (by decide) h1 h2⟩
  | tuple hg hm => exact ⟨_, bw_tuple, L2.pe_callTy L2.call_tuple_of hg hm (by decide +kernel) ha (by decide) (by decide) h1 h2⟩
  | list hg hm => exact ⟨_, bw_list, L2.pe_callTy L2.call_list_of hg hm (by decide +kernel) ha (by decide) (by decide) h1 h2⟩
  | sum hg hm => exact ⟨_, bw_sum, L2.pe_callB (L2.cr_sum ok.calm) hg hm (by decide +kernel) ha (by decide) (by decide) h1 h2⟩
  | max hg hm => exact ⟨_, bw_max, L2.pe_callB (call_maxA ok) hg hm (by decide +kernel) ha (by decide) (by decide) h1 h2⟩
  | min hg hm => exact ⟨_, bw_min, L2.pe_callB (call_minA ok) hg hm (by decide +kernel) ha (by decide) (by decide) h1 h2⟩
  | repr hq hg hm => exact ⟨_, bw_repr, L2.pe_callB (call_reprD (ok.gd hq) ok.un) hg hm (by decide +kernel) ha (by decide) (by decide) h1 h2⟩
  | gcd hg hm => exact ⟨_, bw_gcd, L2.pe_callBfun L2.cr_gcd hg hm ha (by decide) h1 h2⟩
theorem se_bi (ok : CtK C) {b : Bi} {x : Str} {e : Expr} {p : Pos} (h : BiAt C b x) (ha : SBs C es (e :: pes)) (hs : (e :: pes).all notStar = true) : SE C (.bi b es) (.Call (.Name x p) (e :: pes) [] pos) := by
  obtain ⟨t, hp, ha⟩ := ha
  obtain ⟨r, hw, hr⟩ := bi_reach (pos := pos) (p := p) ok h hp hs
  refine ⟨_, hr, fun σ H Q F S fp bq G w => ?_⟩
  refine ha σ H _ F S fp bq G (Want.bind w fun p F1 H1 fp1 vs G1 E1 R1 w1 => ?_)
  exact hw p.1 vs F1 H1 Q G1.sub R1 (gives_of ok.toCtOk G1 E1 w1)
def tyName : Ty → String
  | .int => "int"
  | .bool => "bool"
  | .tuple => "tuple"
  | .list => "list"
  | .str => "str"
  | .cls _ => "?"
def isCls : Ty → Bool
  | .cls _ => true
  | _ => false
theorem ty_rel {K : PySem.W.Frag} {H : Hp} {x : PV} {v : V} (r : RF K H x v) (t : Ty) (h : isCls t = false) : ∃ ty, L2.TyX K H v ty ∧ PySem.W.kitOne K ty (.type (tyName t)) = some (isTy t x) := by
  have scr : ∀ {l : List Int} {a : Addr}, SqL K H a (l.map V.int) → L2.TyX K H (.ref a) (.type "list") := fun hs => by
    rcases hs with (e | ⟨o, e⟩) | ⟨o, its, n, e, c, _⟩
    · exact .base (.lst e)
    · exact .base (.frz e)
    · exact .kList e c
  have tup : ∀ {vs : List V} {a : Addr}, SqT K H a vs → L2.TyX K H (.ref a) (.type "tuple") := fun hs => by
    rcases hs with (e | ⟨o, e⟩) | ⟨o, its, n, e, c, _⟩
    · exact .base (.tup e)
    · exact .fTuple e
    · exact .kTuple e c
  cases r with
  | non => exact ⟨_, .base .non, by cases t <;> first | exact L2.kit_ty (r := true) (by decide +kernel) | exact L2.kit_ty (r := false) (by decide +kernel) | cases h⟩
  | bl b => exact ⟨_, .base (.bl b), by cases t <;> first | exact L2.kit_ty (r := true) (by decide +kernel) | exact L2.kit_ty (r := false) (by decide +kernel) | cases h⟩
  | int b => exact ⟨_, .base (.int b), by cases t <;> first | exact L2.kit_ty (r := true) (by decide +kernel) | exact L2.kit_ty (r := false) (by decide +kernel) | cases h⟩
  | str b => exact ⟨_, .base (.str b), by cases t <;> first | exact L2.kit_ty (r := true) (by decide +kernel) | exact L2.kit_ty (r := false) (by decide +kernel) | cases h⟩
  | scr hs => exact ⟨_, scr hs, by cases t <;> first | exact L2.kit_ty (r := true) (by decide +kernel) | exact L2.kit_ty (r := false) (by decide +kernel) | cases h⟩
  | tup hs _ => exact ⟨_, tup hs, by cases t <;> first | exact L2.kit_ty (r := true) (by decide +kernel) | exact L2.kit_ty (r := false) (by decide +kernel) | cases h⟩
  | lst hs _ => exact ⟨_, (by rcases hs with e | ⟨o, e⟩; exact .base (.lst e); exact .base (.frz e)), by cases t <;> first | exact L2.kit_ty (r := true) (by decide +kernel) | exact L2.kit_ty (r := false) (by decide +kernel) | cases h⟩
end
end PL

namespace PL
open PySem PyProof.Rows
open L2 (V Hp HO SqL SqT upd Rd Cx PE PT PW PA PS PSs PG PI PO Ends VK XK WX TE TT TA TS TO OpR R2 CallR SlR)

section
variable {C : Ct} {pos : Pos} {a : Ex} {es : Exs} {pa : Expr} {pes : List Expr}
theorem pe_tyName {X : Cx} {n : String} {x : Str} {p : Pos} (hg : L2.Gl X x) (hm : X.mg x = none) (hv : bootBuiltins x = some (.type n)) (hn : x ≠ "__name__") (hd : (x == ("__debug__" : Str)) = false) : PE X (.Name x p) (L2.tC (.ty n)) := L2.pe_bltn hg hm hv rfl hn hd
/-- a built-in class's name -/
inductive TyAt (C : Ct) : Ty → Str → Prop
  | int : L2.Gl C.X "int" → C.X.mg "int" = none → TyAt C .int "int"
  | bool : L2.Gl C.X "bool" → C.X.mg "bool" = none → TyAt C .bool "bool"
  | tuple : L2.Gl C.X "tuple" → C.X.mg "tuple" = none → TyAt C .tuple "tuple"
  | list : L2.Gl C.X "list" → C.X.mg "list" = none → TyAt C .list "list"
  | str : L2.Gl C.X "str" → C.X.mg "str" = none → TyAt C .str "str"
theorem TyAt.pe {t : Ty} {x : Str} {p : Pos} (h : TyAt C t x) : PE C.X (.Name x p) (L2.tC (.ty (tyName t))) ∧ isCls t = false := by
  cases h with
  | int hg hm => exact ⟨pe_tyName hg hm (by decide +kernel) (by decide) (by decide), rfl⟩
  | bool hg hm => exact ⟨pe_tyName hg hm (by decide +kernel) (by decide) (by decide), rfl⟩
  | tuple hg hm => exact ⟨pe_tyName hg hm (by decide +kernel) (by decide) (by decide), rfl⟩
  | list hg hm => exact ⟨pe_tyName hg hm (by decide +kernel) (by decide) (by decide), rfl⟩
  | str hg hm => exact ⟨pe_tyName hg hm (by decide +kernel) (by decide) (by decide), rfl⟩
theorem se_isi (ok : CtK C) {t : Ty} {x : Str} {p p2 : Pos} (hg : L2.Gl C.X "isinstance") (hm : C.X.mg "isinstance" = none) (ht : TyAt C t x) (hs : notStar pa = true) (ha : SE C a pa) :
    SE C (.isi a [t]) (.Call (.Name "isinstance" p) [pa, .Name x p2] [] pos) := by
  obtain ⟨ta, hpa, ha⟩ := ha
  obtain ⟨hty, hc⟩ := ht.pe (p := p2)
  refine ⟨_, L2.pe_callB L2.call_isi hg hm (by decide +kernel) (L2.pa_cons hpa (L2.pa_cons hty L2.pa_nil) (star_ns hs)) (by decide) (by decide) (star_ns hs) rfl, fun σ H Q F S fp bq G w => ?_⟩
  refine ha σ H _ F S fp bq G (Want.bind w fun p F1 H1 fp1 v G1 E1 R1 w1 => ?_)
  obtain ⟨ty, h1, h2⟩ := ty_rel (R1.vw.rd G1.sub) t hc
  have w1 : Want C.X.K C.xr C.xd C.W σ F H fp bq (RelV' C.X.K H fp bq false) (.ok (.fz (.bl (isTy t p.1.pv || false)), p.2)) Q := w1
  rw [Bool.or_false] at w1
  exact ⟨v, .ty (tyName t), ty, .type (tyName t), isTy t p.1.pv, rfl, .ty _, h1, h2, want_sc ok.toCtOk G1 E1 (fun _ => .bl _) w1⟩

/-- the arguments: q the own lists that are handed over, b those that are lent -/
inductive ArgR (K : PySem.W.Frag) (F H : Hp) : List Sl → List V → List Addr → List Addr → Prop
  | nil : ArgR K F H [] [] [] []
  | ow {s : SV} {v : V} {l : List Sl} {vs : List V} {q r b : List Addr} : Rp K F H s v q → ArgR K F H l vs r b → ArgR K F H (.ow s :: l) (v :: vs) (q ++ r) b
  | bw {s : SV} {v : V} {l : List Sl} {vs : List V} {q r b : List Addr} : Rp K F H s v q → ArgR K F H l vs r b → ArgR K F H (.bw s :: l) (v :: vs) r (q ++ b)
theorem ArgR.up {K : PySem.W.Frag} {F H F' H' : Hp} (sf : Sub F F') (sh : Sub H H') : ∀ {l : List Sl} {vs : List V} {q b : List Addr}, ArgR K F H l vs q b → ArgR K F' H' l vs q b
  | _, _, _, _, .nil => .nil
  | _, _, _, _, .ow h t => .ow (h.up sf sh) (ArgR.up sf sh t)
  | _, _, _, _, .bw h t => .bw (h.up sf sh) (ArgR.up sf sh t)
theorem ArgR.length {K : PySem.W.Frag} {F H : Hp} : ∀ {l : List Sl} {vs : List V} {q b : List Addr}, ArgR K F H l vs q b → l.length = vs.length
  | _, _, _, _, .nil => rfl
  | _, _, _, _, .ow _ t => by rw [List.length_cons, List.length_cons, ArgR.length t]
  | _, _, _, _, .bw _ t => by rw [List.length_cons, List.length_cons, ArgR.length t]
/-- what a def's run leaves: v is s; the lists at q may have changed -/
structure Left (K : PySem.W.Frag) (F H : Hp) (q : List Addr) (s : SV) (F' H' : Hp) (v : V) : Prop where
  f : Sub F F'
  h : ∀ a o, H a = some o → a ∉ q → H' a = some o
  sub : Sub F' H'
  new : ∀ a, F a = none → F' a ≠ none → H a = none ∨ a ∈ q
  rel : ∃ r, Rp K F' H' s v r ∧ r.Nodup ∧ ∀ a ∈ r, F' a = none ∧ (H a = none ∨ a ∈ q)
/-- a def's promise by a function -/
def CallSp (K : PySem.W.Frag) (xd : Exc → Value → Option Addr → Hp → Prop) (n : Nat) (g : List Sl → Res SV) : L2.Sp := fun vs H Q E => ∃ F l q b,
  Sub F H ∧ vs.length = n ∧ ArgR K F H l vs q b ∧ q.Nodup ∧ (∀ a ∈ q, F a = none) ∧ (∀ a ∈ b, a ∉ q) ∧ match g l with
    | .no => False
    | .ok s => ∀ F' H' v, Left K F H q s F' H' v → Q v H'
    | .ex x => ∀ F' H' cls d, Sub F F' → (∀ a o, H a = some o → a ∉ q → H' a = some o) → Sub F' H' → (∀ a, F a = none → F' a ≠ none → H a = none ∨ a ∈ q) → xd x cls d F' → E cls d H'
/-- a def keeps its promise where no repr is under way -/
structure FnP (g : Bool) (P : Program) (w : World) (K : PySem.W.Frag) (mg : Str → Option Value) (base : Heap) (k : Nat) (f : Addr) (fd : FuncData) (ps : List Str) (sp : L2.Sp) : Prop where
  len : ∀ vs H Q E, sp vs H Q E → vs.length = ps.length
  run : ∀ (A : Around) (outer : List Env) (s : Shared) (H : Hp) (args : Args) (us : List Value) (vs : List V) (Q : VK) (E : XK), L2.Room k A → (g = true → A.guards = some []) → L2.Env0 P w K mg base A outer s H → BindsTo s fd args (ps.zip us) → L2.Vals vs us → sp vs H Q E →
    codeAny (model P w) A (.call (.ref f) args) (L2.CR (L2.CX P w) outer P w H s Q E) s
theorem run_P {g : Bool} {X : Cx} {W : WX} {k : Nat} {f : Addr} {fd : FuncData} {ps : List Str} {sp : L2.Sp} {pins : List (Addr × Obj)} {σ : L2.St} {H : Hp} {s : Shared} {Q : VK} {us : List Value} {vs : List V}
    (G : FnP g X.prog X.w X.K X.mg X.base k f fd ps sp) (room : L2.Room k X.A) (quiet : g = true → X.A.guards = some []) (bind : L2.Binds X.K fd ps []) (tk : L2.Takes X W)
    (I : L2.Inv X pins σ H s) (rel : L2.Vals vs us) (hyp : sp vs H Q (L2.WE W σ)) : wpAny (model X.prog X.w) X.A (call (.ref f) us) (L2.EP X pins σ Q) X.xe s := by
  have many : us.length = ps.length := by rw [← rel.length]; exact G.len _ _ _ _ hyp
  have bound := bind s us I.kIn (by rw [List.append_nil]; exact many)
  rw [List.append_nil] at bound
  refine wpAny_call (codeAny_mono (G.run X.A X.stack s H ⟨us, []⟩ us vs Q (L2.WE W σ) room quiet I.env0 bound rel hyp) fun result s2 what => ?_)
  match result, what with
  | .error e, what => exact L2.passAt tk σ pins H s e s2 I what
  | .ok (.ret u), what => exact I.after what
theorem pe_callP {g : Bool} {X : Cx} {W : WX} {k : Nat} {f : Addr} {fd : FuncData} {ps : List Str} {sp : L2.Sp} {x : Str} {p pos : Pos} {e : Expr} {es : List Expr} {t : TA}
    (G : FnP g X.prog X.w X.K X.mg X.base k f fd ps sp) (room : L2.Room k X.A) (quiet : g = true → X.A.guards = some []) (hg : L2.Gl X x) (hm : X.mg x = some (.ref f)) (hk : PySem.W.keepIn X.K (.ref f) = true) (bind : L2.Binds X.K fd ps []) (tk : L2.Takes X W)
    (ha : PA X (e :: es) t) (hdb : (x == ("__debug__" : Str)) = false) (hs : (e :: es).all notStar = true) : PE X (.Call (.Name x p) (e :: es) [] pos) (fun σ H Q => t σ H fun vs H1 => sp vs H1 Q (L2.WE W σ)) := by
  rw [List.all_cons, Bool.and_eq_true] at hs
  refine ⟨fun pins s σ H Q I hyp => wpAny_Call_Name_kw (L2.ld_glob I hg hm ?_ hdb)⟩
  exact PySem.W.callWith_K (h₀ := X.base) I.ok.mod.kin hk (L2.thn (ha.run pos pins s σ H _ I hyp) fun us s1 ⟨vs, H1, I1, r, q⟩ => ⟨I1.kIn, run_P G room quiet bind tk I1 r q⟩) (star_ns hs.1) (stars_plain hs.2)
theorem pe_callP0 {g : Bool} {X : Cx} {W : WX} {k : Nat} {f : Addr} {fd : FuncData} {ps : List Str} {sp : L2.Sp} {x : Str} {p pos : Pos}
    (G : FnP g X.prog X.w X.K X.mg X.base k f fd ps sp) (room : L2.Room k X.A) (quiet : g = true → X.A.guards = some []) (hg : L2.Gl X x) (hm : X.mg x = some (.ref f)) (hk : PySem.W.keepIn X.K (.ref f) = true) (bind : L2.Binds X.K fd ps []) (tk : L2.Takes X W)
    (hdb : (x == ("__debug__" : Str)) = false) : PE X (.Call (.Name x p) [] [] pos) (fun σ H Q => sp [] H Q (L2.WE W σ)) :=
  ⟨fun pins s σ H Q I hyp => wpAny_Call_Name_kw (L2.ld_glob I hg hm (PySem.W.callWith_K0 I.kIn hk (run_P (us := []) G room quiet bind tk I .nil hyp)) hdb)⟩
/-- a def of the table, at hand -/
structure FnAt (C : Ct) (fn : Nat) (x : Str) (np : Nat) : Prop where
  gl : L2.Gl C.X x
  db : (x == ("__debug__" : Str)) = false
  ex : ∃ (f : Addr) (fd : FuncData) (k : Nat) (ps : List Str), FnP C.g C.X.prog C.X.w C.X.K C.X.mg C.X.base k f fd ps (CallSp C.X.K C.xd np (C.fe fn)) ∧ L2.Room k C.X.A ∧
    C.X.mg x = some (.ref f) ∧ PySem.W.keepIn C.X.K (.ref f) = true ∧ L2.Binds C.X.K fd ps []
/-- arguments -/
def RelAs (K : PySem.W.Frag) (H₀ : Hp) (fp₀ bq : FP) (F H : Hp) (fp : FP) (l : List Sl) (vs : List V) : Prop :=
  ∃ q b, ArgR K F H l vs q b ∧ Own F H fp bq q ∧ NewIn H₀ q ∧ (∀ a ∈ b, a ∉ q) ∧ ∀ a ∈ b, H a ≠ none ∧ (H₀ a = none ∨ ∃ i, a ∈ fp₀ i ∨ a ∈ bq i)
def SAs (C : Ct) (es : Exs) (pes : List Expr) : Prop := ∃ t, PA C.X pes t ∧ ∀ σ H Q F S fp bq, Good C.X.K C.xr F H S σ fp bq →
  Want C.X.K C.xr C.xd C.W σ F H fp bq (RelAs C.X.K H fp bq) (evA C.fe es S) Q → t σ H Q
theorem sas_nil : SAs C .nil [] := ⟨_, L2.pa_nil, fun σ H Q F S fp bq G w => w F H fp [] G .refl ⟨[], [], .nil, .nil, .nil, (fun _ h => nomatch h), (fun _ h => nomatch h)⟩⟩
theorem lend_rel {K : PySem.W.Frag} {F H : Hp} {s : SV} {v : V} {q : List Addr} (r : Rp K F H s v q) {l : List Sl} {vs : List V} {p b : List Addr} (t : ArgR K F H l vs p b) : ∃ b', ArgR K F H (lend s :: l) (v :: vs) p b' ∧ ∀ a ∈ b', a ∈ q ∨ a ∈ b := by
  cases s with
  | fz x =>
    obtain ⟨r1, rfl⟩ := r.fz_inv
    exact ⟨b, .ow r t, fun a ha => .inr ha⟩
  | lst x => exact ⟨q ++ b, .bw r t, fun a ha => List.mem_append.mp ha⟩
  | obj c k x => exact ⟨q ++ b, .bw r t, fun a ha => List.mem_append.mp ha⟩
theorem sas_cons (ok : CtK C) {e : Ex} {pe : Expr} (hs : notStar pe = true) (he : SE C e pe) (ht : SAs C es pes) : SAs C (.cons e es) (pe :: pes) := by
  obtain ⟨te, hpe, he⟩ := he
  obtain ⟨tt, hpt, ht⟩ := ht
  refine ⟨_, L2.pa_cons hpe hpt (star_ns hs), fun σ H Q F S fp bq G w => ?_⟩
  refine he σ H _ F S fp bq G ?_
  have w : Want C.X.K C.xr C.xd C.W σ F H fp bq (RelAs C.X.K H fp bq) ((argOf e (ev C.fe e S)).bind fun p => (evA C.fe es p.2).bind fun q => .ok (p.1 :: q.1, q.2)) Q := w
  unfold argOf at w
  cases hr : ev C.fe e S with
  | no => rw [hr] at w; exact w
  | ex x => rw [hr] at w; exact w
  | ok p =>
    obtain ⟨s, S1⟩ := p
    rw [hr, Res.bind_ok] at w
    intro F1 H1 fp1 v G1 E1 R1
    obtain ⟨r, r1, o1, prov⟩ := R1
    cases hp : isPath e with
    | true =>
      simp only [hp, Res.bind_ok] at w
      refine ht σ H1 _ F1 S1 fp1 bq G1 (Want.bind (w.shift (Rel' := RelAs C.X.K H fp bq) E1 fun _ _ _ _ _ r => r) fun q F2 H2 fp2 vs G2 E2 R2 w2 => ?_)
      obtain ⟨q', b, ar, o2, n2, d2, p2⟩ := R2
      have r2 := r1.up E2.f E2.h
      obtain ⟨b', ar', hb⟩ := lend_rel r2 ar
      refine w2 F2 H2 fp2 (v :: vs) G2 E2 ⟨q', b', ar', o2, n2.back E1.h, fun a ha hq => ?_, fun a ha => ?_⟩
      · rcases hb a ha with z | z
        · exact r1.there a z (n2 a hq)
        · exact d2 a z hq
      · rcases hb a ha with z | z
        · exact ⟨r2.there a z, prov a z⟩
        · refine ⟨(p2 a z).1, ?_⟩
          rcases (p2 a z).2 with y | ⟨i, y | y⟩
          · exact .inl (E1.h.nil_of y)
          · exact .inr ⟨i, .inl (E1.own i a y)⟩
          · exact .inr ⟨i, .inr y⟩
    | false =>
      simp only [hp, Res.bind_ok] at w
      obtain ⟨o1, n1⟩ := o1 hp
      refine ht σ H1 _ F1 S1 fp1 bq G1 (Want.bind (w.shift (Rel' := RelAs C.X.K H fp bq) E1 fun _ _ _ _ _ r => r) fun q F2 H2 fp2 vs G2 E2 R2 w2 => ?_)
      obtain ⟨q', b, ar, o2, n2, d2, p2⟩ := R2
      refine w2 F2 H2 fp2 (v :: vs) G2 E2 ⟨r ++ q', b, .ow (r1.up E2.f E2.h) ar, o1.append E2 n2 o2, n1.append (n2.back E1.h), fun a ha hq => ?_, fun a ha => ⟨(p2 a ha).1, ?_⟩⟩
      · rcases List.mem_append.mp hq with z | z
        · rcases (p2 a ha).2 with y | ⟨i, y | y⟩
          · exact (o1.2 a z).2.1 y
          · exact ((o1.2 a z).2.2 i).1 y
          · exact ((o1.2 a z).2.2 i).2 y
        · exact d2 a ha z
      · rcases (p2 a ha).2 with y | ⟨i, y | y⟩
        · exact .inl (E1.h.nil_of y)
        · exact .inr ⟨i, .inl (E1.own i a y)⟩
        · exact .inr ⟨i, .inr y⟩
/-- what a call asks -/
theorem call_want (ok : CtK C) {σ : L2.St} {F H : Hp} {S : S} {fp bq : FP} {f : Nat} {l : List Sl} {vs : List V} {Q : VK} {F₀ H₀ : Hp} {fp₀ : FP} (G : Good C.X.K C.xr F H S σ fp bq) (E : Ext F₀ H₀ F H fp₀ fp) (R : RelAs C.X.K H₀ fp₀ bq F H fp l vs)
    (w : Want C.X.K C.xr C.xd C.W σ F₀ H₀ fp₀ bq (RelV' C.X.K H₀ fp₀ bq false) ((C.fe f l).bind fun r => .ok (r, S)) Q) {n : Nat} (hn : vs.length = n) : CallSp C.X.K C.xd n (C.fe f) vs H Q (L2.WE C.W σ) := by
  obtain ⟨q, b, ar, o, nw, d, p⟩ := R
  refine ⟨F, l, q, b, G.sub, hn, ar, o.1, fun a ha => (o.2 a ha).1, d, ?_⟩
  have keepH : ∀ {H' : Hp}, (∀ a u, H a = some u → a ∉ q → H' a = some u) → Sub H₀ H' := fun {H'} k a u e => k a u (E.h a u e) fun z => by
    rw [nw a z] at e; cases e
  cases hr : C.fe f l with
  | no => rw [hr] at w; exact w
  | ex x =>
    rw [hr] at w
    intro F' H' cls d' s1 s2 s3 s4 x1
    refine w F' H' cls d' (E.f.trans s1) (keepH s2) s3 (fun a h1 h2 => ?_) x1
    cases h3 : F a with
    | some u => exact E.new a h1 (by rw [h3]; exact fun z => nomatch z)
    | none =>
      rcases s4 a h3 h2 with z | z
      · exact .inl (E.h.nil_of z)
      · exact .inl (nw a z)
  | ok s =>
    rw [hr] at w
    intro F' H' v L
    obtain ⟨r, r1, r2, r3⟩ := L.rel
    have nf : ∀ i a, a ∈ fp i → F' a = none := fun i a ha => by
      cases h3 : F' a with
      | none => rfl
      | some u =>
        rcases L.new a (G.fr i a ha) (by rw [h3]; exact fun z => nomatch z) with z | z
        · exact absurd z (G.there i a (.inl ha))
        · exact absurd ha ((o.2 a z).2.2 i).1
    have nq : ∀ i a, (a ∈ fp i ∨ a ∈ bq i) → a ∉ q := fun i a ha z => by
      rcases ha with ha | ha
      · exact ((o.2 a z).2.2 i).1 ha
      · exact ((o.2 a z).2.2 i).2 ha
    have G' : Good C.X.K C.xr F' H' S σ fp bq := ⟨L.sub, G.len, fun i x e => (G.sl i x e).up ok.xr L.f fun a ha u e => L.h a u e (nq i a ha), G.out, G.nd, G.dj, nf, G.db⟩
    refine w F' H' fp v G' ⟨E.f.trans L.f, keepH L.h, fun a h1 h2 => ?_, E.own⟩ ⟨r, r1, fun _ => ⟨⟨r2, fun a ha => ⟨(r3 a ha).1, r1.there a ha, fun i => ?_⟩⟩, fun a ha => ?_⟩, fun a ha => .inl ?_⟩
    · cases h3 : F a with
      | some u => exact E.new a h1 (by rw [h3]; exact fun z => nomatch z)
      | none =>
        rcases L.new a h3 h2 with z | z
        · exact .inl (E.h.nil_of z)
        · exact .inl (nw a z)
    · rcases (r3 a ha).2 with z | z
      · exact ⟨fun y => G.there i a (.inl y) z, fun y => G.there i a (.inr y) z⟩
      · exact (o.2 a z).2.2 i
    · rcases (r3 a ha).2 with z | z
      · exact E.h.nil_of z
      · exact nw a z
    · rcases (r3 a ha).2 with z | z
      · exact E.h.nil_of z
      · exact nw a z
theorem CallSp.len {K : PySem.W.Frag} {xd : Exc → Value → Option Addr → Hp → Prop} {n : Nat} {g : List Sl → Res SV} {vs : List V} {H : Hp} {Q : VK} {E : XK} (h : CallSp K xd n g vs H Q E) : vs.length = n := by
  obtain ⟨_, _, _, _, _, h, _⟩ := h
  exact h
def elen : Exs → Nat
  | .nil => 0
  | .cons _ es => elen es + 1
theorem evA_len {fe : FE} : ∀ {es : Exs} {S : S} {p : List Sl × PL.S}, evA fe es S = .ok p → p.1.length = elen es
  | .nil, S, p, h => by cases h; rfl
  | .cons e es, S, p, h => by
    have h : ((argOf e (ev fe e S)).bind fun p => (evA fe es p.2).bind fun q => .ok (p.1 :: q.1, q.2)) = .ok p := h
    cases h1 : argOf e (ev fe e S) with
    | no => rw [h1] at h; cases h
    | ex x => rw [h1] at h; cases h
    | ok r =>
      rw [h1, Res.bind_ok] at h
      cases h2 : evA fe es r.2 with
      | no => rw [h2] at h; cases h
      | ex x => rw [h2] at h; cases h
      | ok q =>
        rw [h2] at h
        cases h
        show q.1.length + 1 = _
        rw [evA_len h2]; rfl
structure CtF (C : Ct) : Prop extends CtK C where
  tk : L2.Takes C.X C.W
  po : PassesOwn (model C.X.prog C.X.w) C.X.A C.X.env C.X.xe
theorem se_call (ok : CtF C) {fn np : Nat} {x : Str} {e : Expr} {p : Pos} (h : FnAt C fn x np) (ha : SAs C es (e :: pes)) (hs : (e :: pes).all notStar = true) (hn : elen es = np) : SE C (.call fn es) (.Call (.Name x p) (e :: pes) [] pos) := by
  obtain ⟨t, hp, ha⟩ := ha
  obtain ⟨f, fd, k, ps, G, room, hm, hk, bind⟩ := h.ex
  refine ⟨_, pe_callP G room ok.gd h.gl hm hk bind ok.tk hp h.db hs, fun σ H Q F S fp bq g w => ?_⟩
  have w : Want C.X.K C.xr C.xd C.W σ F H fp bq (RelV' C.X.K H fp bq false) ((evA C.fe es S).bind fun p => (C.fe fn p.1).bind fun r => .ok (r, p.2)) Q := w
  refine ha σ H _ F S fp bq g ?_
  cases hr : evA C.fe es S with
  | no => rw [hr] at w; exact w
  | ex x => rw [hr] at w; exact w
  | ok p =>
    rw [hr] at w
    intro F1 H1 fp1 vs G1 E1 R1
    refine call_want ok.toCtK G1 E1 R1 w ?_
    obtain ⟨q, b, ar, _⟩ := id R1
    rw [← ar.length, evA_len hr, hn]
theorem se_call0 (ok : CtF C) {fn : Nat} {x : Str} {p : Pos} (h : FnAt C fn x 0) : SE C (.call fn .nil) (.Call (.Name x p) [] [] pos) := by
  obtain ⟨f, fd, k, ps, G, room, hm, hk, bind⟩ := h.ex
  refine ⟨_, pe_callP0 G room ok.gd h.gl hm hk bind ok.tk h.db, fun σ H Q F S fp bq g w => ?_⟩
  exact call_want ok.toCtK g .refl ⟨[], [], .nil, .nil, .nil, (fun _ h => nomatch h), (fun _ h => nomatch h)⟩ w rfl
end
end PL

set_option maxHeartbeats 1000000
namespace PL
open PySem PySem.Spec PyProof.Rows L2
open PySem.Sem (wp)
/-- an iterator of a list (of a tuple) at place k; the list (the tuple) -/
def Cu (t : Bool) (h : Heap) (j l : Addr) (k : Nat) : Prop := match t with
  | false => h.IsListIter j l k
  | true => h.IsTupleIter j l k
def Sq (t : Bool) (h : Heap) (l : Addr) (xs : Array Value) : Prop := match t with
  | false => h.IsList l xs
  | true => h.IsTuple l xs
theorem Cu.ext {t : Bool} {h h' : Heap} {j l c : Addr} {k : Nat} (q : Cu t h j l k) (e : Heap.ExtBut c h h') (n : j ≠ c) : Cu t h' j l k := by
  cases t with
  | false => exact Heap.IsListIter.extBut q e n
  | true => exact Heap.IsTupleIter.extBut q e n
theorem Sq.ext {t : Bool} {h h' : Heap} {l c : Addr} {xs : Array Value} (q : Sq t h l xs) (e : Heap.ExtBut c h h') (n : l ≠ c) : Sq t h' l xs := by
  cases t with
  | false => exact Heap.IsList.extBut q e n
  | true => exact Heap.IsTuple.extBut q e n
theorem Cu.at {t : Bool} {h h' : Heap} {j l : Addr} {k : Nat} (q : Cu t h j l k) (e : ∀ o, h.get? j = some o → h'.get? j = some o) : Cu t h' j l k := by
  cases t with
  | false => exact Heap.IsListIter.at q e
  | true => exact Heap.IsTupleIter.at q e
theorem Cu.obj {t : Bool} {h : Heap} {j l : Addr} {k : Nat} (q : Cu t h j l k) : ∃ o, h.get? j = some o ∧ o.data = .fields #[.ref l, .int k 0] := by
  cases t with
  | false => obtain ⟨o, e, _, d⟩ := q; exact ⟨o, e, d⟩
  | true => obtain ⟨o, e, _, d⟩ := q; exact ⟨o, e, d⟩
section
variable {prog : Program} {w : World} {A : Around} {E : Value → Shared → Prop} {s : Shared}
theorem cu_item {t : Bool} {j l : Addr} {k : Nat} {xs : Array Value} {x : Value} {Q : Value → Shared → Prop} (q : Cu t s.heap j l k) (q' : Sq t s.heap l xs) (e : xs[k]? = some x)
    (f : ∀ h', Cu t h' j l (k + 1) → Heap.SameBut j s.heap h' → Q x { s with heap := h' }) : wpAny (model prog w) A (Builtin.SmallTypes.nextOf (.ref j)) Q E s := by
  cases t with
  | false => exact wpAny_nextOf_list_item q q' e f
  | true => exact RZ.nextOf_tuple_item q q' e f
theorem cu_end {t : Bool} {j l : Addr} {k : Nat} {xs : Array Value} {Q : Value → Shared → Prop} (hh : A.handled = none) (q : Cu t s.heap j l k) (q' : Sq t s.heap l xs) (e : xs[k]? = none)
    (f : ∀ h' e, Heap.ExtBut j s.heap h' → (∃ o, h'.get? e = some o ∧ o.cls = .type "StopIteration") → E (.ref e) { s with heap := h' }) : wpAny (model prog w) A (Builtin.SmallTypes.nextOf (.ref j)) Q E s := by
  cases t with
  | false => exact wpAny_nextOf_list_end hh q q' e f
  | true => exact RZ.nextOf_tuple_end hh q q' e f
/-- the zip's own objects apart, its two iterators -/
theorem mz_item {t u : Bool} {zz pi po ja jb la lb : Addr} {ka kb : Nat} {xs ys : Array Value} {x y a b : Value} {Q : Value → Shared → Prop} (D : ZipApart zz pi po ja jb la lb) (gz : IsZip s.heap zz pi po .none) (gi : IsPair s.heap pi (.ref ja) (.ref jb)) (go : IsPair s.heap po a b)
    (c1 : Cu t s.heap ja la ka) (c2 : Cu u s.heap jb lb kb) (q1 : Sq t s.heap la xs) (q2 : Sq u s.heap lb ys) (ex : xs[ka]? = some x) (ey : ys[kb]? = some y)
    (f : ∀ h', IsZip h' zz pi po (rawInt s.heap.objs.size) → IsPair h' po x y → Cu t h' ja la (ka + 1) → Cu u h' jb lb (kb + 1) → IsPair h' s.heap.objs.size x y → h'.objs.size = s.heap.objs.size + 1 → (∀ c o, c ≠ zz → c ≠ po → c ≠ ja → c ≠ jb → s.heap.get? c = some o → h'.get? c = some o) → Q (.ref s.heap.objs.size) { s with heap := h' }) :
    wpAny (model prog w) A (Builtin.«zip.__next__» ⟨[.ref zz], []⟩) (fun fin s' => ∃ v, fin = .done (.ret v) ∧ Q v s') E s := by
  show wpAny _ _ (field (.ref zz) 2 >>= _) _ _ _
  refine wpAny_bind (wpAny_field gz rfl (x := .bool false) rfl ?_)
  show wpAny _ _ (field (.ref zz) 3 >>= _) _ _ _
  refine wpAny_bind (wpAny_field gz rfl (x := .ref pi) rfl ?_)
  refine wpAny_bind (wpAny_seqItems gi rfl ?_)
  show wpAny _ _ (Builtin.SmallTypes.ownedTupleIsFree (.ref zz) >>= _) _ _ _
  refine wpAny_bind ?_
  unfold Builtin.SmallTypes.ownedTupleIsFree; refine wpAny_bind (wpAny_field gz rfl (x := .none) rfl (wpAny_pure ?_))
  simp only [if_true]
  refine wpAny_bind (wpAny_rule ?_)
  refine wpAny_bind (wpAny_field gz rfl (x := .ref po) rfl ?_)
  refine wpAny_bind (wpAny_setField_rec gz (by simp) fun m1 gz1 s1 => ?_)
  replace gz1 : IsZip m1 zz pi po .ellipsis := gz1
  refine wpAny_bind ?_
  simp only [List.zipIdx_cons, List.zipIdx_nil, List.forIn_nil, List.forIn_cons]
  refine wpAny_bind (wpAny_bind (wpAny_onRaise ?_))
  show wpAny _ _ (Builtin.SmallTypes.nextOf (.ref ja) >>= _) _ _ _
  refine wpAny_bind (cu_item (c1.ext s1.extBut D.i1z) (q1.ext s1.extBut D.l1z) ex fun m2 c1m s2 => wpAny_pure ?_)
  have go2 : IsPair m2 po a b := s2.extBut _ _ D.TOi1 (s1.extBut _ _ D.TOz go)
  refine wpAny_bind (wpAny_seqItems go2 rfl ?_)
  refine wpAny_bind (wpAny_updateSeq_pair go2 fun m3 go3 s3 => ?_)
  replace go3 : IsPair m3 po x b := go3
  refine wpAny_bind (wpAny_letGo (wpAny_pure ?_))
  refine wpAny_bind (wpAny_bind (wpAny_onRaise ?_))
  show wpAny _ _ (Builtin.SmallTypes.nextOf (.ref jb) >>= _) _ _ _
  refine wpAny_bind (cu_item (((c2.ext s1.extBut D.i2z).ext s2.extBut D.i12.symm).ext s3.extBut D.TOi2.symm) (((q2.ext s1.extBut D.l2z).ext s2.extBut D.l2i1).ext s3.extBut D.l2TO) ey fun m4 c2m s4 => wpAny_pure ?_)
  have go4 : IsPair m4 po x b := s4.extBut _ _ D.TOi2 go3
  refine wpAny_bind (wpAny_seqItems go4 rfl ?_)
  refine wpAny_bind (wpAny_updateSeq_pair go4 fun m5 go5 s5 => ?_)
  replace go5 : IsPair m5 po x y := go5
  refine wpAny_bind (wpAny_letGo (wpAny_pure (wpAny_pure ?_)))
  refine wpAny_bind (wpAny_seqItems go5 rfl ?_)
  refine wpAny_bind (wpAny_newTuple ?_)
  have sz5 : m5.objs.size = s.heap.objs.size := by rw [s5.1, s4.1, s3.1, s2.1, s1.1]
  have gz5 : IsZip m5 zz pi po .ellipsis := s5.extBut _ _ D.TOz.symm (s4.extBut _ _ D.i2z.symm (s3.extBut _ _ D.TOz.symm (s2.extBut _ _ D.i1z.symm gz1)))
  have kp5 : ∀ c o, c ≠ zz → c ≠ po → c ≠ ja → c ≠ jb → s.heap.get? c = some o → m5.get? c = some o := fun c o n1 n2 n3 n4 e => s5.extBut _ _ n2 (s4.extBut _ _ n4 (s3.extBut _ _ n2 (s2.extBut _ _ n3 (s1.extBut _ _ n1 e))))
  have c15 : Cu t m5 ja la (ka + 1) := ((c1m.ext s3.extBut D.TOi1.symm).ext s4.extBut D.i12).ext s5.extBut D.TOi1.symm
  have c25 : Cu u m5 jb lb (kb + 1) := c2m.ext s5.extBut D.TOi2.symm
  have ltz : zz < m5.objs.size := Heap.lt_size gz5
  show wpAny _ _ (Builtin.SmallTypes.ownedTupleHandOut (.ref zz) (.ref m5.objs.size) >>= _) _ _ _
  refine wpAny_bind ?_
  unfold Builtin.SmallTypes.ownedTupleHandOut; have gz6 : IsZip (m5.push { cls := .type "tuple", data := .seq #[x, y] }) zz pi po .ellipsis := Heap.get?_push_of_some _ gz5
  refine wpAny_bind (wpAny_setField_rec gz6 (by simp) fun m7 gz7 s7 => ?_)
  replace gz7 : IsZip m7 zz pi po (rawInt m5.objs.size) := gz7
  refine wpAny_setField_rec gz7 (by simp) fun m8 gz8 s8 => ?_
  replace gz8 : IsZip m8 zz pi po (rawInt m5.objs.size) := gz8
  have up : ∀ c o, c ≠ zz → m5.get? c = some o → m8.get? c = some o := fun c o n1 e => s8.extBut _ _ n1 (s7.extBut _ _ n1 (Heap.get?_push_of_some _ e))
  have gt8 : IsPair m8 m5.objs.size x y := s8.extBut _ _ (Nat.ne_of_gt ltz) (s7.extBut _ _ (Nat.ne_of_gt ltz) (Heap.get?_push_size _ rfl))
  have sz8 : m8.objs.size = m5.objs.size + 1 := by rw [s8.1, s7.1, Heap.size_push]
  rw [sz5] at gz8 gt8 sz8
  refine wpAny_pure ⟨_, rfl, ?_⟩
  show Q (.ref m5.objs.size) _
  rw [sz5]
  exact f m8 gz8 (up _ _ D.TOz go5) (c15.at fun o e => up _ o D.i1z e) (c25.at fun o e => up _ o D.i2z e) gt8 sz8 fun c o n1 n2 n3 n4 e => up c o n1 (kp5 c o n1 n2 n3 n4 e)
theorem mz_end {t u : Bool} {zz pi po ja jb la lb : Addr} {ka kb : Nat} {xs ys : Array Value} {a b : Value} {Q : Fin → Shared → Prop} (hh : A.handled = none) (D : ZipApart zz pi po ja jb la lb) (gz : IsZip s.heap zz pi po .none) (gi : IsPair s.heap pi (.ref ja) (.ref jb)) (go : IsPair s.heap po a b)
    (c1 : Cu t s.heap ja la ka) (c2 : Cu u s.heap jb lb kb) (q1 : Sq t s.heap la xs) (q2 : Sq u s.heap lb ys) (no : xs[ka]? = none ∨ ys[kb]? = none)
    (f : ∀ h' e, (∀ c o, c ≠ zz → c ≠ po → c ≠ ja → c ≠ jb → s.heap.get? c = some o → h'.get? c = some o) → (∃ o, h'.get? e = some o ∧ o.cls = .type "StopIteration") → E (.ref e) { s with heap := h' }) : wpAny (model prog w) A (Builtin.«zip.__next__» ⟨[.ref zz], []⟩) Q E s := by
  show wpAny _ _ (field (.ref zz) 2 >>= _) _ _ _
  refine wpAny_bind (wpAny_field gz rfl (x := .bool false) rfl ?_)
  show wpAny _ _ (field (.ref zz) 3 >>= _) _ _ _
  refine wpAny_bind (wpAny_field gz rfl (x := .ref pi) rfl ?_)
  refine wpAny_bind (wpAny_seqItems gi rfl ?_)
  show wpAny _ _ (Builtin.SmallTypes.ownedTupleIsFree (.ref zz) >>= _) _ _ _
  refine wpAny_bind ?_
  unfold Builtin.SmallTypes.ownedTupleIsFree; refine wpAny_bind (wpAny_field gz rfl (x := .none) rfl (wpAny_pure ?_))
  simp only [if_true]
  refine wpAny_bind (wpAny_rule ?_)
  refine wpAny_bind (wpAny_field gz rfl (x := .ref po) rfl ?_)
  refine wpAny_bind (wpAny_setField_rec gz (by simp) fun m1 gz1 s1 => ?_)
  replace gz1 : IsZip m1 zz pi po .ellipsis := gz1
  refine wpAny_bind ?_
  simp only [List.zipIdx_cons, List.zipIdx_nil, List.forIn_nil, List.forIn_cons]
  refine wpAny_bind (wpAny_bind (wpAny_onRaise ?_))
  show wpAny _ _ (Builtin.SmallTypes.nextOf (.ref ja) >>= _) _ _ _
  cases ex : xs[ka]? with
  | none =>
    refine wpAny_bind (cu_end hh (c1.ext s1.extBut D.i1z) (q1.ext s1.extBut D.l1z) ex fun m2 e s2 he => ?_)
    obtain ⟨oe, ge, ce⟩ := he
    have gz2 : IsZip m2 zz pi po .ellipsis := s2 _ _ D.i1z.symm gz1
    have nz : e ≠ zz := fun r => by subst r; rw [gz2] at ge; cases ge; simp at ce
    exact wpAny_setField_rec gz2 (by simp) fun m3 _ s3 => f m3 e (fun c o n1 _ n3 _ r => s3.extBut _ _ n1 (s2 _ _ n3 (s1.extBut _ _ n1 r))) ⟨oe, s3.extBut _ _ nz ge, ce⟩
  | some x =>
    have ey : ys[kb]? = none := by rcases no with r | r; rw [ex] at r; cases r; exact r
    refine wpAny_bind (cu_item (c1.ext s1.extBut D.i1z) (q1.ext s1.extBut D.l1z) ex fun m2 c1m s2 => wpAny_pure ?_)
    have go2 : IsPair m2 po a b := s2.extBut _ _ D.TOi1 (s1.extBut _ _ D.TOz go)
    refine wpAny_bind (wpAny_seqItems go2 rfl ?_)
    refine wpAny_bind (wpAny_updateSeq_pair go2 fun m3 go3 s3 => ?_)
    refine wpAny_bind (wpAny_letGo (wpAny_pure ?_))
    refine wpAny_bind (wpAny_bind (wpAny_onRaise ?_))
    show wpAny _ _ (Builtin.SmallTypes.nextOf (.ref jb) >>= _) _ _ _
    refine wpAny_bind (cu_end hh (((c2.ext s1.extBut D.i2z).ext s2.extBut D.i12.symm).ext s3.extBut D.TOi2.symm) (((q2.ext s1.extBut D.l2z).ext s2.extBut D.l2i1).ext s3.extBut D.l2TO) ey fun m4 e s4 he => ?_)
    obtain ⟨oe, ge, ce⟩ := he
    have gz4 : IsZip m4 zz pi po .ellipsis := s4 _ _ D.i2z.symm (s3.extBut _ _ D.TOz.symm (s2.extBut _ _ D.i1z.symm gz1))
    have nz : e ≠ zz := fun r => by subst r; rw [gz4] at ge; cases ge; simp at ce
    exact wpAny_setField_rec gz4 (by simp) fun m5 _ s5 => f m5 e (fun c o n1 n2 n3 n4 r => s5.extBut _ _ n1 (s4 _ _ n4 (s3.extBut _ _ n2 (s2.extBut _ _ n3 (s1.extBut _ _ n1 r))))) ⟨oe, s5.extBut _ _ nz ge, ce⟩
theorem mz_next_item {t u : Bool} {zz pi po ja jb la lb : Addr} {ka kb : Nat} {xs ys : Array Value} {x y a b : Value} {Q : Option Value → Shared → Prop} (D : ZipApart zz pi po ja jb la lb) (gz : IsZip s.heap zz pi po .none) (gi : IsPair s.heap pi (.ref ja) (.ref jb)) (go : IsPair s.heap po a b)
    (c1 : Cu t s.heap ja la ka) (c2 : Cu u s.heap jb lb kb) (q1 : Sq t s.heap la xs) (q2 : Sq u s.heap lb ys) (ex : xs[ka]? = some x) (ey : ys[kb]? = some y)
    (f : ∀ h', IsZip h' zz pi po (rawInt s.heap.objs.size) → IsPair h' po x y → Cu t h' ja la (ka + 1) → Cu u h' jb lb (kb + 1) → IsPair h' s.heap.objs.size x y → h'.objs.size = s.heap.objs.size + 1 → (∀ c o, c ≠ zz → c ≠ po → c ≠ ja → c ≠ jb → s.heap.get? c = some o → h'.get? c = some o) → Q (some (.ref s.heap.objs.size)) { s with heap := h' }) :
    wpAny (model prog w) A (pyNext (.ref zz)) Q E s := by
  have ty : s.TypeIs (.ref zz) "zip" := ⟨_, gz, rfl⟩
  unfold pyNext
  exact wpAny_bind (wpAny_attempt (wpAny_callSpecial?_slot (name := Str.ofString "__next__") ty F.slot_zip_next (wpAny_call_entry F.slot_zip_next ty F.entry_zip_next (mz_item D gz gi go c1 c2 q1 q2 ex ey fun h' a1 a2 a3 a4 a5 a6 a7 => wpAny_pure (f h' a1 a2 a3 a4 a5 a6 a7)) (F.args_zip_next_1 _))))
theorem mz_next_end {t u : Bool} {zz pi po ja jb la lb : Addr} {ka kb : Nat} {xs ys : Array Value} {a b : Value} {Q : Option Value → Shared → Prop} (hh : A.handled = none) (D : ZipApart zz pi po ja jb la lb) (gz : IsZip s.heap zz pi po .none) (gi : IsPair s.heap pi (.ref ja) (.ref jb)) (go : IsPair s.heap po a b)
    (c1 : Cu t s.heap ja la ka) (c2 : Cu u s.heap jb lb kb) (q1 : Sq t s.heap la xs) (q2 : Sq u s.heap lb ys) (no : xs[ka]? = none ∨ ys[kb]? = none)
    (f : ∀ h', (∀ c o, c ≠ zz → c ≠ po → c ≠ ja → c ≠ jb → s.heap.get? c = some o → h'.get? c = some o) → Q none { s with heap := h' }) : wpAny (model prog w) A (pyNext (.ref zz)) Q E s := by
  have ty : s.TypeIs (.ref zz) "zip" := ⟨_, gz, rfl⟩
  unfold pyNext
  refine wpAny_bind (wpAny_attempt (wpAny_callSpecial?_slot (name := Str.ofString "__next__") ty F.slot_zip_next (wpAny_call_entry F.slot_zip_next ty F.entry_zip_next (mz_end hh D gz gi go c1 c2 q1 q2 no fun h' e hk he => ?_) (F.args_zip_next_1 _))))
  obtain ⟨o, ho, hc⟩ := he
  exact wpAny_bind (wpAny_isInstance (T := "StopIteration") (b := true) ⟨o, ho, hc⟩ isSubtype_stop (wpAny_pure (f _ hk)))
end
def cuN : Bool → String
  | false => "list_iterator"
  | true => "tuple_iterator"
abbrev mzA (t : Bool) (h : Heap) (la : Addr) : Heap := h.push { cls := .type (cuN t), data := .fields #[.ref la, .int 0 0] }
abbrev mzB (t u : Bool) (h : Heap) (la lb : Addr) : Heap := (mzA t h la).push { cls := .type (cuN u), data := .fields #[.ref lb, .int 0 0] }
abbrev mzC (t u : Bool) (h : Heap) (la lb : Addr) : Heap := (mzB t u h la lb).push { cls := .type "tuple", data := .seq #[.ref h.objs.size, .ref (mzA t h la).objs.size] }
abbrev mzD (t u : Bool) (h : Heap) (la lb : Addr) : Heap := (mzC t u h la lb).push { cls := .type "tuple", data := .seq #[.none, .none] }
abbrev mzE (t u : Bool) (h : Heap) (la lb : Addr) : Heap := (mzD t u h la lb).push { cls := .type "zip", data := .fields #[.none, .bool false, .bool false, .ref (mzB t u h la lb).objs.size, .ref (mzC t u h la lb).objs.size] }
theorem mz_new (t u : Bool) (la lb : Addr) (xs ys : Array Value) :
    Meets (Builtin.«zip.__new__» ⟨[.type "zip", .ref la, .ref lb], []⟩) (fun _ R s => Sq t s.heap la xs ∧ Sq u s.heap lb ys ∧ R (.ok (.ret (.ref (mzD t u s.heap la lb).objs.size))) { s with heap := mzE t u s.heap la lb }) :=
  .of_wp fun prog w A R s h => by
    obtain ⟨hp, g, d, tk, os⟩ := s; obtain ⟨hl1, hl2, h⟩ := h
    have hsub := sub_zip
    cases t with
    | false =>
      have e1 : Heap.IsList (Shared.heap ⟨hp, g, d, tk, os⟩) la xs := hl1
      cases u with
      | false =>
        have e2 : Heap.IsList (Shared.heap ⟨hp.push { cls := .type "list_iterator", data := .fields #[.ref la, .int 0 0] }, g, d, tk, os⟩) lb ys := Heap.IsList.push hl2 _
        wp_walk using wpAny_pyIter_list e1, wpAny_pyIter_list e2
        exact ⟨_, rfl, h⟩
      | true =>
        have e2 : Heap.IsTuple (Shared.heap ⟨hp.push { cls := .type "list_iterator", data := .fields #[.ref la, .int 0 0] }, g, d, tk, os⟩) lb ys := Heap.IsTuple.push hl2 _
        wp_walk using wpAny_pyIter_list e1, wpAny_pyIter_tuple e2
        exact ⟨_, rfl, h⟩
    | true =>
      have e1 : Heap.IsTuple (Shared.heap ⟨hp, g, d, tk, os⟩) la xs := hl1
      cases u with
      | false =>
        have e2 : Heap.IsList (Shared.heap ⟨hp.push { cls := .type "tuple_iterator", data := .fields #[.ref la, .int 0 0] }, g, d, tk, os⟩) lb ys := Heap.IsList.push hl2 _
        wp_walk using wpAny_pyIter_tuple e1, wpAny_pyIter_list e2
        exact ⟨_, rfl, h⟩
      | true =>
        have e2 : Heap.IsTuple (Shared.heap ⟨hp.push { cls := .type "tuple_iterator", data := .fields #[.ref la, .int 0 0] }, g, d, tk, os⟩) lb ys := Heap.IsTuple.push hl2 _
        wp_walk using wpAny_pyIter_tuple e1, wpAny_pyIter_tuple e2
        exact ⟨_, rfl, h⟩
theorem cu_new {t : Bool} {h : Heap} {a la : Addr} (g : h.get? a = some { cls := .type (cuN t), data := .fields #[.ref la, .int 0 0] }) : Cu t h a la 0 := by
  cases t with
  | false => exact ⟨_, g, rfl, rfl⟩
  | true => exact ⟨_, g, rfl, rfl⟩
section
variable {prog : Program} {w : World} {A : Around} {E : Value → Shared → Prop} {s : Shared}
theorem mz_call {t u : Bool} {la lb : Addr} {xs ys : Array Value} {Q : Value → Shared → Prop} (q1 : Sq t s.heap la xs) (q2 : Sq u s.heap lb ys)
    (f : ∀ h', IsZip h' (s.heap.objs.size + 4) (s.heap.objs.size + 2) (s.heap.objs.size + 3) .none → IsPair h' (s.heap.objs.size + 2) (.ref s.heap.objs.size) (.ref (s.heap.objs.size + 1)) → IsPair h' (s.heap.objs.size + 3) .none .none →
      Cu t h' s.heap.objs.size la 0 → Cu u h' (s.heap.objs.size + 1) lb 0 → h'.objs.size = s.heap.objs.size + 5 → (∀ c o, s.heap.get? c = some o → h'.get? c = some o) → Q (.ref (s.heap.objs.size + 4)) { s with heap := h' }) :
    wpAny (model prog w) A (call (.type "zip") [.ref la, .ref lb]) Q E s := by
  refine callType_new F.called_zip (by decide) (F.typeCall_zip_2 _ _) (F.newCall_zip_2 _ _) (fun obj => F.args_object_init_3 obj _ _) F.entry_zip_new (mz_new t u la lb xs ys) ⟨q1, q2, ?_⟩
  have n1 : (mzA t s.heap la).objs.size = s.heap.objs.size + 1 := Heap.size_push ..
  have n2 : (mzB t u s.heap la lb).objs.size = s.heap.objs.size + 2 := by rw [Heap.size_push, n1]
  have n3 : (mzC t u s.heap la lb).objs.size = s.heap.objs.size + 3 := by rw [Heap.size_push, n2]
  have n4 : (mzD t u s.heap la lb).objs.size = s.heap.objs.size + 4 := by rw [Heap.size_push, n3]
  have n5 : (mzE t u s.heap la lb).objs.size = s.heap.objs.size + 5 := by rw [Heap.size_push, n4]
  have g5 : (mzE t u s.heap la lb).get? (mzD t u s.heap la lb).objs.size = some _ := Heap.get?_push_size _ rfl
  have g4 : (mzE t u s.heap la lb).get? (mzC t u s.heap la lb).objs.size = some _ := Heap.get?_push_of_some _ (Heap.get?_push_size _ rfl)
  have g3 : (mzE t u s.heap la lb).get? (mzB t u s.heap la lb).objs.size = some _ := Heap.get?_push_of_some _ (Heap.get?_push_of_some _ (Heap.get?_push_size _ rfl))
  have g2 : (mzE t u s.heap la lb).get? (mzA t s.heap la).objs.size = some _ := Heap.get?_push_of_some _ (Heap.get?_push_of_some _ (Heap.get?_push_of_some _ (Heap.get?_push_size _ rfl)))
  have g1 : (mzE t u s.heap la lb).get? s.heap.objs.size = some _ := Heap.get?_push_of_some _ (Heap.get?_push_of_some _ (Heap.get?_push_of_some _ (Heap.get?_push_of_some _ (Heap.get?_push_size _ rfl))))
  show _ ∧ _
  rw [n2, n3, n4] at g5
  rw [n1, n2] at g3
  rw [n3] at g4
  rw [n1] at g2
  rw [n4]
  exact ⟨⟨_, g5, rfl⟩, f _ g5 g3 g4 (cu_new g1) (cu_new g2) n5 fun c o x => Heap.get?_push_of_some _ (Heap.get?_push_of_some _ (Heap.get?_push_of_some _ (Heap.get?_push_of_some _ (Heap.get?_push_of_some _ x))))⟩
end
end PL

namespace PL
open PySem PyProof.Rows
open L2 (V Hp HO SqL SqT upd Rd Cx PE PT PW PA PS PSs PG PI PO Ends VK XK WX TE TT TA TS TO TG OpR R2 CallR SlR)

section
variable {K : PySem.W.Frag}
/-- an item that is walked: frozen, or lent with its lists in P -/
def SlI (K : PySem.W.Frag) (P : List Addr) (F H : Hp) (s : Sl) (v : V) : Prop := match s with
  | .ow (.fz x) => RF K F x v
  | .bw t => ∃ q, Rp K F H t v q ∧ ∀ a ∈ q, a ∈ P
  | _ => False
/-- the items -/
inductive Its (K : PySem.W.Frag) (P : List Addr) (F H : Hp) : List Sl → List V → Prop
  | nil : Its K P F H [] []
  | cons {s : Sl} {l : List Sl} {v : V} {vs : List V} : SlI K P F H s v → Its K P F H l vs → Its K P F H (s :: l) (v :: vs)
/-- the heap has grown, what stands at P stays -/
structure Later (P : List Addr) (F H F' H' : Hp) : Prop where
  f : Sub F F'
  s : Sub F' H'
  k : ∀ a ∈ P, ∀ o, H a = some o → H' a = some o
theorem SlI.later {P : List Addr} {F H F' H' : Hp} {s : Sl} {v : V} (e : Later P F H F' H') (h : SlI K P F H s v) : SlI K P F' H' s v := by
  cases s with
  | no => exact h
  | xc _ => exact h
  | ow t =>
    cases t with
    | fz x => exact RF.mono e.f h
    | lst _ => exact h
    | obj _ _ _ => exact h
  | bw t => obtain ⟨q, r, hq⟩ := h; exact ⟨q, r.mono e.f fun a ha o z => e.k a (hq a ha) o z, hq⟩
theorem Its.later {P : List Addr} {F H F' H' : Hp} (e : Later P F H F' H') : ∀ {l : List Sl} {vs : List V}, Its K P F H l vs → Its K P F' H' l vs
  | _, _, .nil => .nil
  | _, _, .cons h t => .cons (h.later e) (Its.later e t)
theorem Its.length {P : List Addr} {F H : Hp} : ∀ {l : List Sl} {vs : List V}, Its K P F H l vs → l.length = vs.length
  | _, _, .nil => rfl
  | _, _, .cons _ t => by rw [List.length_cons, List.length_cons, Its.length t]
theorem Its.get {P : List Addr} {F H : Hp} : ∀ {l : List Sl} {vs : List V} {i : Nat} {s : Sl}, Its K P F H l vs → l[i]? = some s → ∃ v, vs[i]? = some v ∧ SlI K P F H s v
  | _, _, _, _, .nil, e => by simp at e
  | _, _, 0, _, .cons h _, e => by simp at e; subst e; exact ⟨_, rfl, h⟩
  | _, _, i + 1, _, .cons _ t, e => by
    obtain ⟨w, h1, h2⟩ := Its.get (i := i) t (by simpa using e)
    exact ⟨w, by simpa using h1, h2⟩
theorem Its.fz {P : List Addr} {F H : Hp} : ∀ {l : List PV} {vs : List V}, RFs K F l vs → Its K P F H (l.map fzI) vs
  | _, _, .nil => .nil
  | _, _, .cons h t => .cons h (Its.fz t)
theorem SlI.lend {P : List Addr} {F H : Hp} {s : SV} {v : V} {q : List Addr} (r : Rp K F H s v q) (hq : ∀ a ∈ q, a ∈ P) : SlI K P F H (PL.lend s) v := by
  cases s with
  | fz x => exact r.fz_inv.1
  | lst l => exact ⟨q, r, hq⟩
  | obj c k l => exact ⟨q, r, hq⟩
theorem Its.lend {P : List Addr} {F H : Hp} : ∀ {l : List SV} {vs : List V} {q : List Addr}, Rps K F H l vs q → (∀ a ∈ q, a ∈ P) → Its K P F H (l.map PL.lend) vs
  | _, _, _, .nil, _ => .nil
  | _, _, _, .cons h t, k => .cons (.lend h fun a ha => k a (List.mem_append_left _ ha)) (Its.lend t fun a ha => k a (List.mem_append_right _ ha))
theorem Its.mono {P P' : List Addr} {F H : Hp} (h : ∀ a ∈ P, a ∈ P') : ∀ {l : List Sl} {vs : List V}, Its K P F H l vs → Its K P' F H l vs
  | _, _, .nil => .nil
  | _, _, .cons (s := s) i t => .cons (by
      cases s with
      | no => exact i
      | xc _ => exact i
      | ow t => cases t <;> exact i
      | bw t => obtain ⟨q, r, hq⟩ := i; exact ⟨q, r, fun a ha => h a (hq a ha)⟩) (Its.mono h t)
/-- a list, a tuple, a text that is walked: v holds the items -/
inductive SrcR (K : PySem.W.Frag) (P : List Addr) (F H : Hp) : Src → V → Prop
  | lst {a : Addr} {vs : List V} {its : List Sl} {w : List (Nat × SV)} : (Rd F a (.lst vs) ∨ (a ∈ P ∧ H a = some (.lst vs))) → Its K P F H its vs → SrcR K P F H ⟨0, its, w⟩ (.ref a)
  | tup {a : Addr} {vs : List V} {its : List Sl} {w : List (Nat × SV)} : SqT K F a vs → Its K P F H its vs → SrcR K P F H ⟨1, its, w⟩ (.ref a)
  | str {x : Str} {w : List (Nat × SV)} : SrcR K P F H ⟨2, x.cps.toList.map fun c => fzI (.str ⟨#[c]⟩), w⟩ (.str x)
theorem SrcR.later {P : List Addr} {F H F' H' : Hp} {s : Src} {v : V} (e : Later P F H F' H') (h : SrcR K P F H s v) : SrcR K P F' H' s v := by
  cases h with
  | lst h t => exact .lst (h.elim (fun r => .inl (rd_mono e.f r)) fun r => .inr ⟨r.1, e.k _ r.1 _ r.2⟩) (t.later e)
  | tup h t => exact .tup (sqT_mono e.f h) (t.later e)
  | str => exact .str
theorem SrcR.mono {P P' : List Addr} {F H : Hp} {s : Src} {v : V} (h : ∀ a ∈ P, a ∈ P') (r : SrcR K P F H s v) : SrcR K P' F H s v := by
  cases r with
  | lst r t => exact .lst (r.elim .inl fun r => .inr ⟨h _ r.1, r.2⟩) (t.mono h)
  | tup r t => exact .tup r (t.mono h)
  | str => exact .str
theorem SrcR.val {P : List Addr} {F H : Hp} {x : PV} {v : V} {s : Src} (r : RF K F x v) (e : srcP x = some s) : SrcR K P F H s v := by
  unfold srcP at e
  split at e
  · cases e; cases r with | lst h t => exact .lst (.inl h) (.fz t)
  · cases e; cases r with | tup h t => exact .tup h (.fz t)
  · cases e; cases r; exact .str
  · cases e
/-- what the machine hands over at a turn is the item x -/
def ItmY (K : PySem.W.Frag) (P : List Addr) (F H : Hp) (x : Itm) (v : V) (H' : Hp) : Prop := match x with
  | .one s => H' = H ∧ SlI K P F H s v
  | .two s t => ∃ T y z, v = .ref T ∧ H T = none ∧ H' = upd H T (.tup [y, z]) ∧ SlI K P F H s y ∧ SlI K P F H t z
/-- the walk J hands over the items its, at any later time -/
def WI (K : PySem.W.Frag) (P : List Addr) (F H : Hp) (J : L2.It) (its : List Itm) : Prop := ∀ F' H', Later P F H F' H' →
  (∀ i, i < its.length → J.go i H') ∧ J.stop its.length H' ∧ ∀ (i : Nat) (x : Itm) v H'', its[i]? = some x → J.yld i H' v H'' → ItmY K P F' H' x v H''
theorem WI.lst {P : List Addr} {F H : Hp} {a : Addr} {its : List Sl} {w : List (Nat × SV)} (h : SrcR K P F H ⟨0, its, w⟩ (.ref a)) : WI K P F H (L2.Itl K a) (its.map .one) := fun F' H' e => by
  cases h.later e with
  | @lst _ vs _ _ h t =>
    have hs : SqL K H' a vs := h.elim (fun r => .inl (rd_mono e.s r)) fun r => .inl (.inl r.2)
    have hl := t.length
    refine ⟨fun i hi => ?_, ⟨vs, hs, by rw [List.length_map, hl]; exact Nat.le_refl _⟩, fun i x v H'' hx y => ?_⟩
    · rw [List.length_map, hl] at hi
      exact ⟨vs, vs[i], hs, List.getElem?_eq_getElem hi⟩
    · rw [List.getElem?_map] at hx
      obtain ⟨s, h1, h2⟩ := Option.map_eq_some_iff.mp hx
      subst h2
      obtain ⟨v', h3, h4⟩ := t.get h1
      have h5 := y.2 vs hs
      rw [h3] at h5
      cases h5
      exact ⟨y.1, h4⟩
theorem WI.tup {P : List Addr} {F H : Hp} {a : Addr} {its : List Sl} {w : List (Nat × SV)} (h : SrcR K P F H ⟨1, its, w⟩ (.ref a)) : WI K P F H (L2.Itt K a) (its.map .one) := fun F' H' e => by
  cases h.later e with
  | @tup _ vs _ _ h t =>
    have hs : SqT K H' a vs := sqT_mono e.s h
    have hl := t.length
    refine ⟨fun i hi => ?_, ⟨vs, hs, by rw [List.length_map, hl]; exact Nat.le_refl _⟩, fun i x v H'' hx y => ?_⟩
    · rw [List.length_map, hl] at hi
      exact ⟨vs, vs[i], hs, List.getElem?_eq_getElem hi⟩
    · rw [List.getElem?_map] at hx
      obtain ⟨s, h1, h2⟩ := Option.map_eq_some_iff.mp hx
      subst h2
      obtain ⟨v', h3, h4⟩ := t.get h1
      have h5 := y.2 vs hs
      rw [h3] at h5
      cases h5
      exact ⟨y.1, h4⟩
theorem WI.str {P : List Addr} {F H : Hp} {x : Str} : WI K P F H (L2.Its x) ((x.cps.toList.map fun c => fzI (.str ⟨#[c]⟩)).map .one) := fun F' H' e => by
  refine ⟨fun i hi => ?_, ?_, fun i y v H'' hx yl => ?_⟩
  · rw [List.length_map, List.length_map] at hi; exact hi
  · rw [List.length_map, List.length_map]; exact Nat.le_refl _
  · rw [List.map_map, List.getElem?_map] at hx
    obtain ⟨c, h1, h2⟩ := Option.map_eq_some_iff.mp hx
    subst h2
    obtain ⟨h3, c', h4, h5⟩ := yl
    rw [← Array.getElem?_toList, h1] at h4
    cases h4
    subst h5
    exact ⟨h3, .str _⟩
theorem WI.range {P : List Addr} {F H : Hp} {lo hi : Int} : WI K P F H (L2.Itr lo (hi - lo).toNat) (rangeL lo hi) := fun F' H' e => by
  unfold rangeL
  refine ⟨fun i hi => ?_, ?_, fun i y v H'' hx yl => ?_⟩
  · rw [List.length_map, List.length_range] at hi; exact hi
  · rw [List.length_map, List.length_range]; exact Nat.le_refl _
  · rw [List.getElem?_map] at hx
    obtain ⟨c, h1, h2⟩ := Option.map_eq_some_iff.mp hx
    obtain ⟨h3, h4⟩ := List.getElem?_eq_some_iff.mp h1
    rw [List.getElem_range] at h4
    subst h2 h4
    obtain ⟨h5, h6⟩ := yl
    subst h6
    exact ⟨h5, .int _⟩
theorem WI.zipL {P : List Addr} {F H : Hp} {a b : Addr} {its jts : List Sl} {w u : List (Nat × SV)} (h : SrcR K P F H ⟨0, its, w⟩ (.ref a)) (h' : SrcR K P F H ⟨0, jts, u⟩ (.ref b)) : WI K P F H (L2.Itz K a b) (List.zipWith .two its jts) := fun F' H' e => by
  cases h.later e with
  | @lst _ vs _ _ h t =>
    cases h'.later e with
    | @lst _ us _ _ h' t' =>
      have hs : SqL K H' a vs := h.elim (fun r => .inl (rd_mono e.s r)) fun r => .inl (.inl r.2)
      have hs' : SqL K H' b us := h'.elim (fun r => .inl (rd_mono e.s r)) fun r => .inl (.inl r.2)
      have hl := t.length
      have hl' := t'.length
      refine ⟨fun i hi => ?_, ⟨vs, us, hs, hs', by rw [List.length_zipWith]; omega⟩, fun i x v H'' hx y => ?_⟩
      · rw [List.length_zipWith] at hi
        exact ⟨vs, us, vs[i]'(by omega), us[i]'(by omega), hs, hs', List.getElem?_eq_getElem _, List.getElem?_eq_getElem _⟩
      · rw [List.getElem?_zipWith] at hx
        cases e1 : its[i]? with
        | none => rw [e1] at hx; cases hx
        | some s1 =>
          cases e2 : jts[i]? with
          | none => rw [e1, e2] at hx; cases hx
          | some s2 =>
            rw [e1, e2] at hx
            cases hx
            obtain ⟨v1, h3, h4⟩ := t.get e1
            obtain ⟨v2, h5, h6⟩ := t'.get e2
            obtain ⟨T, y1, y2, z1, z2, z3, z4, z5⟩ := y
            have z4 := z4 vs hs
            have z5 := z5 us hs'
            rw [h3] at z4
            rw [h5] at z5
            cases z4
            cases z5
            exact ⟨T, _, _, z1, z2, z3, h4, h6⟩
theorem WI.zipT {P : List Addr} {F H : Hp} {a b : Addr} {its jts : List Sl} {w u : List (Nat × SV)} (h : SrcR K P F H ⟨1, its, w⟩ (.ref a)) (h' : SrcR K P F H ⟨1, jts, u⟩ (.ref b)) : WI K P F H (RZ.ItzT K a b) (List.zipWith .two its jts) := fun F' H' e => by
  cases h.later e with
  | @tup _ vs _ _ h t =>
    cases h'.later e with
    | @tup _ us _ _ h' t' =>
      have hs : SqT K H' a vs := sqT_mono e.s h
      have hs' : SqT K H' b us := sqT_mono e.s h'
      have hl := t.length
      have hl' := t'.length
      refine ⟨fun i hi => ?_, ⟨vs, us, hs, hs', by rw [List.length_zipWith]; omega⟩, fun i x v H'' hx y => ?_⟩
      · rw [List.length_zipWith] at hi
        exact ⟨vs, us, vs[i]'(by omega), us[i]'(by omega), hs, hs', List.getElem?_eq_getElem _, List.getElem?_eq_getElem _⟩
      · rw [List.getElem?_zipWith] at hx
        cases e1 : its[i]? with
        | none => rw [e1] at hx; cases hx
        | some s1 =>
          cases e2 : jts[i]? with
          | none => rw [e1, e2] at hx; cases hx
          | some s2 =>
            rw [e1, e2] at hx
            cases hx
            obtain ⟨v1, h3, h4⟩ := t.get e1
            obtain ⟨v2, h5, h6⟩ := t'.get e2
            obtain ⟨T, y1, y2, z1, z2, z3, z4, z5⟩ := y
            have z4 := z4 vs hs
            have z5 := z5 us hs'
            rw [h3] at z4
            rw [h5] at z5
            cases z4
            cases z5
            exact ⟨T, _, _, z1, z2, z3, h4, h6⟩
theorem WI.enum {P : List Addr} {F H : Hp} {a : Addr} {its : List Sl} {w : List (Nat × SV)} (h : SrcR K P F H ⟨0, its, w⟩ (.ref a)) : WI K P F H (L2.Ite K a) (its.zipIdx.map fun x => .two (fzI (.int x.2)) x.1) := fun F' H' e => by
  cases h.later e with
  | @lst _ vs _ _ h t =>
    have hs : SqL K H' a vs := h.elim (fun r => .inl (rd_mono e.s r)) fun r => .inl (.inl r.2)
    have hl := t.length
    refine ⟨fun i hi => ?_, ⟨vs, hs, by rw [List.length_map, List.length_zipIdx, hl]; exact Nat.le_refl _⟩, fun i x v H'' hx y => ?_⟩
    · rw [List.length_map, List.length_zipIdx, hl] at hi
      exact ⟨vs, vs[i], hs, List.getElem?_eq_getElem hi⟩
    · rw [List.getElem?_map, List.getElem?_zipIdx] at hx
      cases e1 : its[i]? with
      | none => rw [e1] at hx; cases hx
      | some s1 =>
        rw [e1] at hx
        cases hx
        obtain ⟨v1, h3, h4⟩ := t.get e1
        obtain ⟨T, y1, z1, z2, z3, z4⟩ := y
        have z4 := z4 vs hs
        rw [h3] at z4
        cases z4
        exact ⟨T, _, _, z1, z2, z3, by show RF K F' (.int ((0 + i : Nat) : Int)) (.int (i : Nat)); rw [Nat.zero_add]; exact .int _, h4⟩
theorem rev_get {α : Type} {l : List α} {i : Nat} {x : α} (h : l.reverse[i]? = some x) : i < l.length ∧ l[l.length - 1 - i]? = some x := by
  obtain ⟨h1, h2⟩ := List.getElem?_eq_some_iff.mp h
  rw [List.length_reverse] at h1
  exact ⟨h1, by rw [← List.getElem?_reverse h1]; exact h⟩
theorem WI.revL {P : List Addr} {F H : Hp} {a : Addr} {its : List Sl} {w : List (Nat × SV)} (h : SrcR K P F H ⟨0, its, w⟩ (.ref a)) : WI K P F H (L2.Itv K a its.length) (its.reverse.map .one) := fun F' H' e => by
  cases h.later e with
  | @lst _ vs _ _ h t =>
    have hs : SqL K H' a vs := h.elim (fun r => .inl (rd_mono e.s r)) fun r => .inl (.inl r.2)
    have hl := t.length
    refine ⟨fun i hi => ?_, by rw [List.length_map, List.length_reverse]; exact Nat.le_refl _, fun i x v H'' hx y => ?_⟩
    · rw [List.length_map, List.length_reverse] at hi
      exact ⟨hi, vs, vs[its.length - 1 - i]'(by omega), hs, List.getElem?_eq_getElem _⟩
    · rw [List.getElem?_map] at hx
      obtain ⟨s, h1, h2⟩ := Option.map_eq_some_iff.mp hx
      subst h2
      obtain ⟨h0, h1⟩ := rev_get h1
      obtain ⟨v', h3, h4⟩ := t.get h1
      have h5 := y.2 vs hs
      rw [h3] at h5
      cases h5
      exact ⟨y.1, h4⟩
theorem WI.revT {P : List Addr} {F H : Hp} {a : Addr} {its : List Sl} {w : List (Nat × SV)} (h : SrcR K P F H ⟨1, its, w⟩ (.ref a)) : WI K P F H (RT.ItvT K a its.length) (its.reverse.map .one) := fun F' H' e => by
  cases h.later e with
  | @tup _ vs _ _ h t =>
    have hs : SqT K H' a vs := sqT_mono e.s h
    have hl := t.length
    refine ⟨fun i hi => ?_, by rw [List.length_map, List.length_reverse]; exact Nat.le_refl _, fun i x v H'' hx y => ?_⟩
    · rw [List.length_map, List.length_reverse] at hi
      exact ⟨hi, vs, vs[its.length - 1 - i]'(by omega), hs, List.getElem?_eq_getElem _⟩
    · rw [List.getElem?_map] at hx
      obtain ⟨s, h1, h2⟩ := Option.map_eq_some_iff.mp hx
      subst h2
      obtain ⟨h0, h1⟩ := rev_get h1
      obtain ⟨v', h3, h4⟩ := t.get h1
      have h5 := y.2 vs hs
      rw [h3] at h5
      cases h5
      exact ⟨y.1, h4⟩
end
end PL

namespace PL
open PySem PySem.Spec PyProof.Rows L2
/-- a list, a tuple in the hand layer's heap -/
def SqX (t : Bool) (K : PySem.W.Frag) (H : Hp) (a : Addr) (vs : List V) : Prop := match t with
  | false => SqL K H a vs
  | true => SqT K H a vs
theorem inv_sq {X : Cx} {pins : List (Addr × Obj)} {σ : L2.St} {H : Hp} {s : Shared} {t : Bool} {a : Addr} {vs : List V} (I : Inv X pins σ H s) (q : SqX t X.K H a vs) : ∃ us : List Value, Vals vs us ∧ Sq t s.heap a us.toArray ∧ a < s.heap.objs.size := by
  cases t with
  | false => obtain ⟨us, r, p, _⟩ := I.list q; exact ⟨us, r, p.isList, p.lt⟩
  | true => obtain ⟨us, r, p, _⟩ := I.tuple q; obtain ⟨o, g, z⟩ := id p; exact ⟨us, r, p, Heap.lt_size g⟩
theorem inv_sq_inj {X : Cx} {pins : List (Addr × Obj)} {σ : L2.St} {H : Hp} {s : Shared} {t : Bool} {a : Addr} {vs ws : List V} (I : Inv X pins σ H s) (q : SqX t X.K H a vs) (q' : SqX t X.K H a ws) : vs = ws := by
  cases t with
  | false => exact I.list_inj q q'
  | true => exact I.tuple_inj q q'
/-- the two sequences as they stand at each turn, their items in new pairs -/
def ItzX (t u : Bool) (K : PySem.W.Frag) (a b : Addr) : L2.It :=
  ⟨fun i H => ∃ (vs ws : List V) (x y : V), SqX t K H a vs ∧ SqX u K H b ws ∧ vs[i]? = some x ∧ ws[i]? = some y,
   fun i H v H' => ∃ T x y, v = .ref T ∧ H T = none ∧ H' = upd H T (.tup [x, y]) ∧ (∀ vs, SqX t K H a vs → vs[i]? = some x) ∧ ∀ ws, SqX u K H b ws → ws[i]? = some y,
   fun i H => ∃ vs ws : List V, SqX t K H a vs ∧ SqX u K H b ws ∧ (vs.length ≤ i ∨ ws.length ≤ i)⟩
theorem five {c z p o j k : Addr} (h : c ∈ [z, p, o, j, k]) : c = z ∨ c = p ∨ c = o ∨ c = j ∨ c = k := by simpa using h
theorem not5 {c z p o j k : Addr} (h : c ∉ [z, p, o, j, k]) : c ≠ z ∧ c ≠ p ∧ c ≠ o ∧ c ≠ j ∧ c ≠ k := by simpa using h
theorem turn_mz {P : Program} {w : World} {K : PySem.W.Frag} {elts : List Expr} {kk : Nat} {tpos : Pos} {t u : Bool} {a b z p o j k : Addr} (D : ZipApart z p o j k a b) :
    Turn P w K (.Tuple elts kk tpos) (ItzX t u K a b) [z, p, o, j, k] z (fun i h => IsZip h z p o .none ∧ IsPair h p (.ref j) (.ref k) ∧ (∃ x y, IsPair h o x y) ∧ Cu t h j a i ∧ Cu u h k b i) where
  mem := by simp
  obj := fun i h st c hc => by
    obtain ⟨gz, gp, ⟨x, y, go⟩, c1, c2⟩ := st
    obtain ⟨o1, e1, d1⟩ := c1.obj
    obtain ⟨o2, e2, d2⟩ := c2.obj
    rcases five hc with r | r | r | r | r
    · rw [r]; exact ⟨_, gz, fun v r => nomatch r⟩
    · rw [r]; exact ⟨_, gp, fun v r => nomatch r⟩
    · rw [r]; exact ⟨_, go, fun v r => nomatch r⟩
    · rw [r]; exact ⟨o1, e1, fun v r => by rw [d1] at r; cases r⟩
    · rw [r]; exact ⟨o2, e2, fun v r => by rw [d2] at r; cases r⟩
  keep := fun i h h' st e => by
    obtain ⟨gz, gp, ⟨x, y, go⟩, c1, c2⟩ := st
    exact ⟨e z (by simp) _ gz, e p (by simp) _ gp, ⟨x, y, e o (by simp) _ go⟩, c1.at fun o r => e j (by simp) o r, c2.at fun o r => e k (by simp) o r⟩
  item := by
    intro X hP hw hK hc i pins s σ H E I hf st hg
    subst hP hw hK
    obtain ⟨gz, gp, ⟨x0, y0, go⟩, c1, c2⟩ := st
    obtain ⟨vs, ws, x, y, h1, h2, ex, ey⟩ := hg
    obtain ⟨us, r1, p1, _⟩ := inv_sq I h1
    obtain ⟨us2, r2, p2, _⟩ := inv_sq I h2
    obtain ⟨m, em, rm⟩ := r1.get ex
    obtain ⟨m2, em2, rm2⟩ := r2.get ey
    have lz : z < s.heap.objs.size := Heap.lt_size gz
    refine mz_next_item D gz gp go c1 c2 p1 p2 (x := m) (y := m2) (by simpa using em) (by simpa using em2) fun h' z' o' c1' c2' gt sz kp => ?_
    refine ⟨_, rfl, wpAny_letOwnedTupleGo_zip (s := { s with heap := h' }) z' fun h2' z2 sb => ?_⟩
    have gt2 : h2'.get? s.heap.objs.size = some { cls := .type "tuple", data := .seq #[m, m2] } := (sb.2 _ (Nat.ne_of_gt lz)).trans gt
    have new : ObjOk X.prog X.w (upd H s.heap.objs.size (.tup [x, y])) h2' s.heap.objs.size (.tup [x, y]) := ⟨by show 2 ≤ sizeLine; decide, [m, m2], .cons rm (.cons rm2 .nil), ⟨_, gt2, rfl, _, rfl⟩⟩
    have I1 : Inv X pins σ (upd H s.heap.objs.size (.tup [x, y])) { s with heap := h2' } := by
      refine I.turnedNew (t' := s.toks) (ch := [z, p, o, j, k]) (fun c ob hb r => ?_) hf (Nat.le_refl _) new
      obtain ⟨n1, n2, n3, n4, n5⟩ := not5 hb
      exact (sb.2 c n1).trans (kp c ob n1 n3 n4 n5 r)
    refine ⟨.ref s.heap.objs.size, _, I1, rfl, ⟨_, x, y, rfl, I.hok.fresh (Nat.le_refl _), rfl, fun l hl => by rw [inv_sq_inj I hl h1]; exact ex, fun l hl => by rw [inv_sq_inj I hl h2]; exact ey⟩, ⟨z2, ?_, ⟨m, m2, ?_⟩, ?_, ?_⟩, fun c hcm => ?_⟩
    · exact (sb.2 _ D.TIz).trans (kp _ _ D.TIz D.TITO D.TIi1 D.TIi2 gp)
    · exact (sb.2 _ D.TOz).trans o'
    · exact c1'.at fun ob r => (sb.2 _ D.i1z).trans r
    · exact c2'.at fun ob r => (sb.2 _ D.i2z).trans r
    · have hlt : c < s.heap.objs.size := by
        obtain ⟨_, e1, _⟩ := c1.obj
        obtain ⟨_, e2, _⟩ := c2.obj
        rcases five hcm with r | r | r | r | r <;> rw [r]
        · exact lz
        · exact Heap.lt_size gp
        · exact Heap.lt_size go
        · exact Heap.lt_size e1
        · exact Heap.lt_size e2
      rw [upd_ne (Nat.ne_of_lt hlt)]
      exact (hf c hcm).1
  done := by
    intro X hP hw hK hc i pins s σ H E I hf st hg
    subst hP hw hK
    obtain ⟨gz, gp, ⟨x0, y0, go⟩, c1, c2⟩ := st
    obtain ⟨vs, ws, h1, h2, no⟩ := hg
    obtain ⟨us, r1, p1, _⟩ := inv_sq I h1
    obtain ⟨us2, r2, p2, _⟩ := inv_sq I h2
    have l1 := r1.length
    have l2 := r2.length
    have he : us.toArray[i]? = none ∨ us2.toArray[i]? = none := no.imp (fun r => by simp; omega) fun r => by simp; omega
    refine mz_next_end (I.ok.hd hc) D gz gp go c1 c2 p1 p2 he fun h' kp => ⟨rfl, I.turnedL (t' := s.toks) (ch := [z, p, o, j, k]) (fun c ob hb r => ?_) hf⟩
    obtain ⟨n1, n2, n3, n4, n5⟩ := not5 hb
    exact kp c ob n1 n3 n4 n5 r
  self := fun A i s Q E st h => wpAny_pyIter_zip st.1 h
def iZipX (K : PySem.W.Frag) (ta : TA) : TI := fun σ H R => ta σ H fun vs H1 => ∃ (t u : Bool) (a b : Addr) (xs ys : List V), vs = [.ref a, .ref b] ∧ SqX t K H1 a xs ∧ SqX u K H1 b ys ∧ R (ItzX t u K a b) H1
theorem pi_mz {X : Cx} {e e2 : Expr} {ta : TA} {p pos tpos : Pos} {elts : List Expr} {kk : Nat} (hg : Gl X "zip") (hm : X.mg "zip" = none) (ha : PA X [e, e2] ta) (hs : starEach [e, e2] X.env = (false, eval e X.env) :: starEach [e2] X.env := by rfl)
    (hpl : (backTo pos (starEach [e2] X.env)).any (·.1) = false := by rfl) : PI X (.Tuple elts kk tpos) (.Call (.Name "zip" p) [e, e2] [] pos) (iZipX X.K ta) := by
  refine ⟨fun pins s σ H R I h => Call_ (ld_blt I hg hm PyProof.Rows.boot_zip (PyProof.Rows.callWith_type1 (thn (ha.run pos pins s σ H _ I h) fun us s1 ⟨vs, H1, I1, r1, q1⟩ => ?_) hs hpl))⟩
  obtain ⟨t, u, a, b, xs, ys, ex, h1, h2, q⟩ := q1
  subst ex
  cases r1 with
  | cons r rr =>
    cases rr with
    | cons r' rr =>
      cases rr
      cases r
      cases r'
      obtain ⟨us1, _, p1, lt1⟩ := inv_sq I1 h1
      obtain ⟨us2, _, p2, lt2⟩ := inv_sq I1 h2
      refine mz_call p1 p2 fun h' gz gp go c1 c2 hsz kp => wpAny_pyIter_zip gz ?_
      have I2 : Inv X pins σ H1 { s1 with heap := h' } := I1.kept (t' := s1.toks) kp
      refine ⟨s1.heap.objs.size + 4, [s1.heap.objs.size + 4, s1.heap.objs.size + 2, s1.heap.objs.size + 3, s1.heap.objs.size, s1.heap.objs.size + 1], _, _, H1, rfl, I2, turn_mz (PySem.W.ktu_apart s1.heap.objs.size a b lt1 lt2), ⟨gz, gp, ⟨_, _, go⟩, c1, c2⟩, fun c hcm => ?_, q⟩
      have hle : s1.heap.objs.size ≤ c := by rcases five hcm with r | r | r | r | r <;> rw [r] <;> first | exact Nat.le_refl _ | exact Nat.le_add_right _ _
      exact I1.fpOk hle (I1.hok.fresh hle)
section
variable {K : PySem.W.Frag}
def kOf : Bool → Nat
  | false => 0
  | true => 1
theorem SrcR.sq {P : List Addr} {F H : Hp} {t : Bool} {a : Addr} {its : List Sl} {w : List (Nat × SV)} (h : SrcR K P F H ⟨kOf t, its, w⟩ (.ref a)) (s : Sub F H) : ∃ vs, SqX t K H a vs ∧ Its K P F H its vs := by
  cases t with
  | false => cases h with | @lst _ vs _ _ h i => exact ⟨vs, h.elim (fun r => .inl (rd_mono s r)) fun r => .inl (.inl r.2), i⟩
  | true => cases h with | @tup _ vs _ _ h i => exact ⟨vs, sqT_mono s h, i⟩
theorem WI.zipX {P : List Addr} {F H : Hp} {t u : Bool} {a b : Addr} {its jts : List Sl} {w w' : List (Nat × SV)} (h : SrcR K P F H ⟨kOf t, its, w⟩ (.ref a)) (h' : SrcR K P F H ⟨kOf u, jts, w'⟩ (.ref b)) : WI K P F H (ItzX t u K a b) (List.zipWith .two its jts) := fun F' H' e => by
  obtain ⟨vs, hs, i1⟩ := (h.later e).sq e.s
  obtain ⟨ws, hs', i2⟩ := (h'.later e).sq e.s
  have n1 := i1.length
  have n2 := i2.length
  refine ⟨fun i hi => ?_, ⟨vs, ws, hs, hs', by rw [List.length_zipWith]; omega⟩, fun i x v H'' hx y => ?_⟩
  · rw [List.length_zipWith] at hi
    exact ⟨vs, ws, vs[i]'(by omega), ws[i]'(by omega), hs, hs', List.getElem?_eq_getElem _, List.getElem?_eq_getElem _⟩
  · rw [List.getElem?_zipWith] at hx
    cases e1 : its[i]? with
    | none => rw [e1] at hx; cases hx
    | some s1 =>
      cases e2 : jts[i]? with
      | none => rw [e1, e2] at hx; cases hx
      | some s2 =>
        rw [e1, e2] at hx
        cases hx
        obtain ⟨v1, h3, h4⟩ := i1.get e1
        obtain ⟨v2, h5, h6⟩ := i2.get e2
        obtain ⟨T, y1, y2, z1, z2, z3, z4, z5⟩ := y
        have z4 := z4 vs hs
        have z5 := z5 ws hs'
        rw [h3] at z4
        rw [h5] at z5
        cases z4
        cases z5
        exact ⟨T, _, _, z1, z2, z3, h4, h6⟩
end
end PL

namespace PL
open PySem PyProof.Rows
open L2 (V Hp HO SqL SqT upd Rd Cx PE PT PW PA PS PSs PG PI PO Ends VK XK WX TE TT TA TS TO TG OpR R2 CallR SlR)

/-- a source's value -/
def SrV (K : PySem.W.Frag) (σ : L2.St) (F : Hp) (s : Sr) (v : V) : Prop := match s with
  | .slot i => σ[i]? = some (some v)
  | .val x => RF K F x v
theorem SrV.up {K : PySem.W.Frag} {σ : L2.St} {F F' : Hp} {s : Sr} {v : V} (e : Sub F F') (h : SrV K σ F s v) : SrV K σ F' s v := by
  cases s with
  | slot i => exact h
  | val x => exact RF.mono e h
def SJ (C : Ct) (e : Ex) (pe : Expr) : Prop := ∃ t, PE C.X pe t ∧ ∀ σ H Q F S fp bq, Good C.X.K C.xr F H S σ fp bq →
  Want C.X.K C.xr C.xd C.W σ F H fp bq (fun F _ _ s v => SrV C.X.K σ F s v) (srOf e (ev C.fe e S)) Q → t σ H Q
section
variable {C : Ct} {pos : Pos} {a b e : Ex} {pa pb pe : Expr}
theorem sj_v {i : Nat} {x : Str} (hN : C.X.N[i]? = some x) (hv : L2.Vis C.X.env.scope x) (hd : (x == ("__debug__" : Str)) = false) (hc : (x == ("__classdict__" : Str)) = false) : SJ C (.v i) (.Name x pos) := by
  refine ⟨_, L2.pe_var hN hv hd hc, fun σ H Q F S fp bq G w => ?_⟩
  have w : Want C.X.K C.xr C.xd C.W σ F H fp bq (fun F _ _ s v => SrV C.X.K σ F s v) ((ev C.fe (.v i) S).bind fun p => .ok (.slot i, p.2)) Q := w
  unfold ev at w
  cases e : rd S i with
  | none => rw [e] at w; exact w.elim
  | some s =>
    rw [e] at w
    obtain ⟨v, q, h1, h2, h3⟩ := G.rd e
    exact ⟨v, h1, w F H fp v G .refl h1⟩
theorem sj_val (ok : CtK C) (h : SE C e pe) (hn : ∀ i, e ≠ .v i) : SJ C e pe := by
  obtain ⟨t, hp, h⟩ := h.val
  refine ⟨t, hp, fun σ H Q F S fp bq G w => h σ H Q F S fp bq G ?_⟩
  have e1 : srOf e (ev C.fe e S) = (valOf e (ev C.fe e S)).bind fun p => .ok (.val p.1.pv, p.2) := by
    unfold srOf
    cases e <;> first | rfl | exact absurd rfl (hn _)
  rw [e1] at w
  refine Want.bind w fun p F1 H1 fp1 v G1 E1 R1 w1 => ?_
  obtain ⟨q, r, o, _⟩ := R1
  obtain ⟨o, n⟩ := o rfl
  refine w1 (frz F1 H1 q) H1 fp1 v (G1.up ok.xr (sub_frz G1.sub) .refl (frz_sub G1.sub) fun i a ha => ?_) ⟨E1.f.trans (sub_frz G1.sub), E1.h, fun a ha hb => ?_, E1.own⟩ (r.frz' G1.sub q fun _ h => h)
  · rw [frz_out fun h => ((o.2 a h).2.2 i).1 ha]
    exact G1.fr i a ha
  · by_cases h : a ∈ q
    · exact .inl (n a h)
    · rw [frz_out h] at hb
      exact E1.new a ha hb
/-- P is what the lent slots w and the callers lend -/
structure POk (S : S) (H : Hp) (fp : FP) (P : List Addr) (w : List (Nat × SV)) : Prop where
  there : ∀ a ∈ P, H a ≠ none
  own : ∀ a ∈ P, ∀ i, a ∈ fp i → ∃ s, (i, s) ∈ w
  slot : ∀ x ∈ w, S[x.1]? = some (.ow x.2)
theorem POk.nil {S : S} {H : Hp} {fp : FP} : POk S H fp [] [] := ⟨(fun _ h => nomatch h), (fun _ h => nomatch h), (fun _ h => nomatch h)⟩
theorem POk.append {S : S} {H : Hp} {fp : FP} {P P' : List Addr} {w w' : List (Nat × SV)} (h : POk S H fp P w) (h' : POk S H fp P' w') : POk S H fp (P ++ P') (w ++ w') := by
  refine ⟨fun a ha => (List.mem_append.mp ha).elim (h.there a) (h'.there a), fun a ha i hi => ?_, fun x hx => (List.mem_append.mp hx).elim (h.slot x) (h'.slot x)⟩
  rcases List.mem_append.mp ha with ha | ha
  · obtain ⟨s, hs⟩ := h.own a ha i hi; exact ⟨s, List.mem_append_left _ hs⟩
  · obtain ⟨s, hs⟩ := h'.own a ha i hi; exact ⟨s, List.mem_append_right _ hs⟩
theorem srcP_w {x : PV} {s : Src} (h : srcP x = some s) : s.w = [] := by
  unfold srcP at h
  split at h <;> first | (cases h; rfl) | cases h
theorem srcAt_ok {K : PySem.W.Frag} {xr : Exc → V → Hp → Prop} {F H : Hp} {S : PL.S} {σ : L2.St} {fp bq : FP} (G : Good K xr F H S σ fp bq) {sr : Sr} {v : V} {s : Src} (h : SrV K σ F sr v) (e : srcAt S sr = some s) :
    ∃ P, SrcR K P F H s v ∧ POk S H fp P s.w := by
  cases sr with
  | val x => exact ⟨[], .val h e, by rw [srcP_w e]; exact .nil⟩
  | slot i =>
    have e : srcV S i = some s := e
    have h : σ[i]? = some (some v) := h
    unfold srcV at e
    cases q : S[i]? with
    | none => rw [q] at e; cases e
    | some y =>
      rw [q] at e
      have g := G.sl i y q
      cases y with
      | no => cases e
      | xc _ => cases e
      | ow t =>
        obtain ⟨h0, u, h1, h2⟩ := g
        rw [h] at h1
        cases h1
        cases t with
        | fz x => exact ⟨[], .val h2.fz_inv.1 e, by rw [srcP_w e]; exact .nil⟩
        | obj _ _ _ => cases e
        | lst l =>
          cases e
          refine ⟨fp i, ?_, ⟨h2.there, fun a ha j hj => ⟨.lst l, ?_⟩, fun x hx => ?_⟩⟩
          · generalize hq : fp i = p at h2
            cases h2 with
            | lst h3 t => exact .lst (.inr ⟨List.mem_cons_self, h3⟩) (.lend t fun a ha => List.mem_cons_of_mem _ ha)
          · rw [G.dj j i a hj ha]; exact List.mem_singleton.mpr rfl
          · rw [List.mem_singleton.mp hx]; exact q
      | bw t =>
        obtain ⟨h0, u, h1, h2⟩ := g
        rw [h] at h1
        cases h1
        cases t with
        | fz x => exact ⟨[], .val h2.fz_inv.1 e, by rw [srcP_w e]; exact .nil⟩
        | obj _ _ _ => cases e
        | lst l =>
          cases e
          refine ⟨bq i, ?_, ⟨h2.there, fun a ha j hj => absurd hj (G.db i j a ha), fun x hx => nomatch hx⟩⟩
          generalize hq : bq i = p at h2
          cases h2 with
          | lst h3 t => exact .lst (.inr ⟨List.mem_cons_self, h3⟩) (.lend t fun a ha => List.mem_cons_of_mem _ ha)
/-- what is wanted of a walk -/
def WantI (K : PySem.W.Frag) (xr : Exc → V → Hp → Prop) (xd : Exc → Value → Option Addr → Hp → Prop) (W : WX) (σ : L2.St) (F H : Hp) (fp bq : FP) (r : Res ((List Itm × List (Nat × SV)) × PL.S)) (R : L2.It → Hp → Prop) : Prop := match r with
  | .no => False
  | .ok p => ∀ F' H' fp' J P, Good K xr F' H' p.2 σ fp' bq → Ext F H F' H' fp fp' → WI K P F' H' J p.1.1 → POk p.2 H' fp' P p.1.2 → R J H'
  | .ex x => WEx xd W σ F H fp x
theorem WantI.shift {K : PySem.W.Frag} {xr : Exc → V → Hp → Prop} {xd : Exc → Value → Option Addr → Hp → Prop} {W : WX} {σ : L2.St} {F H F' H' : Hp} {fp fp' bq : FP} {r : Res ((List Itm × List (Nat × SV)) × PL.S)} {R : L2.It → Hp → Prop}
    (e : Ext F H F' H' fp fp') (w : WantI K xr xd W σ F H fp bq r R) : WantI K xr xd W σ F' H' fp' bq r R := by
  cases r with
  | no => exact w
  | ex x => exact WEx.shift e w
  | ok p => exact fun F2 H2 fp2 J P G E R => w F2 H2 fp2 J P G (e.trans E) R
theorem WantI.bind {K : PySem.W.Frag} {xr : Exc → V → Hp → Prop} {xd : Exc → Value → Option Addr → Hp → Prop} {W : WX} {σ : L2.St} {F H : Hp} {fp bq : FP} {α β : Type} {RelA : Hp → Hp → FP → α → β → Prop} {r : Res (α × PL.S)} {f : α × PL.S → Res ((List Itm × List (Nat × SV)) × PL.S)} {Q : β → Hp → Prop} {R : L2.It → Hp → Prop}
    (w : WantI K xr xd W σ F H fp bq (r.bind f) R)
    (k : ∀ p F' H' fp' b, Good K xr F' H' p.2 σ fp' bq → Ext F H F' H' fp fp' → RelA F' H' fp' p.1 b → WantI K xr xd W σ F H fp bq (f p) R → Q b H') :
    Want K xr xd W σ F H fp bq RelA r Q := by
  cases r with
  | no => exact w
  | ex x => exact w
  | ok p => exact fun F' H' fp' b G E R => k p F' H' fp' b G E R w
def SI (C : Ct) (it : It) (tg pit : Expr) : Prop := ∃ wi : L2.TI, PI C.X tg pit wi ∧ ∀ σ H R F S fp bq, Good C.X.K C.xr F H S σ fp bq →
  WantI C.X.K C.xr C.xd C.W σ F H fp bq (evI C.fe it S) R → wi σ H R
theorem guardI {K : PySem.W.Frag} {xr : Exc → V → Hp → Prop} {xd : Exc → Value → Option Addr → Hp → Prop} {W : WX} {σ : L2.St} {F H : Hp} {fp bq : FP} {c : Bool} {r : Res ((List Itm × List (Nat × SV)) × PL.S)} {R : L2.It → Hp → Prop}
    (w : WantI K xr xd W σ F H fp bq (Res.guard c r) R) : c = true ∧ WantI K xr xd W σ F H fp bq r R := by
  cases c with
  | true => exact ⟨rfl, w⟩
  | false => exact w.elim
/-- a for over anything: which it is is seen from the value -/
theorem si_ex {tg : Expr} (h : SJ C a pa) : SI C (.ex a) tg pa := by
  obtain ⟨t, hp, h⟩ := h
  refine ⟨fun σ H R => t σ H fun x H1 => (∃ a, x = .ref a ∧ (∃ xs, SqL C.X.K H1 a xs) ∧ R (L2.Itl C.X.K a) H1) ∨ (∃ a, x = .ref a ∧ (∃ xs, SqT C.X.K H1 a xs) ∧ R (L2.Itt C.X.K a) H1) ∨ ∃ z, x = .str z ∧ R (L2.Its z) H1, ⟨fun pins s σ H R I hq => ?_⟩, fun σ H R F S fp bq G w => ?_⟩
  · refine L2.thn (hp.run pins s σ H _ I hq) fun v s1 ⟨x, H1, I1, r1, q1⟩ => ?_
    -- the value is there already: the rules for a value that stands by itself
    have lit : ∀ {Q : VK}, Q x H1 → wpAny (model C.X.prog C.X.w) C.X.A (pure v) (L2.EP C.X pins σ Q) C.X.xe s1 := fun {Q} q => wpAny_pure ⟨x, H1, I1, r1, q⟩
    rcases q1 with ⟨a, rfl, ⟨xs, hs⟩, q1⟩ | ⟨a, rfl, ⟨xs, hs⟩, q1⟩ | ⟨z, rfl, q1⟩
    · cases r1
      obtain ⟨its, rv, p, hz⟩ := I1.list hs
      exact wpAny_pyIter_list p.isList (L2.pi_one (tk := s1.toks) I1 _ (L2.turn_list a _) ⟨_, Heap.get?_push_size _ rfl, rfl, rfl⟩ q1)
    · cases r1
      obtain ⟨its, rv, p, hz⟩ := I1.tuple hs
      exact wpAny_pyIter_tuple (show s1.heap.IsTuple a its.toArray from p) (L2.pi_one (tk := s1.toks) I1 _ (L2.turn_tuple a _) ⟨_, Heap.get?_push_size _ rfl, rfl, rfl⟩ q1)
    · obtain ⟨t, rfl⟩ := r1
      cases ha : z.cps.all (· < 128)
      · exact wpAny_pyIter_wide ha (L2.pi_one (tk := s1.toks) I1 _ (L2.turn_str _ z t "str_iterator" (.inr rfl)) ⟨_, Heap.get?_push_size _ rfl, rfl, rfl⟩ q1)
      · exact wpAny_pyIter_ascii ha (L2.pi_one (tk := s1.toks) I1 _ (L2.turn_str _ z t "str_ascii_iterator" (.inl rfl)) ⟨_, Heap.get?_push_size _ rfl, rfl, rfl⟩ q1)
  · refine h σ H _ F S fp bq G (WantI.bind w fun p F1 H1 fp1 v G1 E1 R1 w1 => ?_)
    obtain ⟨sr, S1⟩ := p
    cases e : srcAt S1 sr with
    | none => simp only [e] at w1; exact w1.elim
    | some s =>
      simp only [e] at w1
      obtain ⟨P, r, po⟩ := srcAt_ok G1 R1 e
      have fin : ∀ J, WI C.X.K P F1 H1 J (s.its.map .one) → R J H1 := fun J wi => w1 F1 H1 fp1 J P G1 E1 wi po
      cases r with
      | lst h t => exact .inl ⟨_, rfl, ⟨_, h.elim (fun r => .inl (rd_mono G1.sub r)) fun r => .inl (.inl r.2)⟩, fin _ (.lst (.lst (w := []) h t))⟩
      | tup h t => exact .inr (.inl ⟨_, rfl, ⟨_, sqT_mono G1.sub h⟩, fin _ (.tup (.tup (w := []) h t))⟩)
      | str => exact .inr (.inr ⟨_, rfl, fin _ .str⟩)
theorem r62_of {i : Int} (h : r62 i = true) : -(2 ^ 62) ≤ i ∧ i < 2 ^ 62 := by
  unfold r62 at h
  rw [decide_eq_true_eq] at h
  omega
theorem asInt_of {x : PV} {n : Int} (h : asInt x = some n) : x = .int n := by
  cases x <;> cases h; rfl
theorem si_r1 {tg : Expr} {p : Pos} (hg : L2.Gl C.X "range") (hm : C.X.mg "range" = none) (hs : notStar pa = true) (h : SE C a pa) : SI C (.r1 a) tg (.Call (.Name "range" p) [pa] [] pos) := by
  obtain ⟨t, hp, h⟩ := h
  refine ⟨_, L2.pi_range1 hg hm (L2.pa_cons hp L2.pa_nil (star_ns hs)) (star_ns hs), fun σ H R F S fp bq G w => ?_⟩
  refine h σ H _ F S fp bq G (WantI.bind w fun q F1 H1 fp1 v G1 E1 R1 w1 => ?_)
  cases e : asInt q.1.pv with
  | none => simp only [e] at w1; exact w1.elim
  | some n =>
    simp only [e] at w1
    obtain ⟨hr, w1⟩ := guardI w1
    obtain ⟨h1, h2⟩ := r62_of hr
    have hv := R1.vw.asInt G1.sub (asInt_of e)
    subst hv
    have := w1 F1 H1 fp1 (L2.Itr 0 (n - 0).toNat) [] G1 E1 .range .nil
    rw [Int.sub_zero] at this
    exact ⟨n, rfl, h1, h2, this⟩
theorem si_r2 {tg : Expr} {p : Pos} (hg : L2.Gl C.X "range") (hm : C.X.mg "range" = none) (hs : notStar pa = true) (hs' : notStar pb = true) (h : SE C a pa) (h' : SE C b pb) : SI C (.r2 a b) tg (.Call (.Name "range" p) [pa, pb] [] pos) := by
  obtain ⟨t, hp, h⟩ := h
  obtain ⟨t', hp', h'⟩ := h'
  refine ⟨_, L2.pi_range2 hg hm (L2.pa_cons hp (L2.pa_cons hp' L2.pa_nil (star_ns hs')) (star_ns hs)) (by rw [star_ns hs, star_ns hs']; rfl) (star_ns hs'), fun σ H R F S fp bq G w => ?_⟩
  refine h σ H _ F S fp bq G (WantI.bind w fun q F1 H1 fp1 v G1 E1 R1 w1 => ?_)
  refine h' σ H1 _ F1 q.2 fp1 bq G1 (WantI.bind (w1.shift E1) fun q' F2 H2 fp2 u G2 E2 R2 w2 => ?_)
  cases e : asInt q.1.pv with
  | none => simp only [e] at w2; exact w2.elim
  | some i =>
    cases e' : asInt q'.1.pv with
    | none => simp only [e, e'] at w2; exact w2.elim
    | some n =>
      simp only [e, e'] at w2
      obtain ⟨hr, w2⟩ := guardI w2
      rw [Bool.and_eq_true] at hr
      obtain ⟨h1, h2⟩ := r62_of hr.1
      obtain ⟨h3, h4⟩ := r62_of hr.2
      have hv := R1.vw.asInt G1.sub (asInt_of e)
      have hu := R2.vw.asInt G2.sub (asInt_of e')
      subst hv hu
      exact ⟨i, n, rfl, ⟨h1, h2, h3, h4⟩, w2 F2 H2 fp2 _ [] G2 E2 .range .nil⟩
theorem si_zip {p tpos : Pos} {elts : List Expr} {kk : Nat} (hg : L2.Gl C.X "zip") (hm : C.X.mg "zip" = none) (hs : notStar pa = true) (hs' : notStar pb = true) (h : SJ C a pa) (h' : SJ C b pb) : SI C (.zip a b) (.Tuple elts kk tpos) (.Call (.Name "zip" p) [pa, pb] [] pos) := by
  obtain ⟨t, hp, h⟩ := h
  obtain ⟨t', hp', h'⟩ := h'
  refine ⟨_, pi_mz hg hm (L2.pa_cons hp (L2.pa_cons hp' L2.pa_nil (star_ns hs')) (star_ns hs)) (star_ns hs) (by rw [star_ns hs']; rfl), fun σ H R F S fp bq G w => ?_⟩
  refine h σ H _ F S fp bq G (WantI.bind w fun q F1 H1 fp1 v G1 E1 R1 w1 => ?_)
  refine h' σ H1 _ F1 q.2 fp1 bq G1 (WantI.bind (w1.shift E1) fun q' F2 H2 fp2 u G2 E2 R2 w2 => ?_)
  cases e : srcAt q'.2 q.1 with
  | none => simp only [e] at w2; exact w2.elim
  | some s =>
    cases e' : srcAt q'.2 q'.1 with
    | none => simp only [e, e'] at w2; exact w2.elim
    | some z =>
      simp only [e, e'] at w2
      obtain ⟨hk, w2⟩ := guardI w2
      rw [Bool.and_eq_true, bne_iff_ne, bne_iff_ne] at hk
      obtain ⟨P, r, po⟩ := srcAt_ok G2 (R1.up E2.f) e
      obtain ⟨P', r', po'⟩ := srcAt_ok G2 R2 e'
      have r := r.mono (P' := P ++ P') fun a ha => List.mem_append_left _ ha
      have r' := r'.mono (P' := P ++ P') fun a ha => List.mem_append_right _ ha
      have fin : ∀ J, WI C.X.K (P ++ P') F2 H2 J (List.zipWith .two s.its z.its) → R J H2 := fun J wi => w2 F2 H2 fp2 J _ G2 E2 wi (po.append po')
      have hl : ∀ {c vs}, (Rd F2 c (.lst vs) ∨ (c ∈ P ++ P' ∧ H2 c = some (.lst vs))) → SqX false C.X.K H2 c vs := fun h => h.elim (fun r => .inl (rd_mono G2.sub r)) fun r => .inl (.inl r.2)
      cases r with
      | str => exact absurd rfl hk.1
      | lst h1 t1 =>
        cases r' with
        | str => exact absurd rfl hk.2
        | lst h2 t2 => exact ⟨false, false, _, _, _, _, rfl, hl h1, hl h2, fin _ (.zipX (t := false) (u := false) (.lst (w := []) h1 t1) (.lst (w := []) h2 t2))⟩
        | tup h2 t2 => exact ⟨false, true, _, _, _, _, rfl, hl h1, sqT_mono G2.sub h2, fin _ (.zipX (t := false) (u := true) (.lst (w := []) h1 t1) (.tup (w := []) h2 t2))⟩
      | tup h1 t1 =>
        cases r' with
        | str => exact absurd rfl hk.2
        | lst h2 t2 => exact ⟨true, false, _, _, _, _, rfl, sqT_mono G2.sub h1, hl h2, fin _ (.zipX (t := true) (u := false) (.tup (w := []) h1 t1) (.lst (w := []) h2 t2))⟩
        | tup h2 t2 => exact ⟨true, true, _, _, _, _, rfl, sqT_mono G2.sub h1, sqT_mono G2.sub h2, fin _ (.zipX (t := true) (u := true) (.tup (w := []) h1 t1) (.tup (w := []) h2 t2))⟩
theorem si_enum {p tpos : Pos} {elts : List Expr} {kk : Nat} (hg : L2.Gl C.X "enumerate") (hm : C.X.mg "enumerate" = none) (hs : notStar pa = true) (h : SJ C a pa) : SI C (.enum a) (.Tuple elts kk tpos) (.Call (.Name "enumerate" p) [pa] [] pos) := by
  obtain ⟨t, hp, h⟩ := h
  refine ⟨_, L2.pi_enum hg hm (L2.pa_cons hp L2.pa_nil (star_ns hs)) (star_ns hs), fun σ H R F S fp bq G w => ?_⟩
  refine h σ H _ F S fp bq G (WantI.bind w fun q F1 H1 fp1 v G1 E1 R1 w1 => ?_)
  cases e : srcAt q.2 q.1 with
  | none => simp only [e] at w1; exact w1.elim
  | some s =>
    simp only [e] at w1
    obtain ⟨hk, w1⟩ := guardI w1
    rw [beq_iff_eq] at hk
    obtain ⟨P, r, po⟩ := srcAt_ok G1 R1 e
    cases r with
    | str => cases hk
    | tup _ _ => cases hk
    | lst h1 t1 => exact ⟨_, _, rfl, h1.elim (fun r => .inl (rd_mono G1.sub r)) fun r => .inl (.inl r.2), w1 F1 H1 fp1 _ P G1 E1 (.enum (.lst (w := []) h1 t1)) po⟩
theorem si_rev {tg : Expr} {p : Pos} (hg : L2.Gl C.X "reversed") (hm : C.X.mg "reversed" = none) (hs : notStar pa = true) (h : SJ C a pa) : SI C (.rev a) tg (.Call (.Name "reversed" p) [pa] [] pos) := by
  obtain ⟨t, hp, h⟩ := h
  refine ⟨_, RT.pi_revA hg hm hp (star_ns hs), fun σ H R F S fp bq G w => ?_⟩
  refine h σ H _ F S fp bq G (WantI.bind w fun q F1 H1 fp1 v G1 E1 R1 w1 => ?_)
  cases e : srcAt q.2 q.1 with
  | none => simp only [e] at w1; exact w1.elim
  | some s =>
    simp only [e] at w1
    obtain ⟨hk, w1⟩ := guardI w1
    rw [bne_iff_ne] at hk
    obtain ⟨P, r, po⟩ := srcAt_ok G1 R1 e
    cases r with
    | str => exact absurd rfl hk
    | tup h1 t1 => exact ⟨_, _, rfl, .inr ⟨sqT_mono G1.sub h1, by rw [← t1.length]; exact w1 F1 H1 fp1 _ P G1 E1 (.revT (.tup (w := []) h1 t1)) po⟩⟩
    | lst h1 t1 => exact ⟨_, _, rfl, .inl ⟨h1.elim (fun r => .inl (rd_mono G1.sub r)) fun r => .inl (.inl r.2), by rw [← t1.length]; exact w1 F1 H1 fp1 _ P G1 E1 (.revL (.lst (w := []) h1 t1)) po⟩⟩
end
end PL

namespace PL
open PySem PyProof.Rows
open L2 (V Hp HO SqL SqT upd Rd Cx PE PT PW PA PS PSs PG PGs PI PO Ends VK XK WX TE TT TA TS TO TG TGs OpR R2 CallR SlR)

section
variable {K : PySem.W.Frag} {xr : Exc → V → Hp → Prop} {F H : Hp} {S : PL.S} {σ : L2.St} {fp bq : FP}
/-- a slot is stored -/
theorem Good.put (G : Good K xr F H S σ fp bq) (i : Nat) {y : Sl} {v : V} {q b : List Addr} (h : SlO K xr F H y (some (some v)) q b) (hn : q.Nodup) (hf : ∀ a ∈ q, F a = none ∧ ∀ j, j ≠ i → a ∉ fp j ∧ a ∉ bq j) (hb : ∀ a ∈ b, a ∉ q ∧ ∀ j, j ≠ i → a ∉ fp j) :
    ∃ fp' bq', Good K xr F H (S.set i y) (σ.set i (some v)) fp' bq' ∧ (∀ j, j ≠ i → fp' j = fp j ∧ bq' j = bq j) ∧ ((∀ a ∈ fp' i, a ∈ q) ∨ fp' = fp) := by
  by_cases hi : i < S.length
  · have upd1 : ∀ (f : FP) (l : List Addr) j, j ≠ i → (if j = i then l else f j) = f j := fun f l j e => if_neg e
    refine ⟨fun j => if j = i then q else fp j, fun j => if j = i then b else bq j, ⟨G.sub, by rw [List.length_set, List.length_set]; exact G.len, fun j x e => ?_, fun j hj => ?_, fun j => ?_, fun j k a h1 h2 => ?_, fun j a h1 => ?_, fun j k a h1 h2 => ?_⟩, fun j hj => ⟨if_neg hj, if_neg hj⟩, .inl fun a ha => by simpa using ha⟩
    · by_cases hj : j = i
      · subst hj
        rw [List.getElem?_set_self hi] at e
        rw [List.getElem?_set_self (by rw [← G.len]; exact hi)]
        cases e
        simp only [if_true]
        exact h
      · rw [List.getElem?_set_ne (Ne.symm hj)] at e
        rw [List.getElem?_set_ne (Ne.symm hj)]
        simp only [if_neg hj]
        exact G.sl j x e
    · rw [List.length_set] at hj
      have : j ≠ i := by omega
      simp only [if_neg this]
      exact G.out j hj
    · by_cases hj : j = i
      · simp only [if_pos hj]; exact hn
      · simp only [if_neg hj]; exact G.nd j
    · by_cases hj : j = i <;> by_cases hk : k = i
      · rw [hj, hk]
      · simp only [if_pos hj, if_neg hk] at h1 h2
        exact absurd h2 ((hf a h1).2 k hk).1
      · simp only [if_neg hj, if_pos hk] at h1 h2
        exact absurd h1 ((hf a h2).2 j hj).1
      · simp only [if_neg hj, if_neg hk] at h1 h2
        exact G.dj j k a h1 h2
    · by_cases hj : j = i
      · simp only [if_pos hj] at h1; exact (hf a h1).1
      · simp only [if_neg hj] at h1; exact G.fr j a h1
    · by_cases hj : j = i <;> by_cases hk : k = i
      · simp only [if_pos hj, if_pos hk] at h1 h2
        exact (hb a h1).1 h2
      · simp only [if_pos hj, if_neg hk] at h1 h2
        exact (hb a h1).2 k hk h2
      · simp only [if_neg hj, if_pos hk] at h1 h2
        exact ((hf a h2).2 j hj).2 h1
      · simp only [if_neg hj, if_neg hk] at h1 h2
        exact G.db j k a h1 h2
  · refine ⟨fp, bq, ?_, fun j _ => ⟨rfl, rfl⟩, .inr rfl⟩
    rw [List.set_eq_of_length_le (by omega), List.set_eq_of_length_le (by rw [← G.len]; omega)]
    exact G
/-- a frozen value is stored -/
theorem Good.putF (G : Good K xr F H S σ fp bq) (i : Nat) {x : PV} {v : V} (h : RF K F x v) :
    ∃ fp' bq', Good K xr F H (S.set i (.ow (.fz x))) (σ.set i (some v)) fp' bq' ∧ (∀ j, j ≠ i → fp' j = fp j ∧ bq' j = bq j) ∧ (∀ j a, a ∈ fp' j → a ∈ fp j) := by
  obtain ⟨fp', bq', G', h1, h2⟩ := G.put i (y := .ow (.fz x)) (v := v) (q := []) (b := []) ⟨rfl, v, rfl, .fz h⟩ .nil (fun _ h => nomatch h) (fun _ h => nomatch h)
  refine ⟨fp', bq', G', h1, fun j a ha => ?_⟩
  by_cases e : j = i
  · subst e
    rcases h2 with h2 | h2
    · exact nomatch h2 a ha
    · rw [← h2]; exact ha
  · rw [← (h1 j e).1]; exact ha
/-- what is handed over by a walk is stored -/
theorem Good.putI (G : Good K xr F H S σ fp bq) (i : Nat) {P : List Addr} {y : Sl} {v : V} (h : SlI K P F H y v) (hP : ∀ a ∈ P, ∀ j, a ∉ fp j) :
    ∃ fp' bq', Good K xr F H (S.set i y) (σ.set i (some v)) fp' bq' ∧ (∀ j, j ≠ i → fp' j = fp j ∧ bq' j = bq j) ∧ (∀ j a, a ∈ fp' j → a ∈ fp j) := by
  cases y with
  | no => exact h.elim
  | xc _ => exact h.elim
  | ow t =>
    cases t with
    | fz x => exact G.putF i h
    | lst _ => exact h.elim
    | obj _ _ _ => exact h.elim
  | bw t =>
    obtain ⟨b, r, hb⟩ := h
    obtain ⟨fp', bq', G', h1, h2⟩ := G.put i (y := .bw t) (v := v) (q := []) (b := b) ⟨rfl, v, rfl, r⟩ .nil (fun _ h => nomatch h) (fun a ha => ⟨fun h => (nomatch h), fun j _ => hP a (hb a ha) j⟩)
    refine ⟨fp', bq', G', h1, fun j a ha => ?_⟩
    by_cases e : j = i
    · subst e
      rcases h2 with h2 | h2
      · exact nomatch h2 a ha
      · rw [← h2]; exact ha
    · rw [← (h1 j e).1]; exact ha
end

/-- a target's store -/
structure Put (σ : L2.St) (bq : FP) (t : Nat → Bool) (σ' : L2.St) (bq' : FP) : Prop where
  len : σ'.length = σ.length
  kp : ∀ i, t i = false → σ'[i]? = σ[i]? ∧ bq' i = bq i
theorem Put.refl {σ : L2.St} {bq : FP} {t : Nat → Bool} : Put σ bq t σ bq := ⟨rfl, fun _ _ => ⟨rfl, rfl⟩⟩
theorem Put.trans {σ σ' σ'' : L2.St} {bq bq' bq'' : FP} {t : Nat → Bool} (h : Put σ bq t σ' bq') (h' : Put σ' bq' t σ'' bq'') : Put σ bq t σ'' bq'' :=
  ⟨h'.len.trans h.len, fun i e => ⟨(h'.kp i e).1.trans (h.kp i e).1, (h'.kp i e).2.trans (h.kp i e).2⟩⟩
theorem Put.one {σ : L2.St} {bq bq' : FP} {t : Nat → Bool} {i : Nat} {v : V} (ht : t i = true) (h : ∀ j, j ≠ i → bq' j = bq j) : Put σ bq t (σ.set i (some v)) bq' :=
  ⟨List.length_set, fun j e => by
    have hj : j ≠ i := fun z => by rw [z, ht] at e; cases e
    exact ⟨List.getElem?_set_ne (Ne.symm hj), h j hj⟩⟩
theorem Put.mono {σ σ' : L2.St} {bq bq' : FP} {t t' : Nat → Bool} (h : Put σ bq t σ' bq') (k : ∀ i, t i = true → t' i = true) : Put σ bq t' σ' bq' :=
  ⟨h.len, fun i e => h.kp i (by cases z : t i with | false => rfl | true => rw [k i z] at e; cases e)⟩
/-- what is wanted of a target -/
def WantG (K : PySem.W.Frag) (xr : Exc → V → Hp → Prop) (t : Nat → Bool) (σ : L2.St) (F H : Hp) (fp bq : FP) (H' : Hp) (r : Res PL.S) (Q : L2.St → Hp → Prop) : Prop := match r with
  | .ok S' => ∀ σ' F' fp' bq', Good K xr F' H' S' σ' fp' bq' → Sub F F' → Fz F H F' fp → (∀ i a, a ∈ fp' i → a ∈ fp i) → Put σ bq t σ' bq' → Q σ' H'
  | _ => False
def SG (C : Ct) (tg : Tg) (ptg : Expr) : Prop := ∃ g, PG C.X ptg g ∧ ∀ σ H H' Q F S fp bq P x v, Good C.X.K C.xr F H S σ fp bq → (∀ a ∈ P, ∀ j, a ∉ fp j) → (∀ a ∈ P, H a ≠ none) → ItmY C.X.K P F H x v H' →
  WantG C.X.K C.xr (fun i => inTg i tg) σ F H fp bq H' (setTg S tg x) Q → g v σ H' Q
/-- a name that is stored -/
structure NmAt (C : Ct) (i : Nat) (x : Str) : Prop where
  at_ : C.X.N[i]? = some x
  loc : L2.Loc C.X.env.scope x
  fn : C.X.fn x = true ∨ C.X.env.scope.names.lookup x = some .local
section
variable {C : Ct} {pos : Pos}
theorem Fz.refl' {F H : Hp} {fp : FP} : Fz F H F fp := fun a h h' => absurd h h'
theorem fzOf_some {x : Sl} {a : PV} (h : fzOf x = some a) : x = .ow (.fz a) := by
  unfold fzOf at h
  split at h
  · cases h; rfl
  · cases h
theorem sg_nm (ok : CtK C) {i : Nat} {x : Str} (h : NmAt C i x) : SG C (.nm i) (.Name x pos) := by
  refine ⟨_, L2.pg_name ok.nd h.at_ h.loc h.fn, fun σ H H' Q F S fp bq P it v G hP hT y w => ?_⟩
  cases it with
  | one s =>
    obtain ⟨rfl, y⟩ := y
    obtain ⟨fp', bq', G', h1, h2⟩ := G.putI i y hP
    exact w _ F fp' bq' G' .refl Fz.refl' h2 (.one (by simp [inTg]) fun j e => (h1 j e).2)
  | two s t =>
    obtain ⟨T, y1, y2, rfl, hT', rfl, i1, i2⟩ := y
    have w : WantG C.X.K C.xr (fun k => inTg k (.nm i)) σ F H fp bq (upd H T (.tup [y1, y2])) (setP S i (fzOf s) (fzOf t)) Q := w
    cases e1 : fzOf s with
    | none => rw [e1] at w; exact w.elim
    | some a =>
      cases e2 : fzOf t with
      | none => rw [e1, e2] at w; exact w.elim
      | some b =>
        rw [e1, e2] at w
        cases fzOf_some e1
        cases fzOf_some e2
        have fT : F T = none := G.sub.nil_of hT'
        have s1 : Sub F (upd F T (.tup [y1, y2])) := Sub.new fT
        have G1 : Good C.X.K C.xr (upd F T (.tup [y1, y2])) (upd H T (.tup [y1, y2])) S σ fp bq := G.up ok.xr s1 (Sub.new hT') G.sub.both fun i a ha => by
          rw [L2.upd_ne (fun z => G.there i a (.inl ha) (by rw [z]; exact hT'))]
          exact G.fr i a ha
        obtain ⟨fp', bq', G', h1, h2⟩ := G1.putF i (x := .tup [a, b]) (v := .ref T) (.tup (.inl (.inl (L2.upd_same))) (.cons (RF.mono s1 i1) (.cons (RF.mono s1 i2) .nil)))
        refine w _ _ fp' bq' G' s1 (fun c hc hc' => ?_) h2 (.one (by simp [inTg]) fun j e => (h1 j e).2)
        by_cases e : c = T
        · rw [e]; exact .inl hT'
        · rw [L2.upd_ne e] at hc'; exact absurd hc hc'
/-- names that are stored -/
inductive NmsAt (C : Ct) : List Nat → List Expr → Prop
  | nil : NmsAt C [] []
  | cons {i : Nat} {x : Str} {p : Pos} {is : List Nat} {es : List Expr} : NmAt C i x → NmsAt C is es → NmsAt C (i :: is) (.Name x p :: es)
theorem NmsAt.each (env : Env) : ∀ {is : List Nat} {es : List Expr}, NmsAt C is es → (assignEach es env).length = is.length ∧ (assignEach es env).findIdx? (·.1) = none
  | _, _, .nil => ⟨rfl, rfl⟩
  | _, _, .cons (x := x) (p := p) (es := es) _ t => by
    obtain ⟨h1, h2⟩ := NmsAt.each env t
    have e : assignEach (.Name x p :: es) env = (false, assign (.Name x p) env) :: assignEach es env := rfl
    rw [e]
    exact ⟨by rw [List.length_cons, List.length_cons, h1], by rw [List.findIdx?_cons, h2]; rfl⟩
def gNms : List Nat → TGs
  | [] => L2.gNil
  | i :: is => L2.gCons (L2.gName i) (gNms is)
theorem NmsAt.pgs (hN : C.X.N.Nodup) : ∀ {is : List Nat} {es : List Expr}, NmsAt C is es → PGs C.X es (gNms is)
  | _, _, .nil => L2.pgs_nil
  | _, _, .cons h t => L2.pgs_cons (L2.pg_name hN h.at_ h.loc h.fn) (NmsAt.pgs hN t) rfl
theorem pg_any {X : Cx} {es : List Expr} {k : Nat} {t : TGs} {n : Nat} (hc : X.calm = true) (h : PGs X es t) (hn : (assignEach es X.env).length = n) (hst : (assignEach es X.env).findIdx? (·.1) = none) :
    PG X (.Tuple es k pos) (fun v σ H Q => L2.gTup X.K n t v σ H Q ∨ L2.gLst X.K n t v σ H Q) :=
  ⟨fun pins s σ H v u Q I r hw => hw.elim (fun hw => (L2.pg_tup hc h hn hst).run pins s σ H v u Q I r hw) fun hw => (L2.pg_lst hc h hn hst).run pins s σ H v u Q I r hw⟩
theorem sets_ok {K : PySem.W.Frag} {xr : Exc → V → Hp → Prop} {F H : Hp} {t : Nat → Bool} {Q : L2.St → Hp → Prop} : ∀ {is : List Nat} {l : List PV} {vs : List V} {S : PL.S} {σ : L2.St} {fp bq : FP}, RFs K F l vs → is.length = l.length → (∀ i ∈ is, t i = true) →
    Good K xr F H S σ fp bq → (∀ σ' fp' bq', Good K xr F H (setsF S is l) σ' fp' bq' → (∀ i a, a ∈ fp' i → a ∈ fp i) → Put σ bq t σ' bq' → Q σ' H) → gNms is vs σ H Q
  | [], _, _, S, σ, fp, bq, .nil, _, _, G, w => ⟨rfl, w σ fp bq G (fun _ _ h => h) .refl⟩
  | i :: is, _, _, S, σ, fp, bq, .cons (x := x) (xs := l) (v := v) (vs := vs) h r, e, ht, G, w => by
    obtain ⟨fp1, bq1, G1, h1, h2⟩ := G.putF i h
    refine ⟨v, vs, rfl, sets_ok (is := is) r (by simpa using e) (fun j hj => ht j (List.mem_cons_of_mem _ hj)) G1 fun σ' fp' bq' G' h3 h4 => ?_⟩
    exact w σ' fp' bq' G' (fun j a ha => h2 j a (h3 j a ha)) (.trans (.one (ht i List.mem_cons_self) fun j e => (h1 j e).2) h4)
theorem inTg_tp {is : List Nat} {i : Nat} (h : i ∈ is) : inTg i (.tp is) = true := List.contains_iff_mem.mpr h
theorem guardG {K : PySem.W.Frag} {xr : Exc → V → Hp → Prop} {t : Nat → Bool} {σ : L2.St} {F H H' : Hp} {fp bq : FP} {c : Bool} {r : Res PL.S} {Q : L2.St → Hp → Prop} (w : WantG K xr t σ F H fp bq H' (Res.guard c r) Q) : c = true ∧ WantG K xr t σ F H fp bq H' r Q := by
  cases c with
  | true => exact ⟨rfl, w⟩
  | false => exact w.elim
/-- a frozen pair, .. is taken apart -/
theorem unp_ok {σ : L2.St} {F H : Hp} {S : PL.S} {fp bq : FP} {is : List Nat} {x : PV} {v : V} {Q : L2.St → Hp → Prop} (G : Good C.X.K C.xr F H S σ fp bq) (r : RF C.X.K F x v)
    (w : WantG C.X.K C.xr (fun i => inTg i (.tp is)) σ F H fp bq H (setF S is x) Q) : L2.gTup C.X.K is.length (gNms is) v σ H Q ∨ L2.gLst C.X.K is.length (gNms is) v σ H Q := by
  cases r with
  | tup h t =>
    obtain ⟨e, w⟩ := guardG w
    rw [beq_iff_eq] at e
    exact .inl ⟨_, _, rfl, sqT_mono G.sub h, by rw [e, t.length], sets_ok t e (fun i hi => inTg_tp hi) G fun σ' fp' bq' G' h1 h2 => w σ' F fp' bq' G' .refl Fz.refl' h1 h2⟩
  | lst h t =>
    obtain ⟨e, w⟩ := guardG w
    rw [beq_iff_eq] at e
    exact .inr ⟨_, _, rfl, .inl (rd_mono G.sub h), by rw [e, t.length], sets_ok t e (fun i hi => inTg_tp hi) G fun σ' fp' bq' G' h1 h2 => w σ' F fp' bq' G' .refl Fz.refl' h1 h2⟩
  | non => exact w.elim
  | bl _ => exact w.elim
  | int _ => exact w.elim
  | str _ => exact w.elim
  | scr _ => exact w.elim
theorem pg_nms (ok : CtK C) {is : List Nat} {es : List Expr} {k : Nat} (h : NmsAt C is es) : PG C.X (.Tuple es k pos) (fun v σ H Q => L2.gTup C.X.K is.length (gNms is) v σ H Q ∨ L2.gLst C.X.K is.length (gNms is) v σ H Q) :=
  pg_any ok.calm (h.pgs ok.nd) (h.each _).1 (h.each _).2
theorem sg_tp (ok : CtK C) {is : List Nat} {es : List Expr} {k : Nat} (h : NmsAt C is es) : SG C (.tp is) (.Tuple es k pos) := by
  refine ⟨_, pg_nms ok h, fun σ H H' Q F S fp bq P it v G hP hT y w => ?_⟩
  cases it with
  | one s =>
    obtain ⟨rfl, y⟩ := y
    cases s with
    | no => exact y.elim
    | xc _ => exact y.elim
    | bw t =>
      exact w.elim
    | ow t =>
      cases t with
      | fz x => exact unp_ok G y w
      | lst _ => exact y.elim
      | obj _ _ _ => exact y.elim
  | two s t =>
    obtain ⟨T, y1, y2, rfl, hT', rfl, i1, i2⟩ := y
    have w : WantG C.X.K C.xr (fun k => inTg k (.tp is)) σ F H fp bq (upd H T (.tup [y1, y2])) (set2 S s t is) Q := w
    have key : ∃ i j, is = [i, j] := by
      match is, w with
      | [], w => exact w.elim
      | [_], w => exact w.elim
      | _ :: _ :: _ :: _, w => exact w.elim
      | [i, j], w => exact ⟨_, _, rfl⟩
    obtain ⟨i, j, rfl⟩ := key
    have w : WantG C.X.K C.xr (fun k => inTg k (.tp [i, j])) σ F H fp bq (upd H T (.tup [y1, y2])) (.ok ((S.set i s).set j t)) Q := w
    obtain ⟨fp1, bq1, G1, h1, h2⟩ := G.putI i i1 hP
    obtain ⟨fp2, bq2, G2, h3, h4⟩ := G1.putI j i2 fun a ha k hk => hP a ha k (h2 k a hk)
    refine .inl ⟨T, [y1, y2], rfl, .inl (.inl L2.upd_same), rfl, y1, [y2], rfl, y2, [], rfl, rfl, ?_⟩
    refine w _ F fp2 bq2 (G2.up ok.xr .refl (Sub.new hT') (G2.sub.outer (G.sub.nil_of hT')) G2.fr) .refl Fz.refl' (fun k a ha => h2 k a (h4 k a ha)) (.trans (.one (i := i) (inTg_tp List.mem_cons_self) fun k e => (h1 k e).2) (.one (i := j) (inTg_tp (List.mem_cons_of_mem _ List.mem_cons_self)) fun k e => (h3 k e).2))
end
end PL

namespace PL
open PySem PyProof.Rows
open L2 (V Hp HO SqL SqT upd Rd Cx PE PT PW PA PS PSs PG PGs PI PO Ends VK XK WX TE TT TA TS TO TG TGs OpR R2 CallR SlR)

/-- a statement's step -/
structure Stp (F H : Hp) (fp : FP) (F' H' : Hp) (fp' : FP) : Prop where
  f : Sub F F'
  h : ∀ a o, H a = some o → (∀ i, a ∉ fp i) → H' a = some o
  new : Fz F H F' fp
  own : ∀ i a, a ∈ fp' i → H a = none ∨ ∃ j, a ∈ fp j
theorem Stp.back {F H F' H' : Hp} {fp fp' : FP} (e : Stp F H fp F' H' fp') {a : Addr} (h : H' a = none) : H a = none ∨ ∃ j, a ∈ fp j := by
  cases z : H a with
  | none => exact .inl rfl
  | some o =>
    by_cases k : ∃ j, a ∈ fp j
    · exact .inr k
    · rw [e.h a o z fun i hi => k ⟨i, hi⟩] at h; cases h
theorem Stp.refl {F H : Hp} {fp : FP} : Stp F H fp F H fp := ⟨.refl, fun _ _ h _ => h, Fz.refl', fun i a h => .inr ⟨i, h⟩⟩
theorem Ext.stp {F H F' H' : Hp} {fp fp' : FP} (e : Ext F H F' H' fp fp') : Stp F H fp F' H' fp' := ⟨e.f, fun a o h _ => e.h a o h, e.new, fun i a h => .inr ⟨i, e.own i a h⟩⟩
theorem Stp.trans {F H F' H' F'' H'' : Hp} {fp fp' fp'' : FP} (e : Stp F H fp F' H' fp') (d : Stp F' H' fp' F'' H'' fp'') : Stp F H fp F'' H'' fp'' := by
  refine ⟨e.f.trans d.f, fun a o h k => d.h a o (e.h a o h k) fun i hi => ?_, fun a h1 h2 => ?_, fun i a ha => ?_⟩
  · rcases e.own i a hi with z | ⟨j, z⟩
    · rw [z] at h; cases h
    · exact k j z
  · cases h3 : F' a with
    | some o => exact e.new a h1 (by rw [h3]; exact fun z => nomatch z)
    | none =>
      rcases d.new a h3 h2 with q | ⟨i, q⟩
      · exact e.back q
      · exact e.own i a q
  · rcases d.own i a ha with z | ⟨j, z⟩
    · exact e.back z
    · exact e.own j a z
/-- fewer own lists -/
theorem Stp.less {F H F' H' : Hp} {fp₀ fp fp' : FP} (k : ∀ i a, a ∈ fp i → a ∈ fp₀ i) (e : Stp F H fp F' H' fp') : Stp F H fp₀ F' H' fp' :=
  ⟨e.f, fun a o h n => e.h a o h fun i hi => n i (k i a hi), fun a h1 h2 => (e.new a h1 h2).imp id fun ⟨i, z⟩ => ⟨i, k i a z⟩, fun i a ha => (e.own i a ha).imp id fun ⟨i, z⟩ => ⟨i, k i a z⟩⟩
theorem Stp.none {F H F' H' : Hp} {fp fp' : FP} (e : Stp F H fp F' H' fp') : Stp F H fp F' H' (fun _ => []) := ⟨e.f, e.h, e.new, fun _ _ h => nomatch h⟩
/-- the slots k are as they were -/
def Kp (k : Nat → Bool) (σ : L2.St) (bq : FP) (σ' : L2.St) (bq' : FP) : Prop := ∀ i, k i = true → σ'[i]? = σ[i]? ∧ bq' i = bq i
theorem Kp.refl {k : Nat → Bool} {σ : L2.St} {bq : FP} : Kp k σ bq σ bq := fun _ _ => ⟨rfl, rfl⟩
theorem Kp.trans {k : Nat → Bool} {σ σ' σ'' : L2.St} {bq bq' bq'' : FP} (h : Kp k σ bq σ' bq') (h' : Kp k σ' bq' σ'' bq'') : Kp k σ bq σ'' bq'' :=
  fun i e => ⟨(h' i e).1.trans (h i e).1, (h' i e).2.trans (h i e).2⟩
theorem Kp.mono {k k' : Nat → Bool} {σ σ' : L2.St} {bq bq' : FP} (h : Kp k σ bq σ' bq') (m : ∀ i, k' i = true → k i = true) : Kp k' σ bq σ' bq' := fun i e => h i (m i e)

/-- what is wanted behind a statement that goes on -/
def WNx (C : Ct) (k : Nat → Bool) (σ : L2.St) (F H : Hp) (fp bq : FP) (S' : S) (Q : L2.St → Hp → Prop) : Prop :=
  ∀ σ' F' H' fp' bq', Good C.X.K C.xr F' H' S' σ' fp' bq' → Stp F H fp F' H' fp' → Kp k σ bq σ' bq' → Q σ' H'
def WRt (C : Ct) (F H : Hp) (fp : FP) (s : SV) (Q : VK) : Prop :=
  ∀ F' H' v r, Sub F' H' → Stp F H fp F' H' (fun _ => []) → Rp C.X.K F' H' s v r → r.Nodup → (∀ a ∈ r, F' a = none ∧ (H a = none ∨ ∃ j, a ∈ fp j)) → Q v H'
def WXx (C : Ct) (k : Nat → Bool) (σ : L2.St) (F H : Hp) (fp bq : FP) (x : Exc) (S' : S) (W : WX) : Prop :=
  ∀ σ' F' H' bq' cls d, Good C.X.K C.xr F' H' S' σ' (fun _ => []) bq' → Stp F H fp F' H' (fun _ => []) → Kp k σ bq σ' bq' → C.xd x cls d F' → W cls d σ' H'
def WantS (C : Ct) (k : Nat → Bool) (σ : L2.St) (F H : Hp) (fp bq : FP) (o : Out) (D : Ends) : Prop := match o with
  | .no => False
  | .nx S' => WNx C k σ F H fp bq S' D.nx
  | .bk S' => WNx C k σ F H fp bq S' D.bk
  | .ct S' => WNx C k σ F H fp bq S' D.ct
  | .rt s => WRt C F H fp s D.rt
  | .ex x S' => WXx C k σ F H fp bq x S' C.W
section
variable {C : Ct} {k : Nat → Bool} {σ₀ σ : L2.St} {F₀ H₀ F H : Hp} {fp₀ bq₀ fp bq : FP} {D : Ends}
theorem WNx.after {S' : S} {Q : L2.St → Hp → Prop} (e : Stp F₀ H₀ fp₀ F H fp) (kp : Kp k σ₀ bq₀ σ bq) (w : WNx C k σ₀ F₀ H₀ fp₀ bq₀ S' Q) : WNx C k σ F H fp bq S' Q :=
  fun σ' F' H' fp' bq' G E k' => w σ' F' H' fp' bq' G (e.trans E) (kp.trans k')
/-- seen from a later state -/
theorem WantS.after {o : Out} (e : Stp F₀ H₀ fp₀ F H fp) (kp : Kp k σ₀ bq₀ σ bq) (w : WantS C k σ₀ F₀ H₀ fp₀ bq₀ o D) : WantS C k σ F H fp bq o D := by
  cases o with
  | no => exact w
  | nx S => exact WNx.after e kp w
  | bk S => exact WNx.after e kp w
  | ct S => exact WNx.after e kp w
  | rt s => exact fun F' H' v r s1 E R n h => w F' H' v r s1 (e.trans E) R n fun a ha => ⟨(h a ha).1, (h a ha).2.elim (fun z => e.back z) fun ⟨j, z⟩ => e.own j a z⟩
  | ex x S => exact fun σ' F' H' bq' cls d G E k' => w σ' F' H' bq' cls d G (e.trans E) (kp.trans k')
theorem WantS.next {S S' : PL.S} {f : PL.S → Out} (G : Good C.X.K C.xr F H S σ fp bq) (w : WantS C k σ F H fp bq (.nx S) D) : D.nx σ H := w σ F H fp bq G .refl .refl
theorem dropOwn_good {S : S} {F' H' : Hp} (ok : CtOk C) (G : Good C.X.K C.xr F H S σ fp bq) (sf : Sub F F') (sh : Sub H H') (s : Sub F' H') : Good C.X.K C.xr F' H' (S.map dropOwn) σ (fun _ => []) bq := by
  refine ⟨s, by rw [List.length_map]; exact G.len, fun i x e => ?_, fun i h => ?_, fun _ => .nil, fun _ _ _ h => (nomatch h), fun _ _ h => (nomatch h), fun _ _ _ _ h => (nomatch h)⟩
  · rw [List.getElem?_map] at e
    obtain ⟨y, h1, h2⟩ := Option.map_eq_some_iff.mp e
    have g := G.sl i y h1
    cases y with
    | no => subst h2; exact ⟨rfl, g.2⟩
    | xc _ => subst h2; obtain ⟨g0, v, g1, g2⟩ := g; exact ⟨⟨rfl, g0.2⟩, v, g1, ok.xr _ _ _ _ sf g2⟩
    | bw t => subst h2; obtain ⟨g0, v, g1, g2⟩ := g; exact ⟨rfl, v, g1, g2.up sf sh⟩
    | ow t =>
      obtain ⟨g0, v, g1, g2⟩ := g
      cases t with
      | fz x => subst h2; exact ⟨g0, v, g1, .fz (g2.fz_inv.1.mono sf)⟩
      | lst _ => subst h2; exact ⟨rfl, g0⟩
      | obj _ _ _ => subst h2; exact ⟨rfl, g0⟩
  · rw [List.length_map] at h; exact ⟨rfl, (G.out i h).2⟩
/-- THE STEP: an expression, then f; the statement began at F₀ -/
theorem WantS.out {α β : Type} {RelA : Hp → Hp → FP → α → β → Prop} {r : Res (α × PL.S)} {f : α × PL.S → Out} {S : PL.S} {Q : β → Hp → Prop} (ok : CtOk C) (G₀ : Good C.X.K C.xr F₀ H₀ S σ fp₀ bq) (E₀ : Ext F₀ H₀ F H fp₀ fp)
    (w : WantS C k σ F₀ H₀ fp₀ bq (r.out S f) D)
    (h : ∀ p F' H' fp' b, Good C.X.K C.xr F' H' p.2 σ fp' bq → Ext F H F' H' fp fp' → RelA F' H' fp' p.1 b → WantS C k σ F₀ H₀ fp₀ bq (f p) D → Q b H') :
    Want C.X.K C.xr C.xd C.W σ F H fp bq RelA r Q := by
  cases r with
  | no => exact w
  | ex x => exact fun F' H' cls d s1 s2 s3 n xd => w σ F' H' bq cls d (dropOwn_good ok G₀ (E₀.f.trans s1) (E₀.h.trans s2) s3) (E₀.stp.trans ⟨s1, fun a o z _ => s2 a o z, n, fun _ _ h => nomatch h⟩) .refl xd
  | ok p => exact fun F' H' fp' b G E R => h p F' H' fp' b G E R w
/-- .. where nothing raises -/
theorem WantS.opt {α : Type} {r : Option α} {f : α → Out} {S : PL.S} (w : WantS C k σ F H fp bq ((Res.ofOpt r).out S f) D) : ∃ a, r = some a ∧ WantS C k σ F H fp bq (f a) D := by
  cases r with
  | none => exact w.elim
  | some a => exact ⟨a, rfl, w⟩

/-- a statement -/
def SS (C : Ct) (s : Sx) (ps : Stmt) : Prop := ∃ t, PS C.X ps t ∧ ∀ k D σ H F S fp bq, (∀ i, k i = true → asg i s = false) → Good C.X.K C.xr F H S σ fp bq →
  WantS C k σ F H fp bq (exe C.fe s S) D → t D σ H
def SSs (C : Ct) (s : Ss) (ps : List Stmt) : Prop := ∃ t, PSs C.X ps t ∧ ∀ k D σ H F S fp bq, (∀ i, k i = true → asgs i s = false) → Good C.X.K C.xr F H S σ fp bq →
  WantS C k σ F H fp bq (exes C.fe s S) D → t D σ H
variable {s : Sx} {ss : Ss} {ps : Stmt} {pss : List Stmt} {pos : Pos} {e : Ex} {pe : Expr}
theorem sss_nil : SSs C .nil [] := ⟨_, L2.pss_nil, fun k D σ H F S fp bq hk G w => w σ F H fp bq G .refl .refl⟩
theorem or_false' {a b : Bool} (h : (a || b) = false) : a = false ∧ b = false := by cases a <;> cases b <;> simp_all
theorem sss_cons (h : SS C s ps) (h' : SSs C ss pss) : SSs C (.cons s ss) (ps :: pss) := by
  obtain ⟨t, hp, h⟩ := h
  obtain ⟨u, hp', h'⟩ := h'
  refine ⟨_, L2.pss_cons hp hp', fun k D σ H F S fp bq hk G w => ?_⟩
  refine h k _ σ H F S fp bq (fun i hi => (or_false' (hk i hi)).1) G ?_
  have w : WantS C k σ F H fp bq (seqOut (exe C.fe s S) (exes C.fe ss)) D := w
  cases e : exe C.fe s S with
  | nx S' =>
    rw [e] at w
    exact fun σ' F' H' fp' bq' G' E k' => h' k D σ' H' F' S' fp' bq' (fun i hi => (or_false' (hk i hi)).2) G' (WantS.after (o := exes C.fe ss S') E k' w)
  | no => rw [e] at w; exact w
  | bk _ => rw [e] at w; exact w
  | ct _ => rw [e] at w; exact w
  | rt _ => rw [e] at w; exact w
  | ex _ _ => rw [e] at w; exact w
/-- a docstring, and nothing -/
theorem ss_pass : SS C .pass (.Pass pos) := ⟨_, L2.ps_pass, fun k D σ H F S fp bq hk G w => w σ F H fp bq G .refl .refl⟩
theorem ss_brk : SS C .brk (.Break pos) := ⟨_, L2.ps_break, fun k D σ H F S fp bq hk G w => w σ F H fp bq G .refl .refl⟩
theorem ss_cnt : SS C .cnt (.Continue pos) := ⟨_, L2.ps_continue, fun k D σ H F S fp bq hk G w => w σ F H fp bq G .refl .refl⟩
theorem ss_retN : SS C .retN (.Return none pos) := ⟨_, L2.ps_retN, fun k D σ H F S fp bq hk G w => w F H .non [] G.sub Stp.refl.none (.fz .non) .nil fun _ h => nomatch h⟩
theorem ss_xpr (ok : CtK C) (he : SE C e pe) (hs : swapsWith pe none pos.line C.X.env = pure false) : SS C (.xpr e) (.Expr pe pos) := by
  obtain ⟨t, hp, h⟩ := he
  exact ⟨_, L2.ps_expr hp hs, fun k D σ H F S fp bq hk G w => h σ H _ F S fp bq G (WantS.out ok.toCtOk G .refl w fun p F' H' fp' b G' E' R' w' => w' σ F' H' fp' bq G' E'.stp .refl)⟩
theorem RelV'.ret {s : SV} {v : V} {F' H' : Hp} {fp' : FP} {path : Bool} (r : RelV' C.X.K H fp bq path F' H' fp' s v) (hp : path = false) : ∃ q, Rp C.X.K F' H' s v q ∧ q.Nodup ∧ ∀ a ∈ q, F' a = none ∧ H a = none := by
  obtain ⟨q, r, o, _⟩ := r
  obtain ⟨o, n⟩ := o hp
  exact ⟨q, r, o.1, fun a ha => ⟨(o.2 a ha).1, n a ha⟩⟩
theorem ss_ret (ok : CtK C) (he : SE C e pe) : SS C (.ret e) (.Return (some pe) pos) := by
  obtain ⟨t, hp, h⟩ := he.val
  refine ⟨_, L2.ps_ret hp, fun k D σ H F S fp bq hk G w => ?_⟩
  have w : WantS C k σ F H fp bq ((valOf e (ev C.fe e S)).out S fun p => .rt p.1) D := w
  refine h σ H _ F S fp bq G ?_
  cases hr : valOf e (ev C.fe e S) with
  | no => rw [hr] at w; exact w
  | ex x => rw [hr] at w; exact fun F' H' cls d s1 s2 s3 n xd => w σ F' H' bq cls d (dropOwn_good ok.toCtOk G s1 s2 s3) ⟨s1, fun a o z _ => s2 a o z, n, fun _ _ h => nomatch h⟩ .refl xd
  | ok p =>
    rw [hr] at w
    intro F' H' fp' v G' E' R'
    obtain ⟨q, r, n, hq⟩ := R'.ret rfl
    exact w F' H' v q G'.sub E'.stp.none r n fun a ha => ⟨(hq a ha).1, .inl (hq a ha).2⟩
theorem ss_retM {i : Nat} {x : Str} (hN : C.X.N[i]? = some x) (hv : L2.Vis C.X.env.scope x) (hd : (x == ("__debug__" : Str)) = false) (hc : (x == ("__classdict__" : Str)) = false) {p2 : Pos} : SS C (.retM i) (.Return (some (.Name x p2)) pos) := by
  refine ⟨_, L2.ps_ret (L2.pe_var hN hv hd hc), fun k D σ H F S fp bq hk G w => ?_⟩
  have w : WantS C k σ F H fp bq (match S[i]? with | some (.ow x) => .rt x | _ => .no) D := w
  cases e : S[i]? with
  | none => rw [e] at w; exact w.elim
  | some y =>
    rw [e] at w
    cases y with
    | no => exact w.elim
    | bw s => exact w.elim
    | xc s => exact w.elim
    | ow s =>
      obtain ⟨h0, v, h1, h2⟩ := G.sl i _ e
      exact ⟨v, h1, w F H v (fp i) G.sub Stp.refl.none h2 (G.nd i) fun a ha => ⟨G.fr i a ha, .inr ⟨i, ha⟩⟩⟩
theorem ss_iff (ok : CtK C) {t : Ex} {a b : Ss} {pt : Expr} {pa pb : List Stmt} (ht : SB C t pt) (ha : SSs C a pa) (hb : SSs C b pb) : SS C (.iff t a b) (.If pt pa pb pos) := by
  obtain ⟨tt, hpt, ht⟩ := ht
  obtain ⟨ta, hpa, ha⟩ := ha
  obtain ⟨tb, hpb, hb⟩ := hb
  refine ⟨_, L2.ps_if hpt hpa hpb, fun k D σ H F S fp bq hk G w => ?_⟩
  refine ht σ H _ F S fp bq G (WantS.out ok.toCtOk G .refl w fun p F' H' fp' b G' E' R' w' => ?_)
  obtain ⟨c, S'⟩ := p
  have R' : c = b := R'
  subst R'
  cases c with
  | true => exact ha k D σ H' F' S' fp' bq (fun i hi => (or_false' (hk i hi)).1) G' (WantS.after (o := exes C.fe a S') E'.stp .refl w')
  | false => exact hb k D σ H' F' S' fp' bq (fun i hi => (or_false' (hk i hi)).2) G' (WantS.after (o := exes C.fe b S') E'.stp .refl w')
/-- a slot is stored, an own value -/
theorem Good.putV {S : S} {F' H' : Hp} {fp' : FP} {s : SV} {v : V} (G : Good C.X.K C.xr F' H' S σ fp' bq) (E : Stp F H fp F' H' fp') (i : Nat) {q : List Addr} (r : Rp C.X.K F' H' s v q) (o : Own F' H' fp' bq q) (n : NewIn H q) (hk : k i = false) :
    ∃ fp'' bq'', Good C.X.K C.xr F' H' (S.set i (.ow s)) (σ.set i (some v)) fp'' bq'' ∧ Stp F H fp F' H' fp'' ∧ Kp k σ bq (σ.set i (some v)) bq'' ∧ (∀ j, j ≠ i → fp'' j = fp' j) := by
  obtain ⟨fp'', bq'', G', h1, h2⟩ := G.put i (y := .ow s) (v := v) (q := q) (b := []) ⟨rfl, v, rfl, r⟩ o.1 (fun a ha => ⟨(o.2 a ha).1, fun j _ => (o.2 a ha).2.2 j⟩) (fun _ h => nomatch h)
  refine ⟨fp'', bq'', G', ⟨E.f, E.h, E.new, fun j a ha => ?_⟩, fun j hj => ?_, fun j hj => (h1 j hj).1⟩
  · by_cases e : j = i
    · subst e
      rcases h2 with h2 | h2
      · exact .inl (n a (h2 a ha))
      · rw [h2] at ha; exact E.own j a ha
    · rw [(h1 j e).1] at ha; exact E.own j a ha
  · have e : j ≠ i := fun z => by rw [z, hk] at hj; cases hj
    exact ⟨List.getElem?_set_ne (Ne.symm e), (h1 j e).2⟩
/-- name = e -/
theorem ss_asg' (ok : CtK C) {i : Nat} {x : Str} {p2 : Pos} (ha : NmAt C i x) (he : SV' C e pe) (hs : swapsWith pe (some (.Name x p2)) pos.line C.X.env = pure false) : SS C (.asg i e) (.Assign [.Name x p2] pe pos) := by
  obtain ⟨t, hp, h⟩ := he
  refine ⟨_, L2.ps_set ok.nd ha.at_ ha.loc hp hs ha.fn, fun k D σ H F S fp bq hk G w => ?_⟩
  refine h σ H _ F S fp bq G (WantS.out ok.toCtOk G .refl w fun p F' H' fp' v G' E' R' w' => ?_)
  obtain ⟨q, r, o, _⟩ := R'
  obtain ⟨o, n⟩ := o rfl
  have hki : k i = false := by
    cases z : k i with
    | false => rfl
    | true => have := hk i z; simp [asg] at this
  obtain ⟨fp2, bq2, G2, E2, k2, _⟩ := G'.putV (k := k) E'.stp i r o n hki
  exact w' _ F' H' fp2 bq2 G2 E2 k2
end
end PL

namespace PL
open PySem PyProof.Rows
open L2 (V Hp HO SqL SqT upd Rd Cx PE PT PW PA PS PSs PG PGs PI PO Ends VK XK WX TE TT TA TS TO TG TGs OpR R2 CallR SlR)

def Dn (H : Hp) : List Int → V → V → Prop
  | [], v₀, v => v = v₀
  | n :: r, v₀, v => ∃ a vs w, v₀ = .ref a ∧ H a = some (.lst vs) ∧ L2.atI vs n = some w ∧ Dn H r w v
theorem Dn.up {H H' : Hp} (s : Sub H H') : ∀ {ns : List Int} {v₀ v : V}, Dn H ns v₀ v → Dn H' ns v₀ v
  | [], _, _, h => h
  | _ :: _, _, _, ⟨a, vs, w, h1, h2, h3, h4⟩ => ⟨a, vs, w, h1, s _ _ h2, h3, Dn.up s h4⟩
theorem Dn.det {H : Hp} : ∀ {ns : List Int} {v₀ v v' : V}, Dn H ns v₀ v → Dn H ns v₀ v' → v = v'
  | [], _, _, _, h, h' => h.trans h'.symm
  | _ :: _, _, _, _, ⟨a, vs, w, h1, h2, h3, h4⟩, ⟨a', vs', w', h1', h2', h3', h4'⟩ => by
    subst h1
    cases h1'
    rw [h2] at h2'
    cases h2'
    rw [h3] at h3'
    cases h3'
    exact Dn.det h4 h4'
theorem Dn.snoc {H : Hp} {n : Int} : ∀ {ns : List Int} {v₀ v : V}, Dn H (ns ++ [n]) v₀ v → ∃ a vs, Dn H ns v₀ (.ref a) ∧ H a = some (.lst vs) ∧ L2.atI vs n = some v
  | [], _, _, ⟨a, vs, w, h1, h2, h3, h4⟩ => ⟨a, vs, h1.symm, h2, by rw [h4]; exact h3⟩
  | _ :: _, _, _, ⟨a, vs, w, h1, h2, h3, h4⟩ => by
    obtain ⟨b, us, k1, k2, k3⟩ := Dn.snoc h4
    exact ⟨b, us, ⟨a, vs, w, h1, h2, h3, k1⟩, k2, k3⟩
section
variable {K : PySem.W.Frag} {F H : Hp}
theorem Rps.split : ∀ {l : List SV} {vs : List V} {q : List Addr} {j : Nat} {s : SV}, Rps K F H l vs q → l[j]? = some s → ∃ v q1 qj q2, vs[j]? = some v ∧ Rp K F H s v qj ∧ q = q1 ++ qj ++ q2 ∧
    ∀ F' H' s' v' qj', Sub F F' → (∀ a, a ∈ q1 ++ q2 → ∀ o, H a = some o → H' a = some o) → Rp K F' H' s' v' qj' → Rps K F' H' (l.set j s') (vs.set j v') (q1 ++ qj' ++ q2)
  | _, _, _, _, _, .nil, e => by simp at e
  | _, _, _, 0, _, .cons (q := q) (r := r) (v := v) (vs := vs) h t, e => by
    simp at e
    subst e
    refine ⟨v, [], q, r, rfl, h, by simp, fun F' H' s' v' qj' sf sh R => ?_⟩
    have := Rps.cons R (t.mono (H' := H') sf fun a ha => sh a (by simpa using ha))
    simpa using this
  | _, _, _, j + 1, _, .cons (q := q) (r := r) (v := v) (vs := vs) h t, e => by
    obtain ⟨u, q1, qj, q2, h1, h2, h3, h4⟩ := Rps.split (j := j) t (by simpa using e)
    refine ⟨u, q ++ q1, qj, q2, by simpa using h1, h2, by rw [h3]; simp, fun F' H' s' v' qj' sf sh R => ?_⟩
    have := Rps.cons (h.mono (H' := H') sf fun a ha => sh a (by simp [ha])) (h4 F' H' s' v' qj' sf (fun a ha => sh a (by rcases List.mem_append.mp ha with z | z <;> simp [z])) R)
    simpa using this
theorem Rp.dn : ∀ {ns : List Int} {x y : SV} {v₀ : V} {q : List Addr}, Rp K F H x v₀ q → getAt ns x = some y → ∃ w r, Dn H ns v₀ w ∧ Rp K F H y w r ∧ ∀ a ∈ r, a ∈ q
  | [], _, _, _, _, h, e => by cases e; exact ⟨_, _, rfl, h, fun _ h => h⟩
  | n :: r, .fz _, _, _, _, h, e => by cases e
  | n :: r, .obj _ _ _, _, _, _, h, e => by cases e
  | n :: r, .lst l, y, _, _, .lst h t, e => by
    unfold getAt at e
    cases hj : ixP l.length n with
    | none => simp only [hj] at e; cases e
    | some j =>
      simp only [hj] at e
      cases hy : l[j]? with
      | none => simp only [hy] at e; cases e
      | some z =>
        simp only [hy] at e
        obtain ⟨w, r', h3, h4, h5⟩ := t.get hy
        obtain ⟨u, r2, k1, k2, k3⟩ := Rp.dn h4 e
        rw [t.length] at hj
        exact ⟨u, r2, ⟨_, _, w, rfl, h, by unfold L2.atI; rw [show L2.ixN _ n = some j from hj]; exact h3, k1⟩, k2, fun a ha => List.mem_cons_of_mem _ (h5 a (k3 a ha))⟩
/-- an own list is changed in its place -/
theorem Rp.upd {g : SV → Option SV} : ∀ {ns : List Int} {x y : SV} {v₀ : V} {q : List Addr}, Rp K F H x v₀ q → updAt g ns x = some y → ∃ z z' v p qz r, Dn H ns v₀ v ∧ Rp K F H z v qz ∧ g z = some z' ∧ q = p ++ qz ++ r ∧
    ∀ F' H' qz', Sub F F' → (∀ a, a ∈ p ++ r → ∀ o, H a = some o → H' a = some o) → Rp K F' H' z' v qz' → Rp K F' H' y v₀ (p ++ qz' ++ r)
  | [], x, y, v₀, q, h, e => ⟨x, y, v₀, [], q, [], rfl, h, e, by simp, fun F' H' qz' _ _ R => by simpa using R⟩
  | n :: r, .fz _, _, _, _, h, e => by cases e
  | n :: r, .obj _ _ _, _, _, _, h, e => by cases e
  | n :: r, .lst l, y, _, _, .lst (a := a) (vs := vs) h t, e => by
    unfold updAt at e
    cases hj : ixP l.length n with
    | none => simp only [hj] at e; cases e
    | some j =>
      simp only [hj] at e
      cases hy : l[j]? with
      | none => simp only [hy] at e; cases e
      | some z =>
        simp only [hy] at e
        obtain ⟨z1, h1, h2⟩ := Option.map_eq_some_iff.mp e
        subst h2
        obtain ⟨w, q1, qj, q2, h3, h4, h5, h6⟩ := t.split hy
        obtain ⟨z, z', v, p, qz, r', k1, k2, k3, k4, k5⟩ := Rp.upd h4 h1
        rw [t.length] at hj
        refine ⟨z, z', v, a :: (q1 ++ p), qz, r' ++ q2, ⟨_, _, w, rfl, h, by unfold L2.atI; rw [show L2.ixN _ n = some j from hj]; exact h3, k1⟩, k2, k3, by rw [h5, k4]; simp, fun F' H' qz' sf sh R => ?_⟩
        have R1 := k5 F' H' qz' sf (fun b hb => sh b (by rcases List.mem_append.mp hb with z | z <;> simp [z])) R
        have R2 := h6 F' H' z1 w (p ++ qz' ++ r') sf (fun b hb => sh b (by rcases List.mem_append.mp hb with z | z <;> simp [z])) R1
        have e2 : vs.set j w = vs := by
          obtain ⟨hl, e3⟩ := List.getElem?_eq_some_iff.mp h3
          rw [← e3]; exact List.set_getElem_self hl
        rw [e2] at R2
        have := Rp.lst (sh a (by simp) _ h) R2
        simpa using this
end
/-- what a change does to a list, as a list -/
def LstG (g : SV → Option SV) : Prop := ∀ z z', g z = some z' → ∃ l l', z = .lst l ∧ z' = .lst l'
theorem updS_ok {K : PySem.W.Frag} {xr : Exc → V → Hp → Prop} {F H : Hp} {S S' : PL.S} {σ : L2.St} {fp bq : FP} {i : Nat} {ns : List Int} {g : SV → Option SV} {v₀ v : V} (hx : ∀ x v F F', Sub F F' → xr x v F → xr x v F') (G : Good K xr F H S σ fp bq) (hg : LstG g) (h : updS S i ns g = .ok S') (hv : σ[i]? = some (some v₀)) (d : Dn H ns v₀ v) :
    ∃ a vs l l' q, v = .ref a ∧ H a = some (.lst vs) ∧ Rps K F H l vs q ∧ g (.lst l) = some (.lst l') ∧ a ∈ fp i ∧ q.Nodup ∧ (∀ b ∈ q, b ∈ fp i) ∧
    ∀ vs' q' qu, Rps K F H l' vs' q' → q'.Nodup → (∀ b ∈ q', b ∈ q ∨ b ∈ qu) → Own F H fp bq qu →
      ∃ fp', Good K xr F (L2.upd H a (.lst vs')) S' σ fp' bq ∧ (∀ j, j ≠ i → fp' j = fp j) ∧ ∀ b, b ∈ fp' i → b ∈ fp i ∨ b ∈ qu := by
  unfold updS at h
  cases hs : S[i]? with
  | none => simp only [hs] at h; cases h
  | some y =>
    cases y with
    | no => simp only [hs] at h; cases h
    | bw _ => simp only [hs] at h; cases h
    | xc _ => simp only [hs] at h; cases h
    | ow x =>
      simp only [hs] at h
      cases hu : updAt g ns x with
      | none => simp only [hu] at h; cases h
      | some y =>
        simp only [hu] at h
        cases h
        obtain ⟨g0, w, g1, g2⟩ := G.sl i _ hs
        rw [hv] at g1
        cases g1
        obtain ⟨z, z', v', p, qz, r, k1, k2, k3, k4, k5⟩ := g2.upd hu
        cases Dn.det d k1
        obtain ⟨l, l', rfl, rfl⟩ := hg _ _ k3
        have nd := G.nd i
        rw [k4] at nd
        cases k2 with
        | @lst a _ vs q ha t =>
        refine ⟨a, vs, l, l', q, rfl, ha, t, k3, by rw [k4]; simp, (List.nodup_cons.mp (List.nodup_append.mp (List.nodup_append.mp nd).1).2.1).2, fun b hb => by rw [k4]; simp [hb], fun vs' q' qu R n' hq o => ?_⟩
        have hp : ∀ b, b ∈ p ++ r → b ≠ a ∧ b ∉ q := fun b hb => by
          have nd2 := List.nodup_append.mp nd
          have nd3 := List.nodup_append.mp nd2.1
          rcases List.mem_append.mp hb with z | z
          · exact ⟨fun e => nd3.2.2 b z b (by rw [e]; simp) rfl, fun e => nd3.2.2 b z b (by simp [e]) rfl⟩
          · exact ⟨fun e => nd2.2.2 b (by rw [e]; simp) b z rfl, fun e => nd2.2.2 b (by simp [e]) b z rfl⟩
        have ndz : (a :: q).Nodup := (List.nodup_append.mp (List.nodup_append.mp nd).1).2.1
        have haf : a ∈ fp i := by rw [k4]; simp
        have aq : a ∉ q' := fun ha' => by
          rcases hq a ha' with z | z
          · exact (List.nodup_cons.mp ndz).1 z
          · exact ((o.2 a z).2.2 i).1 haf
        have inq : ∀ b, b ∈ p ++ (a :: q') ++ r → b ∈ fp i ∨ b ∈ qu := fun b hb => by
          rw [k4]
          rcases List.mem_append.mp hb with z | z
          · rcases List.mem_append.mp z with z | z
            · simp [z]
            · rcases List.mem_cons.mp z with z | z
              · simp [z]
              · rcases hq b z with z | z
                · simp [z]
                · exact .inr z
          · simp [z]
        have Rz : Rp K F (L2.upd H a (.lst vs')) (.lst l') (.ref a) (a :: q') := .lst L2.upd_same (R.mono .refl fun b hb o e => by
          rw [L2.upd_ne (fun z => aq (by rw [← z]; exact hb))]; exact e)
        have Ry := k5 F (L2.upd H a (.lst vs')) (a :: q') .refl (fun b hb o e => by rw [L2.upd_ne (hp b hb).1]; exact e) Rz
        have fa : F a = none := G.fr i a haf
        have nd' : (p ++ (a :: q') ++ r).Nodup := by
          have nd2 := List.nodup_append.mp nd
          have nd3 := List.nodup_append.mp nd2.1
          have out : ∀ b, b ∈ a :: q' → b ∉ p ++ r := fun b hb hb' => by
            rcases List.mem_cons.mp hb with z | z
            · exact (hp b hb').1 z
            · rcases hq b z with z | z
              · exact (hp b hb').2 z
              · refine ((o.2 b z).2.2 i).1 ?_
                rw [k4]
                rcases List.mem_append.mp hb' with y | y <;> simp [y]
          refine List.nodup_append.mpr ⟨List.nodup_append.mpr ⟨nd3.1, List.nodup_cons.mpr ⟨aq, n'⟩, fun b hb c hc e => ?_⟩, nd2.2.1, fun b hb c hc e => ?_⟩
          · subst e; exact out b hc (by simp [hb])
          · subst e
            rcases List.mem_append.mp hb with y | y
            · exact nd2.2.2 b (by simp [y]) b hc rfl
            · exact out b y (by simp [hc])
        have G1 : Good K xr F (L2.upd H a (.lst vs')) S σ fp bq → True := fun _ => trivial
        have keep : ∀ j, j ≠ i → ∀ b, (b ∈ fp j ∨ b ∈ bq j) → ∀ u, H b = some u → L2.upd H a (.lst vs') b = some u := fun j hj b hb u e => by
          rw [L2.upd_ne (fun z => ?_)]; exact e
          subst z
          rcases hb with hb | hb
          · exact hj (G.dj j i b hb haf)
          · exact G.db j i b hb haf
        have hi : i < S.length := by
          obtain ⟨h, _⟩ := List.getElem?_eq_some_iff.mp hs; exact h
        refine ⟨fun j => if j = i then p ++ (a :: q') ++ r else fp j, ⟨G.sub.outer fa, by rw [List.length_set]; exact G.len, fun j x' e => ?_, fun j hj => ?_, fun j => ?_, fun j m b h1 h2 => ?_, fun j b h1 => ?_, fun j m b h1 h2 => ?_⟩, fun j hj => if_neg hj, fun b hb => inq b (by simpa using hb)⟩
        · by_cases hj : j = i
          · subst hj
            rw [List.getElem?_set_self hi] at e
            cases e
            simp only [if_true]
            exact ⟨g0, v₀, hv, Ry⟩
          · rw [List.getElem?_set_ne (Ne.symm hj)] at e
            simp only [if_neg hj]
            exact (G.sl j x' e).up hx .refl (keep j hj)
        · rw [List.length_set] at hj
          have : j ≠ i := by omega
          simp only [if_neg this]
          exact G.out j hj
        · by_cases hj : j = i
          · simp only [if_pos hj]; exact nd'
          · simp only [if_neg hj]; exact G.nd j
        · by_cases hj : j = i <;> by_cases hm : m = i
          · rw [hj, hm]
          · simp only [if_pos hj, if_neg hm] at h1 h2
            rcases inq b h1 with z | z
            · exact absurd (G.dj m i b h2 z) hm
            · exact absurd h2 ((o.2 b z).2.2 m).1
          · simp only [if_neg hj, if_pos hm] at h1 h2
            rcases inq b h2 with z | z
            · exact absurd (G.dj j i b h1 z) hj
            · exact absurd h1 ((o.2 b z).2.2 j).1
          · simp only [if_neg hj, if_neg hm] at h1 h2
            exact G.dj j m b h1 h2
        · by_cases hj : j = i
          · simp only [if_pos hj] at h1
            rcases inq b h1 with z | z
            · exact G.fr i b z
            · exact (o.2 b z).1
          · simp only [if_neg hj] at h1; exact G.fr j b h1
        · by_cases hm : m = i
          · simp only [if_pos hm] at h2
            rcases inq b h2 with z | z
            · exact G.db j i b h1 z
            · exact ((o.2 b z).2.2 j).2 h1
          · simp only [if_neg hm] at h2; exact G.db j m b h1 h2
end PL

namespace PL
open PySem PyProof.Rows
open L2 (V Hp HO SqL SqT upd Rd Cx PE PT PW PA PS PSs PG PGs PI PO Ends VK XK WX TE TT TA TS TO TG TGs OpR R2 CallR SlR)
/-- a place -/
def RelP (σ : L2.St) (F H : Hp) (fp : FP) (x : Nat × List Int) (v : V) : Prop := ∃ v₀ a vs, σ[x.1]? = some (some v₀) ∧ Dn H x.2 v₀ v ∧ v = .ref a ∧ H a = some (.lst vs)
def SPl (C : Ct) (p : Pl) (pe : Expr) : Prop := ∃ t, PE C.X pe t ∧ ∀ σ H Q F S fp bq, Good C.X.K C.xr F H S σ fp bq →
  Want C.X.K C.xr C.xd C.W σ F H fp bq (RelP σ) (evP C.fe p S) Q → t σ H Q
section
variable {C : Ct} {k : Nat → Bool} {σ₀ σ : L2.St} {F₀ H₀ F H : Hp} {fp₀ bq₀ fp bq : FP} {D : Ends} {pos : Pos} {e i : Ex} {p : Pl} {pe pi pp : Expr}
theorem Want.opt {α β γ : Type} {Rel : Hp → Hp → FP → α → β → Prop} {o : Option γ} {f : γ → Res (α × PL.S)} {Q : β → Hp → Prop} {K : PySem.W.Frag} {xr : Exc → V → Hp → Prop} {xd : Exc → Value → Option Addr → Hp → Prop} {W : WX} (w : Want K xr xd W σ F H fp bq Rel ((Res.ofOpt o).bind f) Q) : ∃ a, o = some a ∧ Want K xr xd W σ F H fp bq Rel (f a) Q := by
  cases o with
  | none => exact w.elim
  | some a => exact ⟨a, rfl, w⟩
theorem getO_dn {K : PySem.W.Frag} {xr : Exc → V → Hp → Prop} {S : PL.S} (G : Good K xr F H S σ fp bq) {j : Nat} {ns : List Int} {y : SV} (e : getO S[j]? ns = some y) : ∃ v₀ w r, σ[j]? = some (some v₀) ∧ Dn H ns v₀ w ∧ Rp K F H y w r ∧ ∀ a ∈ r, a ∈ fp j := by
  cases hs : S[j]? with
  | none => rw [hs] at e; cases e
  | some z =>
    rw [hs] at e
    cases z with
    | no => cases e
    | bw _ => cases e
    | xc _ => cases e
    | ow x =>
      have e : getAt ns x = some y := e
      obtain ⟨_, v, g1, g2⟩ := G.sl j _ hs
      obtain ⟨w, r, h1, h2, h3⟩ := g2.dn e
      exact ⟨v, w, r, g1, h1, h2, h3⟩
theorem getL_dn {K : PySem.W.Frag} {xr : Exc → V → Hp → Prop} {S : PL.S} (G : Good K xr F H S σ fp bq) {j : Nat} {ns : List Int} {l : List SV} (e : getL S[j]? ns = some l) : ∃ v₀ a vs, σ[j]? = some (some v₀) ∧ Dn H ns v₀ (.ref a) ∧ H a = some (.lst vs) := by
  obtain ⟨y, h1, h2⟩ := Option.bind_eq_some_iff.mp e
  obtain ⟨v₀, w, r, k1, k2, k3, _⟩ := getO_dn G h1
  cases y with
  | fz _ => cases h2
  | obj _ _ _ => cases h2
  | lst l => cases k3 with | lst ha t => exact ⟨v₀, _, _, k1, k2, ha⟩
theorem spl_v {j : Nat} {x : Str} (hN : C.X.N[j]? = some x) (hv : L2.Vis C.X.env.scope x) (hd : (x == ("__debug__" : Str)) = false) (hc : (x == ("__classdict__" : Str)) = false) : SPl C (.v j) (.Name x pos) := by
  refine ⟨_, L2.pe_var hN hv hd hc, fun σ H Q F S fp bq G w => ?_⟩
  obtain ⟨y, e, w⟩ := Want.opt (f := fun _ => .ok ((j, []), S)) w
  obtain ⟨v₀, a, vs, h1, h2, h3⟩ := getL_dn G e
  have h2 : V.ref a = v₀ := h2
  subst h2
  exact ⟨_, h1, w F H fp _ G .refl ⟨_, a, vs, h1, rfl, rfl, h3⟩⟩
theorem spl_idx (ok : CtK C) (hp : SPl C p pp) (hi : SE C i pi) (hs : ∀ l u s q, pi ≠ .Slice l u s q) : SPl C (.idx p i) (.Subscript pp pi pos) := by
  obtain ⟨tp, hpp, hp⟩ := hp
  obtain ⟨ti, hpi, hi⟩ := hi
  refine ⟨_, L2.pe_ix L2.ix_seq hpp hpi (plainIx hs), fun σ H Q F S fp bq G w => ?_⟩
  refine hp σ H _ F S fp bq G (Want.bind w fun x F1 H1 fp1 v G1 E1 R1 w1 => ?_)
  refine hi σ H1 _ F1 x.2 fp1 bq G1 (Want.bind (w1.shift (Rel' := RelP σ) E1 fun _ _ _ _ _ r => r) fun y F2 H2 fp2 u G2 E2 R2 w2 => ?_)
  obtain ⟨n, e1, w3⟩ := Want.opt w2
  obtain ⟨z, e2, w4⟩ := Want.opt w3
  obtain ⟨v₀, a', vs', h1, h2, h3⟩ := getL_dn G2 e2
  obtain ⟨a, vs, d1, d2, d3⟩ := h2.snoc
  obtain ⟨v1, _, _, h5, h6, _, _⟩ := R1
  rw [h1] at h5
  cases h5
  have hv := Dn.det (h6.up E2.h) d1
  subst hv
  have hu := R2.vw.asInt G2.sub (asInt_of e1)
  subst hu
  exact .inl ⟨a, vs, n, .ref a', rfl, rfl, .inl (.inl d2), d3, w4 F2 H2 fp2 _ G2 E2 ⟨v₀, a', vs', h1, h2, rfl, h3⟩⟩
/-- an own list has been changed -/
theorem WNx.upd {S' : S} {Q : L2.St → Hp → Prop} {fp' : FP} {j : Nat} {a : Addr} {o : HO} {qu : List Addr} (w : WNx C k σ F₀ H₀ fp₀ bq S' Q) (E : Ext F₀ H₀ F H fp₀ fp) (ha : a ∈ fp j) (G' : Good C.X.K C.xr F (L2.upd H a o) S' σ fp' bq) (h1 : ∀ m, m ≠ j → fp' m = fp m)
    (h2 : ∀ b, b ∈ fp' j → b ∈ fp j ∨ b ∈ qu) (n : NewIn H₀ qu) : Q σ (L2.upd H a o) := by
  refine w σ F _ fp' bq G' ⟨E.f, fun b u hb hn => ?_, E.new, fun m b hb => ?_⟩ .refl
  · rw [L2.upd_ne (fun z => hn j (E.own j b (by rw [z]; exact ha)))]
    exact E.h b u hb
  · by_cases hm : m = j
    · subst hm
      rcases h2 b hb with z | z
      · exact .inr ⟨m, E.own m b z⟩
      · exact .inl (n b z)
    · rw [h1 m hm] at hb; exact .inr ⟨m, E.own m b hb⟩
theorem lst_set {n : Int} {x : SV} : LstG (gSet n x) := fun z z' h => by
  unfold gSet at h
  split at h
  · split at h
    · cases h; exact ⟨_, _, rfl, rfl⟩
    · cases h
  · cases h
theorem lst_app {x : SV} : LstG (gApp x) := fun z z' h => by
  unfold gApp at h
  split at h
  · split at h
    · cases h; exact ⟨_, _, rfl, rfl⟩
    · cases h
  · cases h
theorem lst_ext {x : List SV} : LstG (gExt x) := fun z z' h => by
  unfold gExt at h
  split at h
  · split at h
    · cases h; exact ⟨_, _, rfl, rfl⟩
    · cases h
  · cases h
theorem lst_pop : LstG gPop := fun z z' h => by
  unfold gPop at h
  split at h
  · split at h
    · cases h
    · cases h; exact ⟨_, _, rfl, rfl⟩
  · cases h
theorem WantS.upd {S : PL.S} {r : Res PL.S} {f : PL.S → Out} (w : WantS C k σ F H fp bq (r.out S f) D) (hr : ∀ x, r ≠ .ex x) : ∃ S2, r = .ok S2 ∧ WantS C k σ F H fp bq (f S2) D := by
  cases r with
  | no => exact w.elim
  | ok S2 => exact ⟨S2, rfl, w⟩
  | ex x => exact absurd rfl (hr x)
theorem updS_noex {S : PL.S} {j : Nat} {ns : List Int} {g : SV → Option SV} : ∀ x, updS S j ns g ≠ .ex x := fun x h => by
  unfold updS at h
  split at h
  · split at h <;> cases h
  · cases h
theorem swaps_sub {o i : Expr} {q : Pos} {l : Nat} {env : Env} : swapsWith pe (some (.Subscript o i q)) l env = pure false := by
  unfold swapsWith
  cases pe <;> rfl
theorem sole_sub {o i : Expr} {q : Pos} {l : Nat} {env : Env} : swapsWithSole [.Subscript o i q] pe l env = pure false := by
  unfold swapsWithSole
  exact swaps_sub
theorem stores_sub {o i : Expr} {q : Pos} {env : Env} : swappedStores [.Subscript o i q] pe env = pure none := by
  unfold swappedStores
  cases pe <;> rfl
theorem ixP_lt {n : Nat} {i : Int} {j : Nat} (h : ixP n i = some j) : j < n := by
  unfold ixP at h
  split at h
  · split at h
    · cases h; omega
    · cases h
  · split at h
    · cases h; omega
    · cases h
theorem sub_assign {o i : Expr} {q : Pos} {X : Cx} (h : ∀ l u s r, i ≠ .Slice l u s r) : ∀ v, assign (.Subscript o i q) X.env v = (do
      let ov ← holding [v] (eval o X.env)
      let iv ← holding [v, ov] (eval i X.env)
      standAt q
      holding [v, ov, iv] (setItem ov iv v)
      release [v, ov, iv] []) := by
  intro v
  cases i <;> first | rfl | exact absurd rfl (h _ _ _ _)
/-- p[i] = e -/
theorem ss_setI (ok : CtK C) {q : Pos} (he : SE C e pe) (hp : SPl C p pp) (hi : SE C i pi) (hs : ∀ l u s q, pi ≠ .Slice l u s q) : SS C (.setI p i e) (.Assign [.Subscript pp pi q] pe pos) := by
  obtain ⟨te, hpe, he⟩ := he.elem ok
  obtain ⟨tp, hpp, hp⟩ := hp
  obtain ⟨ti, hpi, hi⟩ := hi
  refine ⟨_, L2.ps_asg hpe (L2.pg_sub hpp hpi L2.set_list (sub_assign hs)) sole_sub stores_sub rfl, fun k D σ H F S fp bq hk G w => ?_⟩
  refine he σ H _ F S fp bq G (WantS.out ok.toCtOk G .refl w fun x F1 H1 fp1 v G1 E1 R1 w1 => ?_)
  refine hp σ H1 _ F1 x.2 fp1 bq G1 (WantS.out ok.toCtOk G E1 w1 fun y F2 H2 fp2 u G2 E2 R2 w2 => ?_)
  refine hi σ H2 _ F2 y.2 fp2 bq G2 (WantS.out ok.toCtOk G (E1.trans E2) w2 fun z F3 H3 fp3 t G3 E3 R3 w3 => ?_)
  obtain ⟨n, e1, w4⟩ := WantS.opt w3
  obtain ⟨S', e2, w5⟩ := WantS.upd w4 updS_noex
  have ht := R3.vw.asInt G3.sub (asInt_of e1)
  subst ht
  obtain ⟨v₀, _, _, h1, h2, _, _⟩ := R2
  obtain ⟨a, vs, l, l', q', rfl, hH, R, hg, ha, nd, hq, fin⟩ := updS_ok ok.xr G3 lst_set e2 h1 (h2.up E3.h)
  obtain ⟨qx, rx, o, _⟩ := R1
  obtain ⟨o, nw⟩ := o rfl
  have E23 := E2.trans E3
  have rx := rx.up E23.f E23.h
  have o := o.keep E23
  unfold gSet at hg
  cases hj : ixP l.length n with
  | none => simp only [hj] at hg; cases hg
  | some j =>
    simp only [hj] at hg
    cases hg
    have hlt := ixP_lt hj
    obtain ⟨v', q1, qj, q2, s1, s2, s3, s4⟩ := R.split (List.getElem?_eq_getElem hlt)
    have R' := s4 F3 H3 x.1 v qx .refl (fun _ _ _ h => h) rx
    rw [s3] at nd
    have nd2 := List.nodup_append.mp nd
    have nd3 := List.nodup_append.mp nd2.1
    have dis : ∀ b, b ∈ q' → b ∉ qx := fun b hb hb' => ((o.2 b hb').2.2 y.1.1).1 (hq b hb)
    obtain ⟨fp', G', k1, k2⟩ := fin _ (q1 ++ qx ++ q2) qx R' (List.nodup_append.mpr ⟨List.nodup_append.mpr ⟨nd3.1, o.1, fun b hb c hc e => dis b (by rw [s3]; simp [hb]) (by rw [e]; exact hc)⟩, nd2.2.1, fun b hb c hc e => by
      subst e
      rcases List.mem_append.mp hb with z | z
      · exact nd2.2.2 b (by simp [z]) b hc rfl
      · exact dis b (by rw [s3]; simp [hc]) z⟩) (fun b hb => by
        rw [s3]
        rcases List.mem_append.mp hb with z | z
        · rcases List.mem_append.mp z with z | z
          · simp [z]
          · exact .inr z
        · simp [z]) o
    rw [R.length] at hj
    exact ⟨a, vs, n, j, rfl, rfl, hH, hj, WNx.upd w5 (E1.trans E23) ha G' k1 k2 nw⟩
theorem Own.dis {q q' : List Addr} {j : Nat} (o : Own F H fp bq q) (h : ∀ b ∈ q', b ∈ fp j) : ∀ b ∈ q', b ∉ q := fun b hb hb' => ((o.2 b hb').2.2 j).1 (h b hb)
theorem base_rfl {n : Str} {env : Env} (h : notStar pp = true) (h2 : ∀ a b c d, pp ≠ .Call a b c d) : attributeBase pp n env (eval pp env) = eval pp env := by
  cases pp <;> first | rfl | exact absurd rfl (h2 _ _ _ _)
theorem few_one {env : Env} {cpos : Pos} (h : notStar pe = true) : ((backTo cpos (starEach [pe] env)).all (fun x => !x.1) && (backToKw cpos (keywordEach [] env)).all (fun x => x.1.isSome)
      && decide (([pe] : List Expr).length + ([] : List Keyword).length + (if ([] : List Keyword).isEmpty then 0 else 1) < 30)) = true := by
  rw [star_ns h]; rfl
theorem Rps.last {K : PySem.W.Frag} : ∀ {l : List SV} {vs : List V} {q : List Addr}, Rps K F H l vs q → l ≠ [] → ∃ s v qa qb, l.getLast? = some s ∧ vs[vs.length - 1]? = some v ∧ Rps K F H l.dropLast vs.dropLast qa ∧ Rp K F H s v qb ∧ q = qa ++ qb
  | _, _, _, .nil, h => absurd rfl h
  | _, _, _, .cons (x := x) (v := v) (q := q) h .nil, _ => ⟨x, v, [], q, rfl, rfl, .nil, h, by simp⟩
  | _, _, _, .cons (xs := y :: ys) (vs := w :: ws) (v := v) (q := q) (r := r) h t, _ => by
    obtain ⟨s, u, qa, qb, e1, e2, R1, R2, e3⟩ := Rps.last t (fun z => nomatch z)
    refine ⟨s, u, q ++ qa, qb, by rw [List.getLast?_cons_cons]; exact e1, ?_, .cons h R1, R2, by rw [e3]; simp⟩
    simpa using e2
theorem pop_ok {K : PySem.W.Frag} {l l' : List SV} {vs : List V} {q : List Addr} (R : Rps K F H l vs q) (h : gPop (.lst l) = some (.lst l')) : l' = l.dropLast ∧ ∃ z qa qb s, l.getLast? = some s ∧ vs[vs.length - 1]? = some z ∧ Rps K F H l.dropLast vs.dropLast qa ∧ Rp K F H s z qb ∧ q = qa ++ qb := by
  unfold gPop at h
  simp only at h
  split at h
  · cases h
  · rename_i hne
    cases h
    obtain ⟨s, v, qa, qb, e1, e2, R1, R2, e3⟩ := R.last (by intro z; rw [z] at hne; exact hne rfl)
    exact ⟨rfl, v, qa, qb, s, e1, e2, R1, R2, e3⟩
/-- p.append(e) -/
theorem ss_app (ok : CtK C) {q c : Pos} (hp : SPl C p pp) (hn : ∀ a b c d, pp ≠ .Call a b c d) (hns : notStar pp = true) (he : SE C e pe) (hs : notStar pe = true) (hl : (q.endLine == c.line) = true) : SS C (.app p e) (.Expr (.Call (.Attribute pp "append" q) [pe] [] c) pos) := by
  obtain ⟨te, hpe, he⟩ := he.elem ok
  obtain ⟨tp, hpp, hp⟩ := hp
  refine ⟨_, L2.ps_expr (L2.pe_bm F.plainAttrs_list F.slot_list_append rfl L2.mt_append hpp (L2.pa_cons hpe L2.pa_nil (star_ns hs)) (base_rfl hns hn) (few_one hs) hl (star_ns hs) rfl) rfl, fun k D σ H F S fp bq hk G w => ?_⟩
  refine hp σ H _ F S fp bq G (WantS.out ok.toCtOk G .refl w fun y F1 H1 fp1 v G1 E1 R1 w1 => ?_)
  obtain ⟨v₀, a, vs, h1, h2, rfl, h3⟩ := R1
  refine ⟨.inl ⟨rfl, vs, .inl (.inl h3)⟩, he σ H1 _ F1 y.2 fp1 bq G1 (WantS.out ok.toCtOk G E1 w1 fun x F2 H2 fp2 u G2 E2 R2 w2 => ?_)⟩
  obtain ⟨S', e2, w3⟩ := WantS.upd w2 updS_noex
  obtain ⟨a', vs', l, l', q', hv, hH, R, hg, ha, nd, hq, fin⟩ := updS_ok ok.xr G2 lst_app e2 h1 (h2.up E2.h)
  cases hv
  obtain ⟨qx, rx, o, _⟩ := R2
  obtain ⟨o, nw⟩ := o rfl
  unfold gApp at hg
  simp only at hg
  split at hg
  · rename_i hlt
    cases hg
    have dis := o.dis hq
    obtain ⟨fp', G', k1, k2⟩ := fin (vs' ++ [u]) (q' ++ qx) qx (R.append (by have := Rps.cons rx .nil; simpa using this)) (List.nodup_append.mpr ⟨nd, o.1, fun b hb c hc e => dis b hb (by rw [e]; exact hc)⟩) (fun b hb => List.mem_append.mp hb) o
    rw [R.length, szLine_eq] at hlt
    exact ⟨a, vs', u, rfl, rfl, hH, hlt, WNx.upd w3 (E1.trans E2) ha G' k1 k2 (nw.back E1.h)⟩
  · cases hg
/-- p.pop() -/
theorem ss_pop (ok : CtK C) {q c : Pos} (hp : SPl C p pp) (hn : ∀ a b c d, pp ≠ .Call a b c d) (hns : notStar pp = true) (hl : (q.endLine == c.line) = true) : SS C (.pop p) (.Expr (.Call (.Attribute pp "pop" q) [] [] c) pos) := by
  obtain ⟨tp, hpp, hp⟩ := hp
  refine ⟨_, L2.ps_expr (L2.pe_bm0 F.plainAttrs_list F.slot_list_pop rfl L2.mt_pop hpp (base_rfl hns hn) hl) rfl, fun k D σ H F S fp bq hk G w => ?_⟩
  refine hp σ H _ F S fp bq G (WantS.out ok.toCtOk G .refl w fun y F1 H1 fp1 v G1 E1 R1 w1 => ?_)
  obtain ⟨v₀, a, vs, h1, h2, rfl, h3⟩ := R1
  refine ⟨.inl ⟨rfl, vs, .inl (.inl h3)⟩, ?_⟩
  obtain ⟨S', e2, w3⟩ := WantS.upd w1 updS_noex
  obtain ⟨a', vs', l, l', q', hv, hH, R, hg, ha, nd, hq, fin⟩ := updS_ok ok.xr G1 lst_pop e2 h1 h2
  cases hv
  obtain ⟨rfl, z, qa, qb, s, _, hz, R1, R2, rfl⟩ := pop_ok R hg
  obtain ⟨fp', G', k1, k2⟩ := fin vs'.dropLast qa [] R1 (List.nodup_append.mp nd).1 (fun b hb => .inl (List.mem_append_left _ hb)) .nil
  exact ⟨a, vs', z, rfl, rfl, hH, hz, WNx.upd w3 E1 ha G' k1 k2 .nil⟩
end
end PL

namespace PL
open PySem PyProof.Rows
open L2 (V Hp HO SqL SqT upd Rd Cx PE PT PW PA PS PSs PG PGs PI PO Ends VK XK WX TE TT TA TS TO TG TGs OpR R2 CallR SlR)
section
variable {C : Ct} {k : Nat → Bool} {σ₀ σ : L2.St} {F₀ H₀ F H : Hp} {fp₀ bq₀ fp bq : FP} {D : Ends} {pos : Pos} {e i : Ex} {pe pi pp : Expr}
theorem sole_tup {es : List Expr} {n : Nat} {q : Pos} {l : Nat} {env : Env} : swapsWithSole [.Tuple es n q] pe l env = pure false := by
  unfold swapsWithSole swapsWith
  cases pe <;> rfl
theorem stores_tup {es : List Expr} {n : Nat} {q : Pos} {env : Env} (h : ∀ a b c, pe ≠ .Tuple a b c) : swappedStores [.Tuple es n q] pe env = pure none := by
  unfold swappedStores
  cases pe <;> first | rfl | exact absurd rfl (h _ _ _)
/-- a, b = e -/
theorem ss_unp (ok : CtK C) {is : List Nat} {es : List Expr} {n : Nat} {q : Pos} (he : SE C e pe) (hn : NmsAt C is es) (ht : ∀ a b c, pe ≠ .Tuple a b c) : SS C (.unp is e) (.Assign [.Tuple es n q] pe pos) := by
  obtain ⟨te, hpe, he⟩ := he.elem ok
  refine ⟨_, L2.ps_asg hpe (pg_nms ok hn) sole_tup (stores_tup ht) rfl, fun k D σ H F S fp bq hk G w => ?_⟩
  refine he σ H _ F S fp bq G (WantS.out ok.toCtOk G .refl w fun x F1 H1 fp1 v G1 E1 R1 w1 => ?_)
  obtain ⟨x, S1⟩ := x
  obtain ⟨q', r, _⟩ := R1
  cases x with
  | lst _ => exact (show False from w1).elim
  | obj _ _ _ => exact (show False from w1).elim
  | fz x =>
    refine unp_ok G1 r.fz_inv.1 ?_
    have w1 : WantS C k σ F H fp bq ((setF S1 is x).out S .nx) D := w1
    cases hs : setF S1 is x with
    | no => rw [hs] at w1; exact w1
    | ex y =>
      unfold setF at hs
      split at hs <;> first | cases hs | (cases hb : (is.length == _) <;> rw [hb] at hs <;> cases hs)
    | ok S2 =>
      rw [hs] at w1
      intro σ' F' fp' bq' G' s1 s2 s3 pt
      refine w1 σ' F' H1 fp' bq' G' (E1.stp.trans ⟨s1, fun a o z _ => z, s2, fun j a ha => .inr ⟨j, s3 j a ha⟩⟩) fun j hj => ?_
      exact pt.kp j (hk j hj)
/-- a, b = e, f -/
theorem ss_par (ok : CtK C) {i j : Nat} {x y : Str} {a b : Ex} {pa pb : Expr} {px py q q2 : Pos} {kt k2 : Nat} (hi : C.X.N[i]? = some x) (hj : C.X.N[j]? = some y) (hij : i ≠ j)
    (hx : C.X.env.scope.names.lookup x = some .local) (hy : C.X.env.scope.names.lookup y = some .local) (ha : SE C a pa) (hb : SE C b pb) (hsa : notStar pa = true) (hsb : notStar pb = true)
    (hw : swappedStores [.Tuple [.Name x px, .Name y py] kt q] (.Tuple [pa, pb] k2 q2) C.X.env = pure (some [x, y])) :
    SS C (.par i j a b) (.Assign [.Tuple [.Name x px, .Name y py] kt q] (.Tuple [pa, pb] k2 q2) pos) := by
  obtain ⟨ta, hpa, ha⟩ := ha.val
  obtain ⟨tb, hpb, hb⟩ := hb.val
  refine ⟨_, L2.ps_par ok.calm ok.nd hi hj hij hx hy (L2.pa_cons hpa (L2.pa_cons hpb L2.pa_nil (star_ns hsb)) (star_ns hsa)) hw sole_tup, fun k D σ H F S fp bq hk G w => ?_⟩
  have hki : k i = false ∧ k j = false := by
    constructor
    · cases z : k i with
      | false => rfl
      | true => have := hk i z; simp [asg] at this
    · cases z : k j with
      | false => rfl
      | true => have := hk j z; simp [asg] at this
  refine ha σ H _ F S fp bq G (WantS.out ok.toCtOk G .refl w fun x F1 H1 fp1 v G1 E1 R1 w1 => ?_)
  refine hb σ H1 _ F1 x.2 fp1 bq G1 (WantS.out ok.toCtOk G E1 w1 fun y F2 H2 fp2 u G2 E2 R2 w2 => ?_)
  refine ⟨v, u, rfl, ?_⟩
  obtain ⟨q1, r1, o1, _⟩ := R1
  obtain ⟨o1, n1⟩ := o1 rfl
  obtain ⟨q2, r2, o2, _⟩ := R2
  obtain ⟨o2, n2⟩ := o2 rfl
  have dis : ∀ a ∈ q1, a ∉ q2 := fun a ha hb => (o1.2 a ha).2.1 (n2 a hb)
  have o1 := o1.keep E2
  have n2 := n2.back E1.h
  have E := E1.trans E2
  obtain ⟨fp3, bq3, G3, h1, h2⟩ := G2.put i (y := .ow x.1) (v := v) (q := q1) (b := []) ⟨rfl, v, rfl, r1.up E2.f E2.h⟩ o1.1 (fun a ha => ⟨(o1.2 a ha).1, fun m _ => (o1.2 a ha).2.2 m⟩) (fun _ h => nomatch h)
  have bi : bq3 i = [] := by
    by_cases hl : i < y.2.length
    · exact (G3.sl i (.ow x.1) (List.getElem?_set_self hl)).1
    · exact (G3.out i (by rw [List.length_set]; omega)).2
  obtain ⟨fp4, bq4, G4, h3, h4⟩ := G3.put j (y := .ow y.1) (v := u) (q := q2) (b := []) ⟨rfl, u, rfl, r2⟩ o2.1 (fun a ha => ⟨(o2.2 a ha).1, fun m _ => by
    by_cases hm : m = i
    · subst hm
      refine ⟨fun z => ?_, fun z => by rw [bi] at z; cases z⟩
      rcases h2 with h2 | h2
      · exact dis a (h2 a z) ha
      · rw [h2] at z; exact ((o2.2 a ha).2.2 m).1 z
    · rw [(h1 m hm).1, (h1 m hm).2]; exact (o2.2 a ha).2.2 m⟩) (fun _ h => nomatch h)
  refine w2 _ F2 H2 fp4 bq4 G4 ⟨E.f, fun a o z _ => E.h a o z, E.new, fun m a hm => ?_⟩ fun m hm => ?_
  · have in3 : a ∈ fp3 m → H a = none ∨ ∃ j, a ∈ fp j := fun z => by
      by_cases e : m = i
      · subst e
        rcases h2 with h2 | h2
        · exact .inl (n1 a (h2 a z))
        · rw [h2] at z; exact E.stp.own m a z
      · rw [(h1 m e).1] at z; exact E.stp.own m a z
    by_cases e : m = j
    · subst e
      rcases h4 with h4 | h4
      · exact .inl (n2 a (h4 a hm))
      · rw [h4] at hm; exact in3 hm
    · rw [(h3 m e).1] at hm; exact in3 hm
  · have e1 : m ≠ i := fun z => by rw [z, hki.1] at hm; cases hm
    have e2 : m ≠ j := fun z => by rw [z, hki.2] at hm; cases hm
    exact ⟨by rw [List.getElem?_set_ne (Ne.symm e2), List.getElem?_set_ne (Ne.symm e1)], by rw [(h3 m e2).2, (h1 m e1).2]⟩
theorem ss_whil (ok : CtF C) {t : Ex} {b : Ss} {pt : Expr} {pb : List Stmt} (ht : SB C t pt) (hb : SSs C b pb) : SS C (.whil t b) (.While pt pb [] pos) := by
  obtain ⟨tt, hpt, ht⟩ := ht
  obtain ⟨tb, hpb, hb⟩ := hb
  refine ⟨_, L2.ps_while ok.po hpt hpb, fun k D σ H F S fp bq hk G w => ?_⟩
  have w : WantS C k σ F H fp bq (loopW (fun T => tstOf (ev C.fe t T)) (exes C.fe b) whFuel S) D := w
  generalize whFuel = n at w
  refine ⟨fun m σ' H' => ∃ F' S' fp' bq', Good C.X.K C.xr F' H' S' σ' fp' bq' ∧ WantS C k σ' F' H' fp' bq' (loopW (fun T => tstOf (ev C.fe t T)) (exes C.fe b) m S') D, ⟨n, F, S, fp, bq, G, w⟩, ?_⟩
  rintro m σ' H' ⟨F', S', fp', bq', G', w'⟩
  cases m with
  | zero => exact w'.elim
  | succ m =>
    have w' : WantS C k σ' F' H' fp' bq' ((tstOf (ev C.fe t S')).out S' fun p => match p.1 with
      | false => .nx p.2
      | true => match exes C.fe b p.2 with
        | .nx S2 => loopW (fun T => tstOf (ev C.fe t T)) (exes C.fe b) m S2
        | .ct S2 => loopW (fun T => tstOf (ev C.fe t T)) (exes C.fe b) m S2
        | .bk S2 => .nx S2
        | o => o) D := w'
    refine ht σ' H' _ F' S' fp' bq' G' (WantS.out ok.toCtOk G' .refl w' fun p F1 H1 fp1 c G1 E1 R1 w1 => ?_)
    obtain ⟨c', S1⟩ := p
    have R1 : c' = c := R1
    subst R1
    cases c' with
    | false =>
      rw [if_neg Bool.false_ne_true]
      exact w1 σ' F1 H1 fp1 bq' G1 E1.stp .refl
    | true =>
      rw [if_pos rfl]
      refine ⟨fun σ2 H2 => ∃ F' S' fp' bq', Good C.X.K C.xr F' H2 S' σ2 fp' bq' ∧ WantS C k σ2 F' H2 fp' bq' (loopW (fun T => tstOf (ev C.fe t T)) (exes C.fe b) m S') D, fun σ2 H2 h => ⟨m, Nat.lt_succ_self m, h⟩, ?_⟩
      refine hb k _ σ' H1 F1 S1 fp1 bq' hk G1 ?_
      cases hx : exes C.fe b S1 with
      | no => simp only [hx] at w1; exact w1
      | nx S2 =>
        simp only [hx] at w1
        exact fun σ2 F2 H2 fp2 bq2 G2 E2 k2 => ⟨F2, S2, fp2, bq2, G2, WantS.after (E1.stp.trans E2) k2 w1⟩
      | ct S2 =>
        simp only [hx] at w1
        exact fun σ2 F2 H2 fp2 bq2 G2 E2 k2 => ⟨F2, S2, fp2, bq2, G2, WantS.after (E1.stp.trans E2) k2 w1⟩
      | bk S2 => simp only [hx] at w1; exact WNx.after E1.stp .refl w1
      | rt s => simp only [hx] at w1; exact WantS.after (o := .rt s) (D := D) E1.stp .refl w1
      | ex x S2 => simp only [hx] at w1; exact WantS.after (o := .ex x S2) (D := D) E1.stp .refl w1
end
end PL

namespace PL
open PySem PyProof.Rows
open L2 (V Hp HO SqL SqT upd Rd Cx PE PT PW PA PS PSs PG PGs PI PO Ends VK XK WX TE TT TA TS TO TG TGs OpR R2 CallR SlR)
section
variable {C : Ct} {k : Nat → Bool} {σ₀ σ : L2.St} {F₀ H₀ F H : Hp} {fp₀ bq₀ fp bq : FP} {D : Ends} {pos : Pos} {e i : Ex} {pe pi pp : Expr}
def inW (w : List (Nat × SV)) (j : Nat) : Prop := ∃ s, (j, s) ∈ w
theorem lendS_cons {S : S} {x : Nat × SV} {w : List (Nat × SV)} : lendS S (x :: w) = lendS (S.set x.1 (.bw x.2)) w := rfl
theorem takeS_cons {S : S} {x : Nat × SV} {w : List (Nat × SV)} : takeS S (x :: w) = takeS (S.set x.1 (.ow x.2)) w := rfl
theorem wipW_cons {S : S} {x : Nat × SV} {w : List (Nat × SV)} : wipW S (x :: w) = wipW (S.set x.1 .no) w := rfl
/-- one slot is lent -/
theorem Good.lend1 {K : PySem.W.Frag} {xr : Exc → V → Hp → Prop} {S : PL.S} (hx : ∀ x v F F', Sub F F' → xr x v F → xr x v F') (G : Good K xr F H S σ fp bq) {i : Nat} {s : SV} (h : S[i]? = some (.ow s)) :
    Good K xr F H (S.set i (.bw s)) σ (PL.clr fp i) (fun j => if j = i then fp i else bq j) := by
  have hi : i < S.length := (List.getElem?_eq_some_iff.mp h).1
  refine ⟨G.sub, by rw [List.length_set]; exact G.len, fun j x e => ?_, fun j hj => ?_, fun j => ?_, fun j m a h1 h2 => G.dj j m a (clr_mem h1).1 (clr_mem h2).1, fun j a h => G.fr j a (clr_mem h).1, fun j m a h1 h2 => ?_⟩
  · by_cases hj : j = i
    · subst hj
      rw [List.getElem?_set_self hi] at e
      cases e
      obtain ⟨g0, v, g1, g2⟩ := G.sl j _ h
      unfold PL.clr
      simp only [if_true]
      exact ⟨rfl, v, g1, g2⟩
    · rw [List.getElem?_set_ne (Ne.symm hj)] at e
      unfold PL.clr
      simp only [if_neg hj]
      exact G.sl j x e
  · rw [List.length_set] at hj
    have : j ≠ i := by omega
    unfold PL.clr
    simp only [if_neg this]
    exact G.out j hj
  · unfold PL.clr
    by_cases hj : j = i
    · simp only [if_pos hj]; exact .nil
    · simp only [if_neg hj]; exact G.nd j
  · obtain ⟨h2, hm⟩ := clr_mem h2
    by_cases hj : j = i
    · simp only [if_pos hj] at h1
      exact hm (G.dj m i a h2 h1)
    · simp only [if_neg hj] at h1
      exact G.db j m a h1 h2
/-- the slots w are lent -/
theorem lend_ok {K : PySem.W.Frag} {xr : Exc → V → Hp → Prop} (hx : ∀ x v F F', Sub F F' → xr x v F → xr x v F') : ∀ {w : List (Nat × SV)} {S : PL.S} {fp bq : FP}, Good K xr F H S σ fp bq → (∀ x ∈ w, S[x.1]? = some (.ow x.2) ∨ S[x.1]? = some (.bw x.2)) →
    ∃ fpl bql, Good K xr F H (lendS S w) σ fpl bql ∧ (∀ j a, a ∈ fpl j → a ∈ fp j) ∧ (∀ j, ¬ inW w j → fpl j = fp j ∧ bql j = bq j) ∧ ∀ j, inW w j → fpl j = []
  | [], S, fp, bq, G, _ => ⟨fp, bq, G, fun _ _ h => h, fun _ _ => ⟨rfl, rfl⟩, fun j ⟨s, h⟩ => nomatch h⟩
  | x :: w, S, fp, bq, G, hw => by
    have rest : ∀ {S1 : PL.S}, S1 = S.set x.1 (.bw x.2) → ∀ y ∈ w, S1[y.1]? = some (.ow y.2) ∨ S1[y.1]? = some (.bw y.2) := fun {S1} e y hy => by
      subst e
      have h2 := hw y (List.mem_cons_of_mem _ hy)
      by_cases hj : y.1 = x.1
      · have h1 := hw x List.mem_cons_self
        rw [hj] at h2 ⊢
        have hl : x.1 < S.length := by
          rcases h1 with h1 | h1 <;> exact (List.getElem?_eq_some_iff.mp h1).1
        rw [List.getElem?_set_self hl]
        have : y.2 = x.2 := by
          rcases h1 with h1 | h1 <;> rcases h2 with h2 | h2 <;> rw [h1] at h2 <;> simp at h2 <;> exact h2.symm
        rw [this]
        exact .inr rfl
      · rw [List.getElem?_set_ne (Ne.symm hj)]; exact h2
    rcases hw x List.mem_cons_self with h | h
    · obtain ⟨fpl, bql, G2, h1, h2, h3⟩ := lend_ok hx (w := w) (G.lend1 hx h) (rest rfl)
      refine ⟨fpl, bql, by rw [lendS_cons]; exact G2, fun j a ha => (clr_mem (h1 j a ha)).1, fun j hj => ?_, fun j ⟨s, hj⟩ => ?_⟩
      · have n1 : j ≠ x.1 := fun z => hj ⟨x.2, by rw [z]; exact List.mem_cons_self⟩
        obtain ⟨k1, k2⟩ := h2 j fun ⟨s, hs⟩ => hj ⟨s, List.mem_cons_of_mem _ hs⟩
        rw [k1, k2]
        unfold clr
        exact ⟨if_neg n1, if_neg n1⟩
      · rcases List.mem_cons.mp hj with hj | hj
        · have hj : j = x.1 := by rw [← hj]
          subst hj
          refine List.eq_nil_iff_forall_not_mem.mpr fun a ha => ?_
          exact (clr_mem (h1 _ a ha)).2 rfl
        · exact h3 j ⟨s, hj⟩
    · have e : S.set x.1 (.bw x.2) = S := by
        obtain ⟨hl, h'⟩ := List.getElem?_eq_some_iff.mp h
        rw [← h']; exact List.set_getElem_self hl
      obtain ⟨fpl, bql, G2, h1, h2, h3⟩ := lend_ok hx (w := w) G (fun y hy => by have := rest rfl y hy; rw [e] at this; exact this)
      refine ⟨fpl, bql, by rw [lendS_cons, e]; exact G2, h1, fun j hj => h2 j fun ⟨s, hs⟩ => hj ⟨s, List.mem_cons_of_mem _ hs⟩, fun j ⟨s, hj⟩ => ?_⟩
      rcases List.mem_cons.mp hj with hj | hj
      · have hj : j = x.1 := by rw [← hj]
        subst hj
        have := (G.sl _ _ h).1
        refine List.eq_nil_iff_forall_not_mem.mpr fun a ha => ?_
        have := h1 _ a ha
        rw [(G.sl _ _ h).1] at this
        cases this
      · exact h3 j ⟨s, hj⟩
theorem setAll_len {f : SV → Sl} : ∀ {w : List (Nat × SV)} {S : S}, (w.foldl (fun T p => T.set p.1 (f p.2)) S).length = S.length
  | [], _ => rfl
  | x :: w, S => by rw [List.foldl_cons, setAll_len, List.length_set]
theorem setAll_ne {f : SV → Sl} {j : Nat} : ∀ {w : List (Nat × SV)} {S : S}, ¬ inW w j → (w.foldl (fun T p => T.set p.1 (f p.2)) S)[j]? = S[j]?
  | [], _, _ => rfl
  | x :: w, S, h => by
    rw [List.foldl_cons, setAll_ne fun ⟨s, hs⟩ => h ⟨s, List.mem_cons_of_mem _ hs⟩, List.getElem?_set_ne fun z => h ⟨x.2, by rw [← z]; exact List.mem_cons_self⟩]
theorem setAll_in {f : SV → Sl} {j : Nat} {s : SV} : ∀ {w : List (Nat × SV)} {S : S}, (∀ t, (j, t) ∈ w → t = s) → inW w j → j < S.length → (w.foldl (fun T p => T.set p.1 (f p.2)) S)[j]? = some (f s)
  | [], _, _, ⟨_, h⟩, _ => nomatch h
  | x :: w, S, hu, h, hl => by
    rw [List.foldl_cons]
    by_cases h2 : inW w j
    · exact setAll_in (fun t ht => hu t (List.mem_cons_of_mem _ ht)) h2 (by rw [List.length_set]; exact hl)
    · rw [setAll_ne h2]
      obtain ⟨t, ht⟩ := h
      rcases List.mem_cons.mp ht with ht | ht
      · subst ht
        rw [hu t List.mem_cons_self, List.getElem?_set_self hl]
      · exact absurd ⟨t, ht⟩ h2
theorem noBw_at {t : Nat → Bool} {S : S} {j : Nat} : (noBw t S)[j]? = S[j]?.map (noBw1 t j) := by
  unfold noBw
  rw [List.getElem?_mapIdx]
theorem noBw_len {t : Nat → Bool} {S : S} : (noBw t S).length = S.length := by unfold noBw; exact List.length_mapIdx
open Classical in
/-- the slots w are taken back -/
theorem take_ok {S S' : PL.S} {fpl bql fp' bq' : FP} {σ' : L2.St} {F' H' : Hp} {w : List (Nat × SV)} {t : Nat → Bool} (hx : ∀ x v F F', Sub F F' → C.xr x v F → C.xr x v F') (G : Good C.X.K C.xr F H S σ fp bq) (hw : ∀ x ∈ w, S[x.1]? = some (.ow x.2))
    (l1 : ∀ j a, a ∈ fpl j → a ∈ fp j) (l2 : ∀ j, ¬ inW w j → fpl j = fp j ∧ bql j = bq j) (l3 : ∀ j, inW w j → fpl j = []) (ht : ∀ j, inW w j → t j = false)
    (G' : Good C.X.K C.xr F' H' S' σ' fp' bq') (E : Stp F H fpl F' H' fp') (kp : Kp (fun j => !t j) σ bql σ' bq') :
    ∃ fp'' bq'', Good C.X.K C.xr F' H' (takeS (noBw t S') w) σ' fp'' bq'' ∧ Stp F H fp F' H' fp'' ∧ Kp (fun j => !t j) σ bq σ' bq'' := by
  have uq : ∀ {j s}, (j, s) ∈ w → ∀ t, (j, t) ∈ w → t = s := fun {j s} h t ht => by
    have a := hw _ h
    have b := hw _ ht
    simp only at a b
    rw [a] at b; cases b; rfl
  have b0 : ∀ j, inW w j → bq j = [] := fun j ⟨s, hs⟩ => (G.sl j _ (hw _ hs)).1
  have keptL : ∀ j a, inW w j → a ∈ fp j → (∀ m, a ∉ fpl m) := fun j a hj ha m hm => by
    have := G.dj m j a (l1 m a hm) ha
    subst this
    rw [l3 m hj] at hm; cases hm
  have notIn : ∀ j a m, inW w j → a ∈ fp j → a ∉ fp' m := fun j a m hj ha hm => by
    rcases E.own m a hm with z | ⟨n, z⟩
    · exact G.there j a (.inl ha) z
    · exact keptL j a hj ha n z
  refine ⟨fun j => if inW w j then fp j else fp' j, fun j => if inW w j then [] else if t j = true ∧ ∃ s, S'[j]? = some (.bw s) then [] else bq' j, ⟨G'.sub, ?_, fun j x e => ?_, fun j hj => ?_, fun j => ?_, fun j m a h1 h2 => ?_, fun j a h1 => ?_, fun j m a h1 h2 => ?_⟩, ⟨E.f, fun a o z hn => E.h a o z fun m hm => hn m (l1 m a hm), fun a h1 h2 => (E.new a h1 h2).imp id fun ⟨m, z⟩ => ⟨m, l1 m a z⟩, fun j a h1 => ?_⟩, fun j hj => ?_⟩
  · rw [show (takeS (noBw t S') w).length = (noBw t S').length from setAll_len, noBw_len]; exact G'.len
  · by_cases hj : inW w j
    · simp only [if_pos hj]
      obtain ⟨s, hs⟩ := hj
      obtain ⟨g0, v, g1, g2⟩ := G.sl j _ (hw _ hs)
      have hl : j < (noBw t S').length := by
        have h1 : j < S.length := (List.getElem?_eq_some_iff.mp (hw _ hs)).1
        rw [noBw_len, G'.len]
        have := (kp j (by simp [ht j ⟨s, hs⟩])).1
        rw [G.len] at h1
        have h2 := (List.getElem?_eq_some_iff.mp (this.trans g1)).1
        exact h2
      have e2 : (takeS (noBw t S') w)[j]? = some (.ow s) := setAll_in (f := .ow) (uq hs) ⟨s, hs⟩ hl
      rw [e2] at e
      cases e
      refine ⟨rfl, v, (kp j (by simp [ht j ⟨s, hs⟩])).1.trans g1, g2.mono E.f fun a ha u hu => E.h a u hu (keptL j a ⟨s, hs⟩ ha)⟩
    · simp only [if_neg hj]
      have e2 : (takeS (noBw t S') w)[j]? = (noBw t S')[j]? := setAll_ne hj
      rw [e2, noBw_at] at e
      obtain ⟨y, h1, h2⟩ := Option.map_eq_some_iff.mp e
      have g := G'.sl j y h1
      cases y with
      | no =>
        subst h2
        rw [if_neg (fun z => by obtain ⟨_, s, z⟩ := z; rw [h1] at z; cases z)]
        exact g
      | ow s =>
        subst h2
        rw [if_neg (fun z => by obtain ⟨_, s, z⟩ := z; rw [h1] at z; cases z)]
        exact g
      | xc s =>
        subst h2
        rw [if_neg (fun z => by obtain ⟨_, s, z⟩ := z; rw [h1] at z; cases z)]
        exact g
      | bw s =>
        cases ht' : t j with
        | true =>
          unfold noBw1 at h2
          simp only [ht', if_true] at h2
          subst h2
          rw [if_pos ⟨rfl, s, h1⟩]
          exact ⟨g.1, rfl⟩
        | false =>
          unfold noBw1 at h2
          simp only [ht', Bool.false_eq_true, if_false] at h2
          subst h2
          rw [if_neg (show ¬ (false = true ∧ ∃ s, S'[j]? = some (.bw s)) from fun z => nomatch z.1)]
          exact g
  · rw [show (takeS (noBw t S') w).length = (noBw t S').length from setAll_len, noBw_len] at hj
    obtain ⟨h1, h2⟩ := G'.out j hj
    by_cases hi : inW w j
    · simp only [if_pos hi]
      obtain ⟨s, hs⟩ := hi
      have h1 : j < S.length := (List.getElem?_eq_some_iff.mp (hw _ hs)).1
      obtain ⟨g0, v, g1, g2⟩ := G.sl j _ (hw _ hs)
      have := (List.getElem?_eq_some_iff.mp ((kp j (by simp [ht j ⟨s, hs⟩])).1.trans g1)).1
      rw [← G'.len] at this
      omega
    · simp only [if_neg hi]
      exact ⟨h1, by split <;> first | rfl | exact h2⟩
  · by_cases hi : inW w j
    · simp only [if_pos hi]; exact G.nd j
    · simp only [if_neg hi]; exact G'.nd j
  · by_cases hj : inW w j <;> by_cases hm : inW w m
    · simp only [if_pos hj, if_pos hm] at h1 h2; exact G.dj j m a h1 h2
    · simp only [if_pos hj, if_neg hm] at h1 h2; exact absurd h2 (notIn j a m hj h1)
    · simp only [if_neg hj, if_pos hm] at h1 h2; exact absurd h1 (notIn m a j hm h2)
    · simp only [if_neg hj, if_neg hm] at h1 h2; exact G'.dj j m a h1 h2
  · by_cases hj : inW w j
    · simp only [if_pos hj] at h1
      cases z : F' a with
      | none => rfl
      | some u =>
        rcases E.new a (G.fr j a h1) (by rw [z]; exact fun z => nomatch z) with q | ⟨m, q⟩
        · exact absurd q (G.there j a (.inl h1))
        · exact absurd q (keptL j a hj h1 m)
    · simp only [if_neg hj] at h1; exact G'.fr j a h1
  · by_cases hj : inW w j
    · simp only [if_pos hj] at h1; cases h1
    · simp only [if_neg hj] at h1
      by_cases hc : t j = true ∧ ∃ s, S'[j]? = some (.bw s)
      · rw [if_pos hc] at h1; cases h1
      · rw [if_neg hc] at h1
        by_cases hm : inW w m
        · simp only [if_pos hm] at h2
          have kb : t j = false → False := fun z => by
            have e := (kp j (by simp [z])).2
            rw [e, (l2 j hj).2] at h1
            exact G.db j m a h1 h2
          cases ht' : t j with
          | false => exact kb ht'
          | true =>
            cases hs : S'[j]? with
            | none =>
              have := (G'.out j (by rw [List.getElem?_eq_none_iff] at hs; exact hs)).2
              rw [this] at h1; cases h1
            | some y =>
              have g := G'.sl j y hs
              cases y with
              | no => rw [g.2] at h1; cases h1
              | ow s => rw [g.1] at h1; cases h1
              | xc s => rw [g.1.2] at h1; cases h1
              | bw s => exact hc ⟨ht', s, hs⟩
        · simp only [if_neg hm] at h2; exact G'.db j m a h1 h2
  · by_cases hj : inW w j
    · simp only [if_pos hj] at h1; exact .inr ⟨j, h1⟩
    · simp only [if_neg hj] at h1; exact (E.own j a h1).imp id fun ⟨m, z⟩ => ⟨m, l1 m a z⟩
  · have htj : t j = false := by simpa using hj
    obtain ⟨e1, e2⟩ := kp j hj
    refine ⟨e1, ?_⟩
    by_cases hi : inW w j
    · simp only [if_pos hi]; exact (b0 j hi).symm
    · simp only [if_neg hi]
      rw [if_neg (fun z => by rw [htj] at z; cases z.1), e2, (l2 j hi).2]
end
end PL

namespace PL
open PySem PyProof.Rows
open L2 (V Hp HO SqL SqT upd Rd Cx PE PT PW PA PS PSs PG PGs PI PO Ends VK XK WX TE TT TA TS TO TG TGs OpR R2 CallR SlR)
section
variable {C : Ct} {k : Nat → Bool} {σ₀ σ : L2.St} {F₀ H₀ F H : Hp} {fp₀ bq₀ fp bq : FP} {D : Ends} {pos : Pos} {e i : Ex} {pe pi pp : Expr}
/-- an exception behind lent slots -/
theorem wip_ok {S S' : PL.S} {bql bq' : FP} {σ' : L2.St} {F' H' : Hp} {w : List (Nat × SV)} {kb : Nat → Bool} (G : Good C.X.K C.xr F H S σ fp bq) (hw : ∀ x ∈ w, S[x.1]? = some (.ow x.2)) (l2 : ∀ j, ¬ inW w j → bql j = bq j)
    (G' : Good C.X.K C.xr F' H' S' σ' (fun _ => []) bq') (kp : Kp kb σ bql σ' bq') :
    ∃ bq'', Good C.X.K C.xr F' H' (wipW S' w) σ' (fun _ => []) bq'' ∧ Kp kb σ bq σ' bq'' := by
  classical
  refine ⟨fun j => if inW w j then [] else bq' j, ⟨G'.sub, ?_, fun j x e => ?_, fun j hj => ?_, fun _ => .nil, fun _ _ _ h => (nomatch h), fun _ _ h => (nomatch h), fun _ _ _ _ h => (nomatch h)⟩, fun j hj => ?_⟩
  · rw [show (wipW S' w).length = S'.length from setAll_len (f := fun _ => .no)]; exact G'.len
  · by_cases hi : inW w j
    · simp only [if_pos hi]
      by_cases hl : j < S'.length
      · have : (wipW S' w)[j]? = some .no := by
          obtain ⟨s, hs⟩ := id hi
          exact setAll_in (f := fun _ => .no) (s := s) (fun t ht => by
            have a := hw _ hs
            have b := hw _ ht
            simp only at a b
            rw [a] at b; cases b; rfl) hi hl
        rw [this] at e
        cases e
        exact ⟨rfl, rfl⟩
      · have := (List.getElem?_eq_some_iff.mp e).1
        rw [show (wipW S' w).length = S'.length from setAll_len (f := fun _ => .no)] at this
        exact absurd this hl
    · simp only [if_neg hi]
      rw [show (wipW S' w)[j]? = S'[j]? from setAll_ne (f := fun _ => .no) hi] at e
      exact G'.sl j x e
  · rw [show (wipW S' w).length = S'.length from setAll_len (f := fun _ => .no)] at hj
    refine ⟨rfl, ?_⟩
    have := (G'.out j hj).2
    split <;> first | rfl | exact this
  · refine ⟨(kp j hj).1, ?_⟩
    by_cases hi : inW w j
    · obtain ⟨s, hs⟩ := id hi
      simp only [if_pos hi]
      exact (G.sl j _ (hw _ hs)).1.symm
    · simp only [if_neg hi]
      rw [(kp j hj).2, l2 j hi]
theorem ItmY.sub {K : PySem.W.Frag} {P : List Addr} {H' : Hp} {x : Itm} {v : V} (h : ItmY K P F H x v H') : Sub H H' := by
  cases x with
  | one s => obtain ⟨rfl, _⟩ := h; exact .refl
  | two s t => obtain ⟨T, y, z, _, h1, rfl, _⟩ := h; exact .new h1
theorem setTg_noex {S : S} {tg : Tg} {x : Itm} {z : Exc} : setTg S tg x ≠ .ex z := fun h => by
  cases tg with
  | nm i =>
    cases x with
    | one _ => cases h
    | two a b =>
      have h : setP S i (fzOf a) (fzOf b) = .ex z := h
      unfold setP at h
      split at h <;> cases h
  | tp is =>
    cases x with
    | two a b =>
      have h : set2 S a b is = .ex z := h
      unfold set2 at h
      split at h <;> cases h
    | one a =>
      have h : setO S is (fzOf a) = .ex z := h
      unfold setO setF at h
      split at h
      · split at h
        · cases hb : (is.length == _) <;> rw [hb] at h <;> cases h
        · cases hb : (is.length == _) <;> rw [hb] at h <;> cases h
        · cases h
      · cases h
theorem ss_forr (ok : CtF C) {tg : Tg} {it : It} {b : Ss} {ptg pit : Expr} {pb : List Stmt} (hg : SG C tg ptg) (hi : SI C it ptg pit) (hb : SSs C b pb) (hf : ∀ x, foldedSetIterable pit C.X.env x = pure x) : SS C (.forr tg it b) (.For ptg pit pb [] pos) := by
  obtain ⟨g, hpg, hg⟩ := hg
  obtain ⟨wi, hpi, hi⟩ := hi
  obtain ⟨tb, hpb, hb⟩ := hb
  refine ⟨_, L2.ps_for ok.po ok.calm hpi hpg hpb hf, fun k D σ H F S fp bq hk G w => ?_⟩
  have w : WantS C k σ F H fp bq ((evI C.fe it S).out S fun p => match p.1.2.all fun x => !asgs x.1 b && !inTg x.1 tg with
    | true => outTake (fun i => inTg i tg || asgs i b) p.1.2 (loopF tg (exes C.fe b) p.1.1 (lendS p.2 p.1.2))
    | false => .no) D := w
  refine hi σ H _ F S fp bq G ?_
  cases hr : evI C.fe it S with
  | no => rw [hr] at w; exact w
  | ex x => rw [hr] at w; exact fun F' H' cls d s1 s2 s3 n xd => w σ F' H' bq cls d (dropOwn_good ok.toCtOk G s1 s2 s3) ⟨s1, fun a o z _ => s2 a o z, n, fun _ _ h => nomatch h⟩ .refl xd
  | ok p =>
    obtain ⟨⟨its, ws⟩, S1⟩ := p
    rw [hr] at w
    intro F1 H1 fp1 J P G1 E1 wk po
    simp only [Res.out_ok] at w
    cases hc : ws.all fun x => !asgs x.1 b && !inTg x.1 tg with
    | false => rw [hc] at w; exact w.elim
    | true =>
      rw [hc] at w
      have w : WantS C k σ F H fp bq (outTake (fun i => inTg i tg || asgs i b) ws (loopF tg (exes C.fe b) its (lendS S1 ws))) D := w
      have ht : ∀ j, inW ws j → (inTg j tg || asgs j b) = false := fun j ⟨s, hs⟩ => by
        have := List.all_eq_true.mp hc _ hs
        simp at this
        simp [this]
      obtain ⟨fpl, bql, Gl, l1, l2, l3⟩ := lend_ok ok.xr (w := ws) G1 fun x hx => .inl (po.slot x hx)
      -- what is wanted of the loop
      have wl : WantS C (fun j => !(inTg j tg || asgs j b)) σ F1 H1 fpl bql (loopF tg (exes C.fe b) its (lendS S1 ws)) { D with bk := fun _ _ => False, ct := fun _ _ => False } := by
        have kk : ∀ i, k i = true → (!(inTg i tg || asgs i b)) = true := fun i hi => by
          have h : (inTg i tg || asgs i b) = false := hk i hi
          rw [h]; rfl
        have Es : Stp F H fp F1 H1 fpl := ⟨E1.f, fun a o z _ => E1.h a o z, E1.new, fun i a ha => .inr ⟨i, E1.own i a (l1 i a ha)⟩⟩
        cases ho : loopF tg (exes C.fe b) its (lendS S1 ws) with
        | no => rw [ho] at w; exact w
        | bk _ => rw [ho] at w; exact (show False from w).elim
        | ct _ => rw [ho] at w; exact (show False from w).elim
        | rt s =>
          rw [ho] at w
          exact fun F' H' v r s1 E R n h => w F' H' v r s1 (E1.stp.trans (E.less l1)) R n fun a ha => ⟨(h a ha).1, by
            rcases (h a ha).2 with z | ⟨j, z⟩
            · exact E1.stp.back z
            · exact .inr ⟨j, E1.own j a (l1 j a z)⟩⟩
        | ex x S2 =>
          rw [ho] at w
          intro σ' F' H' bq' cls d G' E kp xd
          obtain ⟨bq'', G'', kp''⟩ := wip_ok G1 po.slot (fun j hj => (l2 j hj).2) G' kp
          exact w σ' F' H' bq'' cls d G'' (E1.stp.trans (E.less l1)) (kp''.mono kk) xd
        | nx S2 =>
          rw [ho] at w
          intro σ' F' H' fp' bq' G' E kp
          cases ws with
          | nil =>
            have e1 : ∀ j, bql j = bq j := fun j => (l2 j fun ⟨s, h⟩ => nomatch h).2
            refine w σ' F' H' fp' bq' G' (E1.stp.trans (E.less l1)) fun j hj => ?_
            obtain ⟨a1, a2⟩ := kp j (kk j hj)
            exact ⟨a1, a2.trans (e1 j)⟩
          | cons x xs =>
            obtain ⟨fp'', bq'', G'', E'', kp''⟩ := take_ok (t := fun i => inTg i tg || asgs i b) ok.xr G1 po.slot l1 l2 l3 ht G' E kp
            exact w σ' F' H' fp'' bq'' G'' (E1.stp.trans E'') (kp''.mono kk)
      have hP : ∀ a ∈ P, ∀ j, a ∉ fpl j := fun a ha j hj => by
        have := l3 j (po.own a ha j (l1 j a hj))
        rw [this] at hj; cases hj
      have hP2 : ∀ {F' H' : Hp} {fp' : FP}, Stp F1 H1 fpl F' H' fp' → (∀ a ∈ P, ∀ j, a ∉ fp' j) ∧ ∀ a ∈ P, H' a ≠ none := fun {F' H' fp'} E => by
        refine ⟨fun a ha j hj => ?_, fun a ha hn => ?_⟩
        · rcases E.own j a hj with z | ⟨m, z⟩
          · exact po.there a ha z
          · exact hP a ha m z
        · rcases E.back hn with z | ⟨m, z⟩
          · exact po.there a ha z
          · exact hP a ha m z
      refine ⟨fun n m σ' H' => m = its.length - n ∧ n ≤ its.length ∧ ∃ F' S' fp' bq', Good C.X.K C.xr F' H' S' σ' fp' bq' ∧ Stp F1 H1 fpl F' H' fp' ∧ Kp (fun j => !(inTg j tg || asgs j b)) σ bql σ' bq' ∧
        WantS C (fun j => !(inTg j tg || asgs j b)) σ F1 H1 fpl bql (loopF tg (exes C.fe b) (its.drop n) S') { D with bk := fun _ _ => False, ct := fun _ _ => False },
        ⟨its.length, by simp, Nat.zero_le _, F1, lendS S1 ws, fpl, bql, Gl, .refl, .refl, by simpa using wl⟩, ?_⟩
      rintro n m σ' H' ⟨rfl, hn, F', S', fp', bq', G', E', kp', w'⟩
      obtain ⟨go, stop, yld⟩ := wk F' H' ⟨E'.f, G'.sub, fun a ha o z => E'.h a o z (hP a ha)⟩
      by_cases hlt : n < its.length
      · rw [List.drop_eq_getElem_cons hlt] at w'
        refine .inr ⟨go n hlt, fun σ2 H2 => ∃ F2 S2 fp2 bq2, Good C.X.K C.xr F2 H2 S2 σ2 fp2 bq2 ∧ Stp F1 H1 fpl F2 H2 fp2 ∧ Kp (fun j => !(inTg j tg || asgs j b)) σ bql σ2 bq2 ∧
          WantS C (fun j => !(inTg j tg || asgs j b)) σ F1 H1 fpl bql (loopF tg (exes C.fe b) (its.drop (n + 1)) S2) { D with bk := fun _ _ => False, ct := fun _ _ => False },
          fun σ2 H2 ⟨F2, S2, fp2, bq2, h⟩ => ⟨its.length - (n + 1), by omega, rfl, hlt, F2, S2, fp2, bq2, h⟩, fun x H2 y => ?_⟩
        have y := yld n its[n] x H2 (List.getElem?_eq_getElem hlt) y
        obtain ⟨p1, p2⟩ := hP2 E'
        refine hg σ' H' H2 _ F' S' fp' bq' P its[n] x G' p1 p2 y ?_
        have w' : WantS C (fun j => !(inTg j tg || asgs j b)) σ F1 H1 fpl bql ((setTg S' tg its[n]).out S' fun S1 => match exes C.fe b S1 with
          | .nx S2 => loopF tg (exes C.fe b) (its.drop (n + 1)) S2
          | .ct S2 => loopF tg (exes C.fe b) (its.drop (n + 1)) S2
          | .bk S2 => .nx S2
          | o => o) { D with bk := fun _ _ => False, ct := fun _ _ => False } := w'
        cases hs : setTg S' tg its[n] with
        | no => rw [hs] at w'; exact w'
        | ex z => exact absurd hs setTg_noex
        | ok S2 =>
          rw [hs] at w'
          simp only [Res.out_ok] at w'
          intro σ2 F2 fp2 bq2 G2 s1 s2 s3 pt
          have E2 : Stp F1 H1 fpl F2 H2 fp2 := E'.trans ⟨s1, fun a o z _ => y.sub a o z, s2, fun j a ha => .inr ⟨j, s3 j a ha⟩⟩
          have kp2 : Kp (fun j => !(inTg j tg || asgs j b)) σ bql σ2 bq2 := kp'.trans fun j hj => pt.kp j (by simp at hj; simp [hj])
          refine hb (fun j => !(inTg j tg || asgs j b)) _ σ2 H2 F2 S2 fp2 bq2 (fun j hj => by simp at hj; exact hj.2) G2 ?_
          cases hx : exes C.fe b S2 with
          | no => simp only [hx] at w'; exact w'
          | nx S3 =>
            simp only [hx] at w'
            exact fun σ3 F3 H3 fp3 bq3 G3 E3 k3 => ⟨F3, S3, fp3, bq3, G3, E2.trans E3, kp2.trans k3, w'⟩
          | ct S3 =>
            simp only [hx] at w'
            exact fun σ3 F3 H3 fp3 bq3 G3 E3 k3 => ⟨F3, S3, fp3, bq3, G3, E2.trans E3, kp2.trans k3, w'⟩
          | bk S3 => simp only [hx] at w'; exact WNx.after E2 kp2 w'
          | rt s => simp only [hx] at w'; exact WantS.after (o := .rt s) (D := { D with bk := fun _ _ => False, ct := fun _ _ => False }) E2 kp2 w'
          | ex z S3 => simp only [hx] at w'; exact WantS.after (o := .ex z S3) (D := { D with bk := fun _ _ => False, ct := fun _ _ => False }) E2 kp2 w'
      · have e : n = its.length := by omega
        subst e
        rw [List.drop_length] at w'
        exact .inl ⟨stop, w' σ' F' H' fp' bq' G' E' kp'⟩
end
end PL

namespace PL
open PySem PyProof.Rows
open L2 (V Hp HO SqL SqT upd Rd Cx PE PT PW PA PS PSs PG PGs PI PO Ends VK XK WX TE TT TA TS TO TG TGs OpR R2 CallR SlR)
/-- the context of a comprehension's block -/
abbrev Ct.blk (C : Ct) (s : Shared) (H : Hp) (scope : Scope) (cl : List (Str × Addr)) (a : Addr) (fp : List Addr) : Ct :=
  { C with X := C.X.blk s H scope (compEnvC scope cl a C.X.env) fp, W := fun _ _ _ _ => False }
def noW : WX := fun _ _ _ _ => False
/-- the readings that are the same in all these contexts -/
def tElm (K : PySem.W.Frag) (xr : Exc → V → Hp → Prop) (xd : Exc → Value → Option Addr → Hp → Prop) (fe : FE) (e : Ex) : TE := fun σ H Q => ∃ F S fp bq, Good K xr F H S σ fp bq ∧ Want K xr xd noW σ F H fp bq (RelV' K H fp bq false) (elemOf e (ev fe e S)) Q
def tTst (K : PySem.W.Frag) (xr : Exc → V → Hp → Prop) (xd : Exc → Value → Option Addr → Hp → Prop) (fe : FE) (c : Exs) : TT := fun σ H Q => ∃ F S fp bq, Good K xr F H S σ fp bq ∧ Want K xr xd noW σ F H fp bq (fun _ _ _ (a b : Bool) => a = b) (tstC (evC fe c S)) Q
def tTgt (K : PySem.W.Frag) (xr : Exc → V → Hp → Prop) (tg : Tg) : TG := fun v σ H' Q => ∃ F H S fp bq P x, Good K xr F H S σ fp bq ∧ (∀ a ∈ P, ∀ j, a ∉ fp j) ∧ (∀ a ∈ P, H a ≠ none) ∧ ItmY K P F H x v H' ∧ WantG K xr (fun i => inTg i tg) σ F H fp bq H' (setTg S tg x) Q
theorem PE.weak {X : Cx} {e : Expr} {t u : TE} (h : PE X e t) (k : ∀ σ H Q, u σ H Q → t σ H Q) : PE X e u := ⟨fun pins s σ H Q I hw => h.run pins s σ H Q I (k σ H Q hw)⟩
theorem PG.weak {X : Cx} {e : Expr} {t u : TG} (h : PG X e t) (k : ∀ v σ H Q, u v σ H Q → t v σ H Q) : PG X e u := ⟨fun pins s σ H v w Q I r hw => h.run pins s σ H v w Q I r (k v σ H Q hw)⟩
theorem PTs.weak {X : Cx} {e : List Expr} {t u : TT} (h : L2.PTs X e t) (k : ∀ σ H Q, u σ H Q → t σ H Q) : L2.PTs X e u := ⟨fun pins s σ H Q I hw => h.run pins s σ H Q I (k σ H Q hw)⟩
section
variable {C : Ct} {e : Ex} {pe : Expr}
/-- tests of a comprehension -/
inductive Cnd (C : Ct) : Exs → List Expr → Prop
  | nil : Cnd C .nil []
  | one {e : Ex} {pe : Expr} : SB C e pe → Cnd C (.cons e .nil) [pe]
theorem elm_can (ok : CtK C) (hW : C.W = noW) (h : SE C e pe) : PE C.X pe (tElm C.X.K C.xr C.xd C.fe e) := by
  obtain ⟨t, hp, h⟩ := h.elem ok
  exact PE.weak hp fun σ H Q ⟨F, S, fp, bq, G, w⟩ => h σ H Q F S fp bq G (by rw [hW]; exact w)
theorem tst_can (hW : C.W = noW) {c : Exs} {ifs : List Expr} (h : Cnd C c ifs) : L2.PTs C.X ifs (tTst C.X.K C.xr C.xd C.fe c) := by
  cases h with
  | nil => exact PTs.weak L2.pts_nil fun σ H Q ⟨F, S, fp, bq, G, w⟩ => w F H fp true G .refl rfl
  | one h =>
    obtain ⟨t, hp, h⟩ := h
    exact PTs.weak (L2.pts_one hp) fun σ H Q ⟨F, S, fp, bq, G, w⟩ => h σ H Q F S fp bq G (by rw [hW]; exact w)
theorem tgt_can {tg : Tg} (h : SG C tg pe) : PG C.X pe (tTgt C.X.K C.xr tg) := by
  obtain ⟨t, hp, h⟩ := h
  exact PG.weak hp fun v σ H' Q ⟨F, H, S, fp, bq, P, x, G, h1, h2, h3, w⟩ => h σ H H' Q F S fp bq P x v G h1 h2 h3 w
end
theorem wipe_at {σ : L2.St} {j : Nat} : ∀ {vs : List Nat}, (L2.wipe σ vs)[j]? = if j ∈ vs ∧ j < σ.length then some none else σ[j]?
  | [] => by simp [L2.wipe]
  | v :: vs => by
    unfold L2.wipe
    by_cases h : v = j
    · subst h
      by_cases hl : v < σ.length
      · rw [List.getElem?_set_self (by rw [L2.wipe_length]; exact hl), if_pos ⟨List.mem_cons_self, hl⟩]
      · rw [List.getElem?_eq_none (by rw [List.length_set, L2.wipe_length]; omega), if_neg (fun z => hl z.2), List.getElem?_eq_none (by omega)]
    · rw [List.getElem?_set_ne h, wipe_at]
      have : (j ∈ v :: vs) ↔ j ∈ vs := by
        rw [List.mem_cons]; exact ⟨fun z => z.elim (fun z => absurd z.symm h) id, .inr⟩
      simp only [this]
theorem wipS_len {S : S} : ∀ {vs : List Nat}, (wipS S vs).length = S.length
  | [] => rfl
  | v :: vs => by unfold wipS; rw [List.length_set, wipS_len]
theorem wipS_at {S : S} {j : Nat} : ∀ {vs : List Nat}, (wipS S vs)[j]? = if j ∈ vs ∧ j < S.length then some .no else S[j]?
  | [] => by simp [wipS]
  | v :: vs => by
    unfold wipS
    by_cases h : v = j
    · subst h
      by_cases hl : v < S.length
      · rw [List.getElem?_set_self (by rw [wipS_len]; exact hl), if_pos ⟨List.mem_cons_self, hl⟩]
      · rw [List.getElem?_eq_none (by rw [List.length_set, wipS_len]; omega), if_neg (fun z => hl z.2), List.getElem?_eq_none (by omega)]
    · rw [List.getElem?_set_ne h, wipS_at]
      have : (j ∈ v :: vs) ↔ j ∈ vs := by
        rw [List.mem_cons]; exact ⟨fun z => z.elim (fun z => absurd z.symm h) id, .inr⟩
      simp only [this]
theorem wipe_eq {σ σ2 : L2.St} {vs : List Nat} (hl : σ2.length = σ.length) (h : ∀ j, j ∉ vs → σ2[j]? = (L2.wipe σ vs)[j]?) : L2.wipe σ2 vs = L2.wipe σ vs := by
  refine List.ext_getElem? fun j => ?_
  rw [wipe_at, wipe_at]
  by_cases hj : j ∈ vs
  · by_cases hs : j < σ.length
    · rw [if_pos ⟨hj, by omega⟩, if_pos ⟨hj, hs⟩]
    · rw [if_neg (fun z => hs (by omega)), if_neg (fun z => hs z.2), List.getElem?_eq_none (by omega), List.getElem?_eq_none (by omega)]
  · rw [if_neg (fun z => hj z.1), if_neg (fun z => hj z.1), h j hj, wipe_at, if_neg (fun z => hj z.1)]
def wfp (fp : FP) (ws : List Nat) : FP := fun j => if j ∈ ws then [] else fp j
theorem wfp_mem {fp : FP} {ws : List Nat} {j : Nat} {a : Addr} (h : a ∈ wfp fp ws j) : a ∈ fp j ∧ j ∉ ws := by
  unfold wfp at h
  by_cases e : j ∈ ws
  · rw [if_pos e] at h; cases h
  · rw [if_neg e] at h; exact ⟨h, e⟩
section
variable {K : PySem.W.Frag} {xr : Exc → V → Hp → Prop} {F H F' H' : Hp} {S S' : PL.S} {σ σ' : L2.St} {fp bq fp' bq' : FP} {ws : List Nat}
/-- the own names of a block are forgotten -/
theorem Good.wip (G : Good K xr F H S σ' fp bq) (hl : σ'.length = σ.length) (h : ∀ j, j ∉ ws → σ'[j]? = σ[j]?) : Good K xr F H (wipS S ws) (L2.wipe σ ws) (wfp fp ws) (wfp bq ws) := by
  refine ⟨G.sub, by rw [wipS_len, L2.wipe_length, G.len, hl], fun j x e => ?_, fun j hj => ?_, fun j => ?_, fun j m a h1 h2 => G.dj j m a (wfp_mem h1).1 (wfp_mem h2).1, fun j a h1 => G.fr j a (wfp_mem h1).1, fun j m a h1 h2 => G.db j m a (wfp_mem h1).1 (wfp_mem h2).1⟩
  · rw [wipS_at] at e
    rw [wipe_at]
    unfold wfp
    by_cases hj : j ∈ ws
    · by_cases hs : j < S.length
      · rw [if_pos ⟨hj, hs⟩] at e
        cases e
        simp only [if_pos hj]
        exact ⟨rfl, rfl⟩
      · rw [if_neg (fun z => hs z.2), List.getElem?_eq_none (by omega)] at e
        cases e
    · rw [if_neg (fun z => hj z.1)] at e
      rw [if_neg (fun z => hj z.1)]
      simp only [if_neg hj]
      rw [← h j hj]
      exact G.sl j x e
  · rw [wipS_len] at hj
    unfold wfp
    obtain ⟨h1, h2⟩ := G.out j hj
    by_cases e : j ∈ ws
    · rw [if_pos e, if_pos e]; exact ⟨rfl, rfl⟩
    · rw [if_neg e, if_neg e]; exact ⟨h1, h2⟩
  · unfold wfp
    by_cases e : j ∈ ws
    · simp only [if_pos e]; exact .nil
    · simp only [if_neg e]; exact G.nd j
theorem back_at {S0 : PL.S} {j : Nat} : ∀ {ws : List Nat} {T : PL.S}, T.length = S0.length → (ws.foldl (fun T i => T.set i (S0.getD i .no)) T)[j]? = if j ∈ ws then S0[j]? else T[j]?
  | [], _, _ => by simp
  | v :: vs, T, hl => by
    rw [List.foldl_cons, back_at (by rw [List.length_set]; exact hl)]
    by_cases h : j ∈ vs
    · rw [if_pos h, if_pos (List.mem_cons_of_mem _ h)]
    · rw [if_neg h]
      by_cases e : v = j
      · subst e
        rw [if_pos List.mem_cons_self]
        by_cases hs : v < T.length
        · rw [List.getElem?_set_self hs, List.getD_eq_getElem?_getD, List.getElem?_eq_getElem (show v < S0.length by omega)]; rfl
        · rw [List.getElem?_eq_none (by rw [List.length_set]; omega), List.getElem?_eq_none (by omega)]
      · rw [List.getElem?_set_ne e, if_neg (fun z => (List.mem_cons.mp z).elim (fun z => e z.symm) h)]
open Classical in
/-- behind the block all is as it was -/
theorem comp_back {S1 T : PL.S} {σw : L2.St} {fp1 fplw : FP} {bqw : FP} {R : Nat → Prop} (hx : ∀ x v F F', Sub F F' → xr x v F → xr x v F') (G1 : Good K xr F H S1 σ fp1 bq) (G' : Good K xr F' H' S' σw fp' bqw) (E : Ext F H F' H' fplw fp')
    (l1 : ∀ j a, a ∈ fplw j → a ∈ fp1 j) (l2 : ∀ j, R j → fplw j = []) (hσ : ∀ j, ¬ R j → σw[j]? = σ[j]?) (hb : ∀ j, ¬ R j → bqw j = bq j) (hT : ∀ j, T[j]? = if R j then S1[j]? else S'[j]?) (hl : T.length = σ.length) (hl' : S'.length = σ.length) :
    Good K xr F' H' T σ (fun j => if R j then fp1 j else fp' j) bq ∧ Ext F H F' H' fp1 (fun j => if R j then fp1 j else fp' j) := by
  have out : ∀ j a m, R j → a ∈ fp1 j → a ∉ fp' m := fun j a m hj ha hm => by
    have h1 := E.own m a hm
    have := G1.dj m j a (l1 m a h1) ha
    subst this
    rw [l2 m hj] at h1; cases h1
  refine ⟨⟨G'.sub, hl, fun j x e => ?_, fun j hj => ?_, fun j => ?_, fun j m a h1 h2 => ?_, fun j a h1 => ?_, fun j m a h1 h2 => ?_⟩, ⟨E.f, E.h, fun a h1 h2 => (E.new a h1 h2).imp id fun ⟨i, z⟩ => ⟨i, l1 i a z⟩, fun j a h1 => ?_⟩⟩
  · rw [hT] at e
    by_cases hj : R j
    · rw [if_pos hj] at e
      simp only [if_pos hj]
      exact (G1.sl j x e).up hx E.f fun a _ u h => E.h a u h
    · rw [if_neg hj] at e
      simp only [if_neg hj]
      have g := G'.sl j x e
      rw [hσ j hj, hb j hj] at g
      exact g
  · by_cases hj' : R j
    · simp only [if_pos hj']; exact G1.out j (by rw [G1.len]; omega)
    · simp only [if_neg hj']
      obtain ⟨h1, h2⟩ := G'.out j (by omega)
      rw [hb j hj'] at h2
      exact ⟨h1, h2⟩
  · by_cases hj : R j
    · simp only [if_pos hj]; exact G1.nd j
    · simp only [if_neg hj]; exact G'.nd j
  · by_cases hj : R j <;> by_cases hm : R m
    · simp only [if_pos hj, if_pos hm] at h1 h2; exact G1.dj j m a h1 h2
    · simp only [if_pos hj, if_neg hm] at h1 h2; exact absurd h2 (out j a m hj h1)
    · simp only [if_neg hj, if_pos hm] at h1 h2; exact absurd h1 (out m a j hm h2)
    · simp only [if_neg hj, if_neg hm] at h1 h2; exact G'.dj j m a h1 h2
  · by_cases hj : R j
    · simp only [if_pos hj] at h1
      cases z : F' a with
      | none => rfl
      | some u =>
        rcases E.new a (G1.fr j a h1) (by rw [z]; exact fun z => nomatch z) with q | ⟨m, q⟩
        · exact absurd q (G1.there j a (.inl h1))
        · have := G1.dj m j a (l1 m a q) h1
          subst this
          rw [l2 m hj] at q; cases q
    · simp only [if_neg hj] at h1; exact G'.fr j a h1
  · by_cases hm : R m
    · simp only [if_pos hm] at h2; exact G1.db j m a h1 h2
    · simp only [if_neg hm] at h2; exact G1.db j m a h1 (l1 m a (E.own m a h2))
  · by_cases hj : R j
    · simp only [if_pos hj] at h1; exact h1
    · simp only [if_neg hj] at h1; exact l1 j a (E.own j a h1)
end
end PL

namespace PL
open PySem PyProof.Rows
open L2 (V Hp HO SqL SqT upd Rd Cx PE PT PW PA PS PSs PG PGs PI PO Ends VK XK WX TE TT TA TS TO TG TGs OpR R2 CallR SlR)
section
variable {C : Ct} {pos : Pos} {tg : Tg} {it : It} {cnd : Exs} {el : Ex} {ptg pit pel : Expr} {ifs : List Expr} {scope : Scope} {own : List (Str × Nat)}
/-- the reading of a comprehension -/
def tComp (C : Ct) (wi : L2.TI) (tg : Tg) (cnd : Exs) (el : Ex) (ws : List Nat) : TE := L2.tLc wi (tTgt C.X.K C.xr tg) (tTst C.X.K C.xr C.xd C.fe cnd) (tElm C.X.K C.xr C.xd C.fe el) ws
theorem noex_ok {α β : Type} {K : PySem.W.Frag} {xr : Exc → V → Hp → Prop} {xd : Exc → Value → Option Addr → Hp → Prop} {W : WX} {σ : L2.St} {F H : Hp} {fp bq : FP} {Rel : Hp → Hp → FP → α → β → Prop} {γ : Type} {r : Res γ} {f : γ → Res (α × PL.S)} {Q : β → Hp → Prop} (w : Want K xr xd W σ F H fp bq Rel (r.noex.bind f) Q) :
    ∃ a, r = .ok a ∧ Want K xr xd W σ F H fp bq Rel (f a) Q := by
  cases r with
  | no => exact w.elim
  | ex _ => exact w.elim
  | ok a => exact ⟨a, rfl, w⟩
theorem guard_ok {α : Type} {b : Bool} {r : Res α} {a : α} (h : Res.guard b r = .ok a) : b = true ∧ r = .ok a := by
  cases b with
  | true => exact ⟨rfl, h⟩
  | false => cases h
theorem bind_ok' {α β : Type} {r : Res α} {f : α → Res β} {b : β} (h : r.bind f = .ok b) : ∃ a, r = .ok a ∧ f a = .ok b := by
  cases r with
  | no => cases h
  | ex _ => cases h
  | ok a => exact ⟨a, rfl, h⟩
theorem noex_ok' {α : Type} {r : Res α} {a : α} (h : r.noex = .ok a) : r = .ok a := by
  cases r with
  | no => cases h
  | ex _ => cases h
  | ok a => exact h
/-- what is wanted of a result that is there -/
theorem Want.of {α β : Type} {K : PySem.W.Frag} {xr : Exc → V → Hp → Prop} {xd : Exc → Value → Option Addr → Hp → Prop} {W : WX} {σ : L2.St} {F H : Hp} {fp bq : FP} {Rel : Hp → Hp → FP → α → β → Prop} {r : Res (α × PL.S)} {p : α × PL.S} {Q : β → Hp → Prop} (e : r = .ok p)
    (h : ∀ F' H' fp' b, Good K xr F' H' p.2 σ fp' bq → Ext F H F' H' fp fp' → Rel F' H' fp' p.1 b → Q b H') : Want K xr xd W σ F H fp bq Rel r Q := by
  rw [e]; exact h
theorem back_len {S0 : PL.S} : ∀ {ws : List Nat} {T : PL.S}, (back S0 ws T).length = T.length
  | [], _ => rfl
  | v :: vs, T => by
    have : back S0 (v :: vs) T = back S0 vs (T.set v (S0.getD v .no)) := rfl
    rw [this, back_len, List.length_set]
theorem comp_read (ok : CtK C) {wi : L2.TI} {ws : List Nat} (hi : ∀ σ H R F S fp bq, Good C.X.K C.xr F H S σ fp bq → WantI C.X.K C.xr C.xd C.W σ F H fp bq (evI C.fe it S) R → wi σ H R) (htw : ∀ j, inTg j tg = true → j ∈ ws) :
    ∀ σ H Q F S fp bq, Good C.X.K C.xr F H S σ fp bq → Want C.X.K C.xr C.xd C.W σ F H fp bq (RelV' C.X.K H fp bq false) (ev C.fe (.comp tg it cnd el ws) S) Q → tComp C wi tg cnd el ws σ H Q := by
  intro σ H Q F S fp bq G w
  have w : Want C.X.K C.xr C.xd C.W σ F H fp bq (RelV' C.X.K H fp bq false) ((evI C.fe it S).bind fun p =>
    (loopC tg ws (fun T => tstC (evC C.fe cnd T)) (fun T => elemOf el (ev C.fe el T)) p.1.1 (lendS p.2 p.1.2) []).noex.bind fun q => .ok (.lst q.1, takeS (back p.2 ws q.2) p.1.2)) Q := w
  refine hi σ H _ F S fp bq G ?_
  cases hr : evI C.fe it S with
  | no => rw [hr] at w; exact w
  | ex x => rw [hr] at w; exact w
  | ok p =>
    obtain ⟨⟨its, wl⟩, S1⟩ := p
    rw [hr] at w
    intro F1 H1 fp1 J P G1 E1 wk po
    have w : Want C.X.K C.xr C.xd C.W σ F H fp bq (RelV' C.X.K H fp bq false) ((loopC tg ws (fun T => tstC (evC C.fe cnd T)) (fun T => elemOf el (ev C.fe el T)) its (lendS S1 wl) []).noex.bind fun q => .ok (.lst q.1, takeS (back S1 ws q.2) wl)) Q := w
    obtain ⟨⟨acc, Sz⟩, hloop, w⟩ := noex_ok w
    intro D hD
    obtain ⟨fpl, bql, Gl, l1, l2, l3⟩ := lend_ok ok.xr (w := wl) G1 fun x hx => .inl (po.slot x hx)
    have Gw := Gl.wip (σ := σ) (ws := ws) rfl fun _ _ => rfl
    have hP : ∀ a ∈ P, ∀ j, a ∉ wfp fpl ws j := fun a ha j hj => by
      have hj := (wfp_mem hj).1
      have := l3 j (po.own a ha j (l1 j a hj))
      rw [this] at hj; cases hj
    have lenS : (lendS S1 wl).length = S1.length := setAll_len (f := .bw)
    -- what is true at a turn
    refine ⟨fun n m H' => m = its.length - n ∧ n ≤ its.length ∧ ∃ F' S' fp' acc1 av q, Good C.X.K C.xr F' H' (wipS S' ws) (L2.wipe σ ws) fp' (wfp bql ws) ∧ S'.length = S1.length ∧ Ext F1 H1 F' H' (wfp fpl ws) fp' ∧
        loopC tg ws (fun T => tstC (evC C.fe cnd T)) (fun T => elemOf el (ev C.fe el T)) (its.drop n) S' acc1 = .ok (acc, Sz) ∧ H' D = some (.lst av) ∧ Rps C.X.K F' H' acc1 av q ∧ Own F' H' fp' (wfp bql ws) (D :: q) ∧ NewIn H1 (D :: q),
      ⟨its.length, by simp, Nat.zero_le _, F1, lendS S1 wl, wfp fpl ws, [], [], [], ?_, lenS, ?_, by simpa using hloop, L2.upd_same, .nil, ?_, ?_⟩, ?_⟩
    · exact Gw.up ok.xr .refl (Sub.new hD) (Gw.sub.outer (Gw.sub.nil_of hD)) Gw.fr
    · exact ⟨.refl, Sub.new hD, Fz.refl', fun _ _ h => h⟩
    · refine ⟨by simp, fun a ha => ?_⟩
      have e : a = D := by simpa using ha
      subst e
      exact ⟨Gw.sub.nil_of hD, by rw [L2.upd_same]; exact fun z => (nomatch z), fun j => ⟨fun z => Gw.there j a (.inl z) hD, fun z => Gw.there j a (.inr z) hD⟩⟩
    · intro a ha
      have e : a = D := by simpa using ha
      subst e
      exact hD
    rintro n m H' ⟨rfl, hn, F', S', fp', acc1, av, q, G', hl', E', hlp, hDv, Ra, o, nw⟩
    obtain ⟨go, stop, yld⟩ := wk F' H' ⟨E'.f, G'.sub, fun a ha o z => E'.h a o z⟩
    by_cases hlt : n < its.length
    · rw [List.drop_eq_getElem_cons hlt] at hlp
      refine .inr ⟨go n hlt, fun H2 => ∃ F2 S2 fp2 acc2 av2 q2, Good C.X.K C.xr F2 H2 (wipS S2 ws) (L2.wipe σ ws) fp2 (wfp bql ws) ∧ S2.length = S1.length ∧ Ext F1 H1 F2 H2 (wfp fpl ws) fp2 ∧
        loopC tg ws (fun T => tstC (evC C.fe cnd T)) (fun T => elemOf el (ev C.fe el T)) (its.drop (n + 1)) S2 acc2 = .ok (acc, Sz) ∧ H2 D = some (.lst av2) ∧ Rps C.X.K F2 H2 acc2 av2 q2 ∧ Own F2 H2 fp2 (wfp bql ws) (D :: q2) ∧ NewIn H1 (D :: q2),
        fun H2 h => ⟨its.length - (n + 1), by omega, rfl, hlt, h⟩, fun x H2 y => ?_⟩
      have y := yld n its[n] x H2 (List.getElem?_eq_getElem hlt) y
      have hlp : ((setTg (wipS S' ws) tg its[n]).noex.bind fun S1 => (tstC (evC C.fe cnd S1)).bind fun p => match p.1 with
        | false => loopC tg ws (fun T => tstC (evC C.fe cnd T)) (fun T => elemOf el (ev C.fe el T)) (its.drop (n + 1)) p.2 acc1
        | true => (elemOf el (ev C.fe el p.2)).bind fun q => Res.guard (decide (acc1.length < szLine)) (loopC tg ws (fun T => tstC (evC C.fe cnd T)) (fun T => elemOf el (ev C.fe el T)) (its.drop (n + 1)) q.2 (acc1 ++ [q.1]))) = .ok (acc, Sz) := hlp
      obtain ⟨S2, e2, hlp⟩ := bind_ok' hlp
      obtain ⟨⟨c, S3⟩, e3, hlp⟩ := bind_ok' hlp
      refine ⟨F', H', wipS S' ws, fp', wfp bql ws, P, its[n], G', fun a ha j hj => hP a ha j (E'.own j a hj), fun a ha z => po.there a ha (E'.h.nil_of z), y, ?_⟩
      rw [noex_ok' e2]
      intro σ2 F2 fp2 bq2 G2 s1 s2 s3 pt
      have e12 : Ext F' H' F2 H2 fp' fp2 := ⟨s1, y.sub, s2, s3⟩
      have offw : ∀ j, j ∉ ws → σ2[j]? = (L2.wipe σ ws)[j]? ∧ bq2 j = wfp bql ws j := fun j hj => pt.kp j (by
        cases z : inTg j tg with
        | false => rfl
        | true => exact absurd (htw j z) hj)
      have lenσ : σ2.length = σ.length := by rw [pt.len, L2.wipe_length]
      -- back to the start of a turn
      have again : ∀ {F3 H3 : Hp} {S3 : PL.S} {fp3 : FP}, Good C.X.K C.xr F3 H3 S3 σ2 fp3 bq2 → Ext F2 H2 F3 H3 fp2 fp3 →
          Good C.X.K C.xr F3 H3 (wipS S3 ws) (L2.wipe σ ws) (wfp fp3 ws) (wfp bql ws) ∧ S3.length = S1.length ∧ Ext F' H' F3 H3 fp' (wfp fp3 ws) := fun {F3 H3 S3 fp3} G3 E3 => by
        have g := G3.wip (σ := σ) (ws := ws) lenσ fun j hj => by rw [(offw j hj).1, wipe_at, if_neg (fun z => hj z.1)]
        have eb : wfp bq2 ws = wfp bql ws := funext fun j => by
          unfold wfp
          by_cases hj : j ∈ ws
          · rw [if_pos hj, if_pos hj]
          · rw [if_neg hj, if_neg hj, (offw j hj).2]
            unfold wfp
            rw [if_neg hj]
        rw [eb] at g
        have e := e12.trans E3
        exact ⟨g, by rw [G3.len, lenσ, G1.len], e.f, e.h, e.new, fun j a h => e.own j a (wfp_mem h).1⟩
      refine ⟨wipe_eq lenσ fun j hj => (offw j hj).1, F2, S2, fp2, bq2, G2, Want.of e3 fun F3 H3 fp3 b G3 E3 R3 => ?_⟩
      have R3 : c = b := R3
      subst R3
      cases c with
      | false =>
        rw [if_neg Bool.false_ne_true]
        obtain ⟨g, ln, ee⟩ := again G3 E3
        exact ⟨F3, S3, _, acc1, av, q, g, ln, E'.trans ee, hlp, ee.h _ _ hDv, Ra.up ee.f ee.h, o.keep ee, nw⟩
      | true =>
        rw [if_pos rfl]
        obtain ⟨⟨s, S4⟩, e4, hlp⟩ := bind_ok' hlp
        obtain ⟨hg, hlp⟩ := guard_ok hlp
        rw [decide_eq_true_eq] at hg
        refine ⟨F3, S3, fp3, bq2, G3, Want.of e4 fun F4 H4 fp4 v G4 E4 R4 => ?_⟩
        obtain ⟨g, ln, ee⟩ := again G4 (E3.trans E4)
        obtain ⟨qx, rx, ox, _⟩ := R4
        obtain ⟨ox, nx⟩ := ox rfl
        have ok4 := o.keep ee
        have Ra4 := Ra.up ee.f ee.h
        have hD4 := ee.h _ _ hDv
        have nx3 : NewIn H' qx := (nx.back E3.h).back y.sub
        have Dq : D ∉ qx := fun z => by
          have := nx3 D z
          rw [hDv] at this; cases this
        have ndo := List.nodup_cons.mp ok4.1
        refine ⟨av, hD4, by rw [← Ra.length, ← szLine_eq]; exact hg, F4, S4, wfp fp4 ws, acc1 ++ [s], av ++ [v], q ++ qx, ?_, ln, ?_, hlp, L2.upd_same, ?_, ?_, ?_⟩
        · have fD : F4 D = none := (ok4.2 D List.mem_cons_self).1
          refine ⟨g.sub.outer fD, g.len, fun j z e => (g.sl j z e).up ok.xr .refl fun a ha u hu => ?_, g.out, g.nd, g.dj, g.fr, g.db⟩
          rw [L2.upd_ne (fun z => ?_)]; exact hu
          subst z
          obtain ⟨k1, k2⟩ := (ok4.2 a List.mem_cons_self).2.2 j
          rcases ha with ha | ha
          · exact k1 ha
          · exact k2 ha
        · have e := E'.trans ee
          refine ⟨e.f, fun a u hu => ?_, e.new, e.own⟩
          rw [L2.upd_ne (fun z => by rw [z, hD] at hu; cases hu)]
          exact e.h a u hu
        · refine Rps.append (Ra4.mono .refl fun a ha u hu => ?_) ?_
          · rw [L2.upd_ne (fun z => ndo.1 (by rw [← z]; exact ha))]; exact hu
          · have := Rps.cons (rx.mono (H' := L2.upd H4 D (.lst (av ++ [v]))) .refl fun a ha u hu => by
              rw [L2.upd_ne (fun z => Dq (by rw [← z]; exact ha))]; exact hu) .nil
            simpa using this
        · refine ⟨?_, fun a ha => ?_⟩
          · rw [← List.cons_append]
            refine List.nodup_append.mpr ⟨ok4.1, ox.1, fun a ha b hb z => ?_⟩
            subst z
            exact (o.2 a ha).2.1 (nx3 a hb)
          · rw [← List.cons_append] at ha
            rcases List.mem_append.mp ha with ha | ha
            · obtain ⟨k1, k2, k3⟩ := ok4.2 a ha
              refine ⟨k1, fun z => k2 ?_, k3⟩
              by_cases e : a = D
              · rw [e, L2.upd_same] at z; cases z
              · rw [L2.upd_ne e] at z; exact z
            · obtain ⟨k1, k2, k3⟩ := ox.2 a ha
              refine ⟨k1, fun z => k2 ?_, fun j => ⟨fun z => (k3 j).1 (wfp_mem z).1, fun z => ?_⟩⟩
              · by_cases e : a = D
                · rw [e, L2.upd_same] at z; cases z
                · rw [L2.upd_ne e] at z; exact z
              · have h := wfp_mem z
                have := (offw j h.2).2
                unfold wfp at this
                rw [if_neg h.2] at this
                exact (k3 j).2 (by rw [this]; exact h.1)
        · intro a ha
          rw [← List.cons_append] at ha
          rcases List.mem_append.mp ha with ha | ha
          · exact nw a ha
          · exact E'.h.nil_of (nx3 a ha)
    · have e : n = its.length := by omega
      subst e
      rw [List.drop_length] at hlp
      have hlp : Res.ok (acc1, S') = Res.ok (acc, Sz) := hlp
      cases hlp
      refine .inl ⟨stop, ?_⟩
      classical
      have hT : ∀ j, (takeS (back S1 ws Sz) wl)[j]? = if (inW wl j ∨ j ∈ ws) then S1[j]? else (wipS Sz ws)[j]? := fun j => by
        have hb : (back S1 ws Sz)[j]? = if j ∈ ws then S1[j]? else Sz[j]? := back_at hl'
        by_cases hi : inW wl j
        · rw [if_pos (.inl hi)]
          obtain ⟨s, hs⟩ := id hi
          have hS := po.slot _ hs
          have hl : j < (back S1 ws Sz).length := by
            rw [back_len, hl']
            exact (List.getElem?_eq_some_iff.mp hS).1
          have := setAll_in (f := .ow) (s := s) (S := back S1 ws Sz) (fun t ht => by
            have b := po.slot _ ht
            simp only at hS b
            rw [hS] at b; cases b; rfl) hi hl
          exact this.trans hS.symm
        · have := setAll_ne (f := .ow) (S := back S1 ws Sz) hi
          rw [show (takeS (back S1 ws Sz) wl)[j]? = (back S1 ws Sz)[j]? from this, hb, wipS_at]
          by_cases hj : j ∈ ws
          · rw [if_pos hj, if_pos (.inr hj)]
          · rw [if_neg hj, if_neg (fun z => z.elim hi hj), if_neg (fun z => hj z.1)]
      have lenW : (wipS Sz ws).length = σ.length := by rw [wipS_len, hl', G1.len]
      obtain ⟨Gf, Ef⟩ := comp_back (R := fun j => inW wl j ∨ j ∈ ws) ok.xr G1 G' E' (fun j a ha => l1 j a (wfp_mem ha).1) (fun j hj => by
          unfold wfp
          by_cases e : j ∈ ws
          · rw [if_pos e]
          · rw [if_neg e]; exact l3 j (hj.elim id fun z => absurd z e)) (fun j hj => by rw [wipe_at, if_neg (fun z => hj (.inr z.1))]) (fun j hj => by
          unfold wfp
          rw [if_neg (fun z => hj (.inr z))]
          exact (l2 j fun z => hj (.inl z)).2) (fun j => by rw [hT j]; congr) (by rw [show (takeS (back S1 ws Sz) wl).length = (back S1 ws Sz).length from setAll_len (f := .ow), back_len, hl', G1.len]) lenW
      refine w F' H' _ (.ref D) Gf (E1.trans Ef) ⟨D :: q, .lst hDv Ra, fun _ => ⟨⟨o.1, fun a ha => ?_⟩, nw.back E1.h⟩, fun a ha => .inl (E1.h.nil_of (nw a ha))⟩
      obtain ⟨k1, k2, k3⟩ := o.2 a ha
      refine ⟨k1, k2, fun j => ⟨fun z => ?_, fun z => G1.there j a (.inr z) (nw a ha)⟩⟩
      by_cases hj : inW wl j ∨ j ∈ ws
      · simp only [if_pos hj] at z; exact G1.there j a (.inl z) (nw a ha)
      · simp only [if_neg hj] at z; exact (k3 j).1 z
/-- the facts of a block -/
structure BlkAt (C : Ct) (scope : Scope) (own : List (Str × Nat)) (tg : Tg) (ptg : Expr) (cnd : Exs) (ifs : List Expr) (el : Ex) (pel : Expr) : Prop where
  ok : L2.BlkOk C.X.N C.X.env.scope scope own
  tgt : ∀ j, inTg j tg = true → j ∈ own.map (·.2)
  g : ∀ s H cl a fp, SG (C.blk s H scope cl a fp) tg ptg
  c : ∀ s H cl a fp, Cnd (C.blk s H scope cl a fp) cnd ifs
  e : ∀ s H cl a fp, SE (C.blk s H scope cl a fp) el pel
theorem CtK.blk (ok : CtK C) (s : Shared) (H : Hp) (scope : Scope) (cl : List (Str × Addr)) (a : Addr) (fp : List Addr) : CtK (C.blk s H scope cl a fp) :=
  { xr := ok.xr, calm := ok.calm, un := ok.un, gd := ok.gd, nd := ok.nd }
theorem BlkAt.pg (h : BlkAt C scope own tg ptg cnd ifs el pel) (s : Shared) (H : Hp) (a : Addr) (cl : List (Str × Addr)) (fp : List Addr) : PG (C.X.blk s H scope (compEnvC scope cl a C.X.env) fp) ptg (tTgt C.X.K C.xr tg) := tgt_can (h.g s H cl a fp)
theorem BlkAt.pt (h : BlkAt C scope own tg ptg cnd ifs el pel) (s : Shared) (H : Hp) (a : Addr) (cl : List (Str × Addr)) (fp : List Addr) : L2.PTs (C.X.blk s H scope (compEnvC scope cl a C.X.env) fp) ifs (tTst C.X.K C.xr C.xd C.fe cnd) := tst_can rfl (h.c s H cl a fp)
theorem BlkAt.pe (ok : CtK C) (h : BlkAt C scope own tg ptg cnd ifs el pel) (s : Shared) (H : Hp) (a : Addr) (cl : List (Str × Addr)) (fp : List Addr) : PE (C.X.blk s H scope (compEnvC scope cl a C.X.env) fp) pel (tElm C.X.K C.xr C.xd C.fe el) := elm_can (ok.blk s H scope cl a fp) rfl (h.e s H cl a fp)
theorem se_comp (ok : CtK C) (hi : SI C it ptg pit) (h : BlkAt C scope own tg ptg cnd ifs el pel) (hs : ∀ x, foldedSetIterable pit C.X.env x = pure x) : SE C (.comp tg it cnd el (own.map (·.2))) (.ListComp pel [⟨ptg, pit, ifs, 0⟩] scope pos) := by
  obtain ⟨wi, hpi, hi⟩ := hi
  exact ⟨_, L2.pe_lc ok.calm ok.nd hpi h.ok h.pg h.pt (h.pe ok) hs, comp_read ok hi h.tgt⟩
/-- name = [..] on one line -/
theorem ss_asgC (ok : CtK C) {i : Nat} {y : Str} {py spos : Pos} (hy : C.X.N[i]? = some y) (hyl : C.X.env.scope.names.lookup y = some .local)
    (hsw : swapsWith (.ListComp pel [⟨ptg, pit, ifs, 0⟩] scope pos) (some (.Name y py)) spos.line C.X.env = pure true) (hi : SI C it ptg pit) (h : BlkAt C scope own tg ptg cnd ifs el pel) (hs : ∀ x, foldedSetIterable pit C.X.env x = pure x) :
    SS C (.asg i (.comp tg it cnd el (own.map (·.2)))) (.Assign [.Name y py] (.ListComp pel [⟨ptg, pit, ifs, 0⟩] scope pos) spos) := by
  obtain ⟨wi, hpi, hi⟩ := hi
  refine ⟨_, L2.ps_setLc ok.calm ok.nd hy hyl hsw hpi h.ok h.pg h.pt (h.pe ok) hs, fun k D σ H F S fp bq hk G w => ?_⟩
  refine comp_read ok hi h.tgt σ H _ F S fp bq G (WantS.out (k := k) (D := D) ok.toCtOk G .refl (f := fun p => .nx (p.2.set i (.ow p.1))) ?_ fun p F' H' fp' v G' E' R' w' => ?_)
  · have w : WantS C k σ F H fp bq ((valOf (.comp tg it cnd el (own.map (·.2))) (ev C.fe (.comp tg it cnd el (own.map (·.2))) S)).out S fun p => .nx (p.2.set i (.ow p.1))) D := w
    unfold valOf at w
    cases hr : ev C.fe (.comp tg it cnd el (own.map (·.2))) S with
    | no => rw [hr] at w; exact w
    | ex x => rw [hr] at w; exact w
    | ok p => rw [hr] at w; exact w
  · obtain ⟨q, r, o, _⟩ := R'
    obtain ⟨o, n⟩ := o rfl
    have hki : k i = false := by
      cases z : k i with
      | false => rfl
      | true => have := hk i z; simp [asg] at this
    obtain ⟨fp2, bq2, G2, E2, k2, _⟩ := G'.putV (k := k) E'.stp i r o n hki
    exact w' _ F' H' fp2 bq2 G2 E2 k2
end
end PL

namespace PL
open PySem PyProof.Rows
open L2 (V Hp HO SqL SqT upd Rd Cx PE PT PW PA PS PSs PG PGs PI PO Ends VK XK WX TE TT TA TS TO TG TGs OpR R2 CallR SlR)

/-- what is known of the place -/
structure Ms where
  N : List Str
  sc : Scope
  fnb : Str → Bool
  fns : List (Str × Nat × Nat)
  gcd : Bool
  g : Bool
def kin (m : Ms) (x : Str) : Option NameKind := m.sc.names.lookup x
def isKd (k : Option NameKind) (l : NameKind) : Bool := match k, l with
  | some .local, .local => true
  | some .cell, .cell => true
  | some .free, .free => true
  | some .globalImplicit, .globalImplicit => true
  | _, _ => false
theorem isKd_of {k : Option NameKind} {l : NameKind} (h : isKd k l = true) : k = some l := by
  unfold isKd at h
  split at h <;> first | rfl | cases h
def okN (x : Str) : Bool := !(x == ("__debug__" : Str)) && !(x == ("__classdict__" : Str))
def visB (m : Ms) (i : Nat) (x : Str) : Bool := decide (m.N[i]? = some x) && (isKd (kin m x) .local || isKd (kin m x) .cell || isKd (kin m x) .free) && okN x
def nmB (m : Ms) (i : Nat) (x : Str) : Bool := decide (m.N[i]? = some x) && ((isKd (kin m x) .local) || (isKd (kin m x) .cell && m.fnb x))
def glB (m : Ms) (x : Str) : Bool := isKd (kin m x) .globalImplicit
/-- built-in names that the program does not store -/
def bltNames : List Str := ["len", "abs", "int", "tuple", "list", "sum", "max", "min", "repr", "bool", "str", "isinstance", "range", "zip", "enumerate", "reversed"]
/-- a def of the table -/
def FnX (C : Ct) (fn : Nat) (x : Str) (np : Nat) : Prop := (x == ("__debug__" : Str)) = false ∧ ∃ (f : Addr) (fd : FuncData) (k : Nat) (ps : List Str), FnP C.g C.X.prog C.X.w C.X.K C.X.mg C.X.base k f fd ps (CallSp C.X.K C.xd np (C.fe fn)) ∧ L2.Room k C.X.A ∧
    C.X.mg x = some (.ref f) ∧ PySem.W.keepIn C.X.K (.ref f) = true ∧ L2.Binds C.X.K fd ps []
structure RelM (m : Ms) (C : Ct) : Prop where
  ok : CtF C
  N : C.X.N = m.N
  sc : C.X.env.scope = m.sc
  fn : ∀ x, C.X.fn x = m.fnb x
  fns : ∀ x f np, (x, f, np) ∈ m.fns → FnX C f x np
  blt : ∀ x ∈ bltNames, C.X.mg x = none
  gcd : m.gcd = true → C.X.mg "gcd" = some (.builtin "math.gcd")
  g : C.g = m.g
theorem and2 {a b : Bool} (h : (a && b) = true) : a = true ∧ b = true := by cases a <;> cases b <;> simp_all
section
variable {m : Ms} {C : Ct} {pos : Pos}
theorem RelM.vis (R : RelM m C) {i : Nat} {x : Str} (h : visB m i x = true) : C.X.N[i]? = some x ∧ L2.Vis C.X.env.scope x ∧ (x == ("__debug__" : Str)) = false ∧ (x == ("__classdict__" : Str)) = false := by
  unfold visB okN kin at h
  obtain ⟨h1, h2⟩ := and2 h
  obtain ⟨h1, h3⟩ := and2 h1
  obtain ⟨h4, h5⟩ := and2 h2
  rw [decide_eq_true_eq] at h1
  refine ⟨by rw [R.N]; exact h1, ?_, by simpa using h4, by simpa using h5⟩
  unfold L2.Vis
  rw [R.sc]
  rw [Bool.or_eq_true, Bool.or_eq_true] at h3
  rcases h3 with (h3 | h3) | h3
  · exact .inl (isKd_of h3)
  · exact .inr (.inl (isKd_of h3))
  · exact .inr (.inr (isKd_of h3))
theorem RelM.nm (R : RelM m C) {i : Nat} {x : Str} (h : nmB m i x = true) : NmAt C i x := by
  unfold nmB kin at h
  obtain ⟨h1, h2⟩ := and2 h
  rw [decide_eq_true_eq] at h1
  rw [Bool.or_eq_true] at h2
  rcases h2 with h2 | h2
  · exact ⟨by rw [R.N]; exact h1, .inl (by rw [R.sc]; exact isKd_of h2), .inr (by rw [R.sc]; exact isKd_of h2)⟩
  · obtain ⟨h2, h3⟩ := and2 h2
    exact ⟨by rw [R.N]; exact h1, .inr (by rw [R.sc]; exact isKd_of h2), .inl (by rw [R.fn]; exact h3)⟩
theorem RelM.gl (R : RelM m C) {x : Str} (h : glB m x = true) : L2.Gl C.X x := by
  unfold L2.Gl
  show C.X.env.scope.names.lookup x = _
  rw [R.sc]
  exact isKd_of h
end
def notSl : Expr → Bool
  | .Slice _ _ _ _ => false
  | _ => true
theorem notSl_of {p : Expr} (h : notSl p = true) : ∀ l u s q, p ≠ .Slice l u s q := fun l u s q e => by rw [e] at h; cases h
def notTup : Expr → Bool
  | .Tuple _ _ _ => false
  | _ => true
theorem notTup_of {p : Expr} (h : notTup p = true) : ∀ l u s, p ≠ .Tuple l u s := fun l u s e => by rw [e] at h; cases h
def notSet : Expr → Bool
  | .Set _ _ _ => false
  | _ => true
theorem notSet_of {p : Expr} {env : Env} (h : notSet p = true) : ∀ x, foldedSetIterable p env x = pure x := fun x => by
  unfold foldedSetIterable
  cases p <;> first | rfl | cases h
def notComp : Expr → Bool
  | .ListComp _ _ _ _ => false
  | .SetComp _ _ _ _ => false
  | .DictComp _ _ _ _ _ => false
  | _ => true
theorem notComp_of {p : Expr} {t : Option Expr} {l : Nat} {env : Env} (h : notComp p = true) : swapsWith p t l env = pure false := by
  unfold swapsWith
  cases p <;> first | rfl | cases h
def plainT : Expr → Bool
  | .BinOp _ _ _ _ => true
  | .Call _ _ _ _ => true
  | .Name _ _ => true
  | .Subscript _ _ _ => true
  | .List _ _ => true
  | .Tuple _ _ _ => true
  | .ListComp _ _ _ _ => true
  | _ => false
theorem plainT_of {p : Expr} {env : Env} (h : plainT p = true) : ∀ whole, isTrue p env whole = (do let v ← whole; standAt p.pos; holding [v] (truthy v)) := fun whole => by
  cases p <;> first | rfl | cases h
def eqBop : Bop → Operator → Bool
  | .add, .Add => true | .sub, .Sub => true | .mul, .Mult => true | .fdiv, .FloorDiv => true | .mod, .Mod => true | .pow, .Pow => true
  | _, _ => false
theorem eqBop_of {o : Bop} {p : Operator} (h : eqBop o p = true) : p = bopOf o := by
  cases o <;> cases p <;> first | rfl | cases h
def eqCop : Cop → CmpOp → Bool
  | .eq, .Eq => true | .ne, .NotEq => true | .lt, .Lt => true | .le, .LtE => true | .gt, .Gt => true | .ge, .GtE => true | .isin, .In => true | .notin, .NotIn => true
  | _, _ => false
theorem eqCop_of {o : Cop} {p : CmpOp} (h : eqCop o p = true) : p = copOf o := by
  cases o <;> cases p <;> first | rfl | cases h
def tyB : Ty → Str → Bool
  | .int, x => x == ("int" : Str) | .bool, x => x == ("bool" : Str) | .tuple, x => x == ("tuple" : Str) | .list, x => x == ("list" : Str) | .str, x => x == ("str" : Str)
  | _, _ => false
def biB (m : Ms) : Bi → Str → Bool
  | .len, x => x == ("len" : Str) | .abs, x => x == ("abs" : Str) | .int, x => x == ("int" : Str) | .tuple, x => x == ("tuple" : Str) | .list, x => x == ("list" : Str) | .sum, x => x == ("sum" : Str)
  | .max, x => x == ("max" : Str) | .min, x => x == ("min" : Str) | .repr, x => x == ("repr" : Str) && m.g | .gcd, x => x == ("gcd" : Str) && m.gcd
  | .str, _ => false
theorem RelM.bi {m : Ms} {C : Ct} (R : RelM m C) {b : Bi} {x : Str} (h : biB m b x = true) (g : glB m x = true) : BiAt C b x := by
  have gl := R.gl g
  have mm : ∀ y, y ∈ bltNames → C.X.mg y = none := fun y hy => R.blt y hy
  cases b with
  | len => cases eq_of_beq h; exact .len gl (mm _ (by simp [bltNames]))
  | abs => cases eq_of_beq h; exact .abs gl (mm _ (by simp [bltNames]))
  | int => cases eq_of_beq h; exact .int gl (mm _ (by simp [bltNames]))
  | tuple => cases eq_of_beq h; exact .tuple gl (mm _ (by simp [bltNames]))
  | list => cases eq_of_beq h; exact .list gl (mm _ (by simp [bltNames]))
  | sum => cases eq_of_beq h; exact .sum gl (mm _ (by simp [bltNames]))
  | max => cases eq_of_beq h; exact .max gl (mm _ (by simp [bltNames]))
  | min => cases eq_of_beq h; exact .min gl (mm _ (by simp [bltNames]))
  | repr => obtain ⟨h1, h2⟩ := and2 h; cases eq_of_beq h1; exact .repr (R.g.trans h2) gl (mm _ (by simp [bltNames]))
  | gcd => obtain ⟨h1, h2⟩ := and2 h; cases eq_of_beq h1; exact .gcd gl (R.gcd h2)
  | str => cases h
theorem RelM.ty {m : Ms} {C : Ct} (R : RelM m C) {t : Ty} {x : Str} (h : tyB t x = true) (g : glB m x = true) : TyAt C t x := by
  have gl := R.gl g
  have mm : ∀ y, y ∈ bltNames → C.X.mg y = none := fun y hy => R.blt y hy
  cases t with
  | int => cases eq_of_beq h; exact .int gl (mm _ (by simp [bltNames]))
  | bool => cases eq_of_beq h; exact .bool gl (mm _ (by simp [bltNames]))
  | tuple => cases eq_of_beq h; exact .tuple gl (mm _ (by simp [bltNames]))
  | list => cases eq_of_beq h; exact .list gl (mm _ (by simp [bltNames]))
  | str => cases eq_of_beq h; exact .str gl (mm _ (by simp [bltNames]))
  | cls _ => cases h
/-- a display's names -/
def mNms (m : Ms) : List Nat → List Expr → Bool
  | [], [] => true
  | i :: is, .Name x _ :: es => nmB m i x && mNms m is es
  | _, _ => false
theorem mNms_ok {m : Ms} {C : Ct} (R : RelM m C) : ∀ {is : List Nat} {es : List Expr}, mNms m is es = true → NmsAt C is es
  | [], [], _ => .nil
  | i :: is, .Name x _ :: es, h => .cons (R.nm (and2 h).1) (mNms_ok R (and2 h).2)
def mTg (m : Ms) : Tg → Expr → Bool
  | .nm i, .Name x _ => nmB m i x
  | .tp is, .Tuple es _ _ => mNms m is es
  | _, _ => false
theorem mTg_ok {m : Ms} {C : Ct} (R : RelM m C) {tg : Tg} {p : Expr} (h : mTg m tg p = true) : SG C tg p := by
  unfold mTg at h
  split at h
  · exact sg_nm R.ok.toCtK (R.nm h)
  · exact sg_tp R.ok.toCtK (mNms_ok R h)
  · cases h
def tgIn (ws : List Nat) : Tg → Bool
  | .nm i => ws.contains i
  | .tp is => is.all ws.contains
theorem tgIn_ok {ws : List Nat} {tg : Tg} (h : tgIn ws tg = true) : ∀ j, inTg j tg = true → j ∈ ws := fun j hj => by
  cases tg with
  | nm i =>
    have : j = i := eq_of_beq hj
    subst this
    exact List.contains_iff_mem.mp h
  | tp is =>
    have := List.contains_iff_mem.mp hj
    exact List.contains_iff_mem.mp (List.all_eq_true.mp h j this)
def ownOf (m : Ms) (ws : List Nat) : List (Str × Nat) := ws.map fun i => (m.N.getD i "", i)
theorem ownOf_snd {m : Ms} : ∀ {ws : List Nat}, (ownOf m ws).map (·.2) = ws
  | [] => rfl
  | w :: ws => by show w :: _ = _; exact congrArg _ (ownOf_snd (ws := ws))
/-- inside a comprehension -/
def Ms.blk (m : Ms) (scope : Scope) : Ms := { m with sc := L2.relS scope m.sc, fnb := fun x => scope.names.lookup x == some .cell }
theorem RelM.blk {m : Ms} {C : Ct} (R : RelM m C) (s : Shared) (H : Hp) (scope : Scope) (cl : List (Str × Addr)) (a : Addr) (fp : List Addr) : RelM (m.blk scope) (C.blk s H scope cl a fp) where
  ok := { toCtK := R.ok.toCtK.blk s H scope cl a fp, tk := fun u s' h => by obtain ⟨_, _, _, _, _, _, _, _, _, _, _, _, _, _, _, _, h⟩ := h; exact h, po := PassesOwn.never }
  N := R.N
  sc := by
    show L2.relS scope C.X.env.scope = L2.relS scope m.sc
    rw [R.sc]
  fn := fun x => rfl
  fns := R.fns
  blt := R.blt
  gcd := R.gcd
  g := R.g
end PL

namespace PL
open PySem PyProof.Rows
open L2 (V Hp HO SqL SqT upd Rd Cx PE PT PW PA PS PSs PG PGs PI PO Ends VK XK WX TE TT TA TS TO TG TGs OpR R2 CallR SlR)
def mC : PV → Expr → Bool
  | .int i, .Constant (.int j) _ _ => i == j
  | .bl b, .Constant (.bool c) _ _ => b == c
  | .non, .Constant .none _ _ => true
  | .str x, .Constant (.str y) _ _ => x == y
  | _, _ => false
def mN (m : Ms) (i : Nat) : Expr → Bool
  | .Name x _ => visB m i x
  | _ => false
def isAO : Ex → Bool
  | .andd _ _ => true
  | .orr _ _ => true
  | _ => false
def isNil : Exs → Bool
  | .nil => true
  | _ => false
def isV : Ex → Bool
  | .v _ => true
  | _ => false
mutual
def mX (m : Ms) (t : Bool) : Ex → Expr → Bool
  | .c v, p => !t && mC v p
  | .v i, p => !t && mN m i p
  | .f i, p => !t && mN m i p
  | .bin o a b, p => !t && (match p with
    | .BinOp pa o' pb _ => eqBop o o' && (mX m false a pa && mX m false b pb)
    | _ => false)
  | .neg a, p => !t && (match p with
    | .UnaryOp .USub pa _ => mX m false a pa
    | _ => false)
  | .cmp o a b, p => (match p with
    | .Compare pa [o'] [pb] _ => eqCop o o' && (!behindInMarks o' pb && (mX m false a pa && mX m false b pb))
    | _ => false)
  | .isn k a, p => (match p with
    | .Compare pa [.Is] [.Constant .none _ _] _ => k && mX m false a pa
    | .Compare pa [.IsNot] [.Constant .none _ _] _ => !k && mX m false a pa
    | _ => false)
  | .isi a ts, p => !t && (match ts, p with
    | [ty], .Call (.Name f _) [pa, .Name x _] [] _ => (f == ("isinstance" : Str)) && (glB m f && (tyB ty x && (glB m x && (notStar pa && mX m false a pa))))
    | _, _ => false)
  | .isx _ _, _ => false
  | .attx _ _, _ => false
  | .nott a, p => (match p with
    | .UnaryOp .Not pa _ => mX m t a pa
    | _ => false)
  | .truth a, p => t && (plainT p && mX m false a p)
  | .andd a b, p => (match p with
    | .BoolOp .And [pa, pb] _ => (t || !isPath b) && (mX m t a pa && mX m t b pb)
    | .BoolOp .And (pa :: pb :: pc :: r) pos => (isAO b && !isPath b) && (mX m t a pa && mX m t b (.BoolOp .And (pb :: pc :: r) pos))
    | _ => false)
  | .orr a b, p => (match p with
    | .BoolOp .Or [pa, pb] _ => (t || !isPath b) && (mX m t a pa && mX m t b pb)
    | .BoolOp .Or (pa :: pb :: pc :: r) pos => (isAO b && !isPath b) && (mX m t a pa && mX m t b (.BoolOp .Or (pb :: pc :: r) pos))
    | _ => false)
  | .ife c a b, p => !t && (match p with
    | .IfExp pc pa pb _ => mX m true c pc && (mX m false a pa && mX m false b pb)
    | _ => false)
  | .tup es, p => !t && (match p with
    | .Tuple pes _ _ => mEs m es pes
    | _ => false)
  | .lst es, p => !t && (match p with
    | .List pes _ => mEs m es pes
    | _ => false)
  | .keep e, p => !t && mX m false e p
  | .idx a i, p => !t && (match p with
    | .Subscript pa pi _ => notSl pi && (mX m false a pa && mX m false i pi)
    | _ => false)
  | .sl a lo hi, p => !t && (match p with
    | .Subscript pa (.Slice pl ph none _) _ => mX m false a pa && ((match pl with
        | none => isNonE lo
        | some q => !isNonE lo && mX m false lo q) && (match ph with
        | none => isNonE hi
        | some q => !isNonE hi && mX m false hi q))
    | _ => false)
  | .rev a, p => !t && (match p with
    | .Subscript pa (.Slice none none (some (.UnaryOp .USub (.Constant (.int 1) _ _) _)) _) _ => mX m false a pa
    | _ => false)
  | .call f es, p => !t && (match p with
    | .Call (.Name x _) pes [] _ => glB m x && (m.fns.contains (x, f, elen es) && (pes.all notStar && mAs m es pes))
    | _ => false)
  | .bi b es, p => !t && (match p with
    | .Call (.Name x _) (pe :: pes) [] _ => glB m x && (biB m b x && ((pe :: pes).all notStar && mBs m es (pe :: pes)))
    | _ => false)
  | .comp tg it cnd el ws, p => !t && (match p with
    | .ListComp pel [⟨ptg, pit, ifs, 0⟩] scope _ => (notSet pit && (L2.blkC m.N m.sc scope (ownOf m ws) && (tgIn ws tg && mTg (m.blk scope) tg ptg))) && (mI m it ptg pit && ((match cnd, ifs with
        | .nil, [] => true
        | .cons c r, [pc] => isNil r && mX (m.blk scope) true c pc
        | _, _ => false) && mX (m.blk scope) false el pel))
    | _ => false)
def mEs (m : Ms) : Exs → List Expr → Bool
  | .nil, pes => pes.isEmpty
  | .cons e es, pes => (match pes with
    | pe :: pes => notStar pe && (mX m false e pe && mEs m es pes)
    | [] => false)
def mAs (m : Ms) : Exs → List Expr → Bool
  | .nil, pes => pes.isEmpty
  | .cons e es, pes => (match pes with
    | pe :: pes => notStar pe && (mX m false e pe && mAs m es pes)
    | [] => false)
def mBs (m : Ms) : Exs → List Expr → Bool
  | .nil, pes => pes.isEmpty
  | .cons e es, pes => (match pes with
    | pe :: pes => notStar pe && (mX m false e pe && mBs m es pes)
    | [] => false)
def mI (m : Ms) : It → Expr → Expr → Bool
  | .ex e, _, p => mX m false e p
  | .r1 a, _, p => (match p with
    | .Call (.Name f _) [pa] [] _ => (f == ("range" : Str)) && (glB m f && (notStar pa && mX m false a pa))
    | _ => false)
  | .r2 a b, _, p => (match p with
    | .Call (.Name f _) [pa, pb] [] _ => (f == ("range" : Str)) && (glB m f && ((notStar pa && notStar pb) && (mX m false a pa && mX m false b pb)))
    | _ => false)
  | .r3 _ _ _, _, _ => false
  | .zip a b, g, p => (match g, p with
    | .Tuple _ _ _, .Call (.Name f _) [pa, pb] [] _ => (f == ("zip" : Str)) && (glB m f && ((notStar pa && notStar pb) && (mX m false a pa && mX m false b pb)))
    | _, _ => false)
  | .enum a, g, p => (match g, p with
    | .Tuple _ _ _, .Call (.Name f _) [pa] [] _ => (f == ("enumerate" : Str)) && (glB m f && (notStar pa && mX m false a pa))
    | _, _ => false)
  | .rev a, _, p => (match p with
    | .Call (.Name f _) [pa] [] _ => (f == ("reversed" : Str)) && (glB m f && (notStar pa && mX m false a pa))
    | _ => false)
end
/-- what fits -/
def Fit (C : Ct) (t : Bool) (e : Ex) (p : Expr) : Prop := (t = false → SE C e p) ∧ (t = true → SB C e p ∧ (isAO e = true → SW C e p))
theorem Fit.e {C : Ct} {e : Ex} {p : Expr} (h : Fit C false e p) : SE C e p := h.1 rfl
theorem Fit.b {C : Ct} {e : Ex} {p : Expr} (h : Fit C true e p) : SB C e p := (h.2 rfl).1
theorem Fit.ofE {C : Ct} {t : Bool} {e : Ex} {p : Expr} (ht : (!t) = true) (h : SE C e p) : Fit C t e p := ⟨fun _ => h, fun z => by rw [z] at ht; cases ht⟩
theorem SJ.of {C : Ct} {e : Ex} {p : Expr} {m : Ms} (R : RelM m C) (h : mX m false e p = true) (he : SE C e p) : SJ C e p := by
  by_cases hv : isV e = true
  · cases e with
    | v i =>
      unfold mX mN at h
      cases p with
      | Name x q =>
        obtain ⟨h1, h2, h3, h4⟩ := R.vis (i := i) (x := x) (by simpa using h)
        exact sj_v h1 h2 h3 h4
      | _ => simp at h
    | _ => cases hv
  · exact sj_val R.ok.toCtK he fun i e' => by subst e'; exact hv rfl
theorem se_callX {m : Ms} {C : Ct} (ok : CtF C) {es : Exs} {pes : List Expr} {f : Nat} {x : Str} {p pos : Pos} (fa : FnAt C f x (elen es)) (ka : SAs C es pes) (h3 : pes.all notStar = true) (h4 : mAs m es pes = true) : SE C (.call f es) (.Call (.Name x p) pes [] pos) := by
  cases es with
  | nil =>
    unfold mAs at h4
    rw [List.isEmpty_iff] at h4
    subst h4
    exact se_call0 ok fa
  | cons e es =>
    cases pes with
    | nil => unfold mAs at h4; cases h4
    | cons pe pes => exact se_call ok fa ka h3 rfl
theorem comp_fit {m : Ms} {C : Ct} (R : RelM m C) {tg : Tg} {it : It} {cnd : Exs} {el : Ex} {ws : List Nat} {pel ptg pit : Expr} {ifs : List Expr} {scope : Scope} {pos : Pos}
    (h1 : (notSet pit && (L2.blkC m.N m.sc scope (ownOf m ws) && (tgIn ws tg && mTg (m.blk scope) tg ptg))) = true) (hi : SI C it ptg pit) (hc : ∀ s H cl a fp, Cnd (C.blk s H scope cl a fp) cnd ifs) (he : ∀ s H cl a fp, SE (C.blk s H scope cl a fp) el pel) :
    SE C (.comp tg it cnd el ws) (.ListComp pel [⟨ptg, pit, ifs, 0⟩] scope pos) := by
  obtain ⟨h2, h1⟩ := and2 h1
  obtain ⟨h3, h1⟩ := and2 h1
  obtain ⟨h4, h5⟩ := and2 h1
  have bo : L2.BlkOk C.X.N C.X.env.scope scope (ownOf m ws) := by
    rw [R.N, R.sc]; exact L2.blkOk_by h3
  have key := se_comp (pos := pos) (own := ownOf m ws) (cnd := cnd) (el := el) R.ok.toCtK hi ⟨bo, fun j hj => by rw [ownOf_snd]; exact tgIn_ok h4 j hj, fun s H cl a fp => mTg_ok (R.blk s H scope cl a fp) h5, hc, he⟩ (notSet_of h2)
  rw [ownOf_snd] at key
  exact key
mutual
theorem mX_ok {m : Ms} {C : Ct} (R : RelM m C) (t : Bool) : ∀ (e : Ex) (p : Expr), mX m t e p = true → Fit C t e p
  | .c v, p, h => by
    unfold mX at h
    have ht := (and2 h).1; replace h := (and2 h).2
    refine .ofE ht ?_
    unfold mC at h
    split at h
    · rw [beq_iff_eq] at h; subst h; exact se_int
    · rw [beq_iff_eq] at h; subst h; exact se_bl
    · exact se_non
    · rw [beq_iff_eq] at h; subst h; exact se_str
    · cases h
  | .v i, p, h => by
    unfold mX mN at h
    have ht := (and2 h).1; replace h := (and2 h).2
    refine .ofE ht ?_
    split at h
    · obtain ⟨h1, h2, h3, h4⟩ := R.vis h; exact se_v h1 h2 h3 h4
    · cases h
  | .f i, p, h => by
    unfold mX mN at h
    have ht := (and2 h).1; replace h := (and2 h).2
    refine .ofE ht ?_
    split at h
    · obtain ⟨h1, h2, h3, h4⟩ := R.vis h; exact se_f R.ok.toCtOk h1 h2 h3 h4
    · cases h
  | .bin o a b, p, h => by
    unfold mX at h
    have ht := (and2 h).1; replace h := (and2 h).2
    refine .ofE ht ?_
    split at h
    · have h1 := (and2 h).1; replace h := (and2 h).2
      obtain ⟨h2, h3⟩ := and2 h
      cases eqBop_of h1
      exact se_bin R.ok.toCtK o (mX_ok R false a _ h2).e (mX_ok R false b _ h3).e
    · cases h
  | .neg a, p, h => by
    unfold mX at h
    have ht := (and2 h).1; replace h := (and2 h).2
    refine .ofE ht ?_
    split at h
    · exact se_neg R.ok.toCtK (mX_ok R false a _ h).e
    · cases h
  | .cmp o a b, p, h => by
    unfold mX at h
    split at h
    · have h1 := (and2 h).1; replace h := (and2 h).2
      have h0 := (and2 h).1; replace h := (and2 h).2
      obtain ⟨h2, h3⟩ := and2 h
      cases eqCop_of h1
      have ha := (mX_ok R false a _ h2).e
      have hb := (mX_ok R false b _ h3).e
      simp only [Bool.not_eq_true'] at h0
      exact ⟨fun _ => se_cmp R.ok.toCtK o ha hb h0, fun _ => ⟨sb_cmp R.ok.toCtK o ha hb h0, fun z => nomatch z⟩⟩
    · cases h
  | .isn k a, p, h => by
    unfold mX at h
    split at h
    · have h1 := (and2 h).1; replace h := (and2 h).2
      subst h1
      have ha := (mX_ok R false a _ h).e
      exact ⟨fun _ => se_is R.ok.toCtK ha, fun _ => ⟨sb_is R.ok.toCtK ha, fun z => nomatch z⟩⟩
    · have h1 := (and2 h).1; replace h := (and2 h).2
      have h1 : k = false := by simpa using h1
      subst h1
      have ha := (mX_ok R false a _ h).e
      exact ⟨fun _ => se_isnot R.ok.toCtK ha, fun _ => ⟨sb_isnot R.ok.toCtK ha, fun z => nomatch z⟩⟩
    · cases h
  | .isi a ts, p, h => by
    unfold mX at h
    have ht := (and2 h).1; replace h := (and2 h).2
    refine .ofE ht ?_
    split at h
    · have h1 := (and2 h).1; replace h := (and2 h).2
      have h2 := (and2 h).1; replace h := (and2 h).2
      have h3 := (and2 h).1; replace h := (and2 h).2
      have h4 := (and2 h).1; replace h := (and2 h).2
      have h5 := (and2 h).1; replace h := (and2 h).2
      cases eq_of_beq h1
      exact se_isi R.ok.toCtK (R.gl h2) (R.blt _ (by simp [bltNames])) (R.ty h3 h4) h5 (mX_ok R false a _ h).e
    · cases h
  | .isx _ _, p, h => by unfold mX at h; cases h
  | .attx _ _, p, h => by unfold mX at h; cases h
  | .nott a, p, h => by
    unfold mX at h
    split at h
    · have k := mX_ok R t a _ h
      refine ⟨fun ht => ?_, fun ht => ⟨?_, fun z => nomatch z⟩⟩
      · subst ht; exact se_notV R.ok.toCtK k.e
      · subst ht; exact sb_nott k.b
    · cases h
  | .truth a, p, h => by
    unfold mX at h
    have ht := (and2 h).1; replace h := (and2 h).2
    have h1 := (and2 h).1; replace h := (and2 h).2
    have ha := (mX_ok R false a _ h).e
    exact ⟨fun z => (by rw [z] at ht; cases ht), fun _ => ⟨sb_truth R.ok.toCtK ha (plainT_of h1), fun z => nomatch z⟩⟩
  | .andd a b, p, h => by
    unfold mX at h
    split at h
    · have h1 := (and2 h).1; replace h := (and2 h).2
      obtain ⟨h2, h3⟩ := and2 h
      have ka := mX_ok R t a _ h2
      have kb := mX_ok R t b _ h3
      refine ⟨fun ht => ?_, fun ht => ?_⟩
      · subst ht
        exact se_andV R.ok.toCtK ka.e (se_one kb.e) (by simpa using h1)
      · subst ht
        have w := sw_and (pos := by assumption) ka.b (sw_and1 kb.b)
        exact ⟨w.sb, fun _ => w⟩
    · have h1 := (and2 h).1; replace h := (and2 h).2
      obtain ⟨h2, h3⟩ := and2 h
      have h0 := (and2 h1).1; replace h1 := (and2 h1).2
      have ka := mX_ok R t a _ h2
      have kb := mX_ok R t b _ h3
      refine ⟨fun ht => ?_, fun ht => ?_⟩
      · subst ht
        exact se_andV R.ok.toCtK ka.e kb.e (by simpa using h1)
      · subst ht
        have w := sw_and ka.b ((kb.2 rfl).2 h0)
        exact ⟨w.sb, fun _ => w⟩
    · cases h
  | .orr a b, p, h => by
    unfold mX at h
    split at h
    · have h1 := (and2 h).1; replace h := (and2 h).2
      obtain ⟨h2, h3⟩ := and2 h
      have ka := mX_ok R t a _ h2
      have kb := mX_ok R t b _ h3
      refine ⟨fun ht => ?_, fun ht => ?_⟩
      · subst ht
        exact se_orV R.ok.toCtK ka.e (se_one kb.e) (by simpa using h1)
      · subst ht
        have w := sw_or (pos := by assumption) ka.b (sw_or1 kb.b)
        exact ⟨w.sb, fun _ => w⟩
    · have h1 := (and2 h).1; replace h := (and2 h).2
      obtain ⟨h2, h3⟩ := and2 h
      have h0 := (and2 h1).1; replace h1 := (and2 h1).2
      have ka := mX_ok R t a _ h2
      have kb := mX_ok R t b _ h3
      refine ⟨fun ht => ?_, fun ht => ?_⟩
      · subst ht
        exact se_orV R.ok.toCtK ka.e kb.e (by simpa using h1)
      · subst ht
        have w := sw_or ka.b ((kb.2 rfl).2 h0)
        exact ⟨w.sb, fun _ => w⟩
    · cases h
  | .ife c a b, p, h => by
    unfold mX at h
    have ht := (and2 h).1; replace h := (and2 h).2
    refine .ofE ht ?_
    split at h
    · have h1 := (and2 h).1; replace h := (and2 h).2
      obtain ⟨h2, h3⟩ := and2 h
      exact se_ife R.ok.toCtK (mX_ok R true c _ h1).b (mX_ok R false a _ h2).e (mX_ok R false b _ h3).e
    · cases h
  | .tup es, p, h => by
    unfold mX at h
    have ht := (and2 h).1; replace h := (and2 h).2
    refine .ofE ht ?_
    split at h
    · exact se_tup R.ok.toCtK (mEs_ok R es _ h)
    · cases h
  | .lst es, p, h => by
    unfold mX at h
    have ht := (and2 h).1; replace h := (and2 h).2
    refine .ofE ht ?_
    split at h
    · exact se_lst R.ok.toCtK (mEs_ok R es _ h)
    · cases h
  | .keep e, p, h => by
    unfold mX at h
    have ht := (and2 h).1; replace h := (and2 h).2
    exact .ofE ht (se_keep (mX_ok R false e _ h).e)
  | .idx a i, p, h => by
    unfold mX at h
    have ht := (and2 h).1; replace h := (and2 h).2
    refine .ofE ht ?_
    split at h
    · have h1 := (and2 h).1; replace h := (and2 h).2
      obtain ⟨h2, h3⟩ := and2 h
      exact se_idx R.ok.toCtK (mX_ok R false a _ h2).e (mX_ok R false i _ h3).e (notSl_of h1)
    · cases h
  | .sl a lo hi, p, h => by
    unfold mX at h
    have ht := (and2 h).1; replace h := (and2 h).2
    refine .ofE ht ?_
    split at h
    · have h1 := (and2 h).1; replace h := (and2 h).2
      obtain ⟨h2, h3⟩ := and2 h
      refine se_sl R.ok.toCtK (mX_ok R false a _ h1).e ?_ ?_
      · split at h2
        · have : lo = .c .non := by
            unfold isNonE at h2
            split at h2
            · rfl
            · cases h2
          subst this
          exact so_none
        · obtain ⟨h4, h5⟩ := and2 h2
          exact so_some (mX_ok R false lo _ h5).e (by simpa using h4)
      · split at h3
        · have : hi = .c .non := by
            unfold isNonE at h3
            split at h3
            · rfl
            · cases h3
          subst this
          exact so_none
        · obtain ⟨h4, h5⟩ := and2 h3
          exact so_some (mX_ok R false hi _ h5).e (by simpa using h4)
    · cases h
  | .rev a, p, h => by
    unfold mX at h
    have ht := (and2 h).1; replace h := (and2 h).2
    refine .ofE ht ?_
    split at h
    · exact se_rev R.ok.toCtK (mX_ok R false a _ h).e
    · cases h
  | .call f es, p, h => by
    unfold mX at h
    have ht := (and2 h).1; replace h := (and2 h).2
    refine .ofE ht ?_
    split at h
    · have h1 := (and2 h).1; replace h := (and2 h).2
      have h2 := (and2 h).1; replace h := (and2 h).2
      obtain ⟨h3, h4⟩ := and2 h
      obtain ⟨k1, k2⟩ := R.fns _ _ _ (List.contains_iff_mem.mp h2)
      have fa : FnAt C f _ (elen es) := ⟨R.gl h1, k1, k2⟩
      have ka := mAs_ok R es _ h4
      exact se_callX R.ok fa ka h3 h4
    · cases h
  | .bi b es, p, h => by
    unfold mX at h
    have ht := (and2 h).1; replace h := (and2 h).2
    refine .ofE ht ?_
    split at h
    · have h1 := (and2 h).1; replace h := (and2 h).2
      have h2 := (and2 h).1; replace h := (and2 h).2
      obtain ⟨h3, h4⟩ := and2 h
      exact se_bi R.ok.toCtK (R.bi h2 h1) (mBs_ok R es _ h4) h3
    · cases h
  | .comp tg it .nil el ws, p, h => by
    unfold mX at h
    have ht := (and2 h).1
    replace h := (and2 h).2
    refine .ofE ht ?_
    split at h
    · rename_i pel ptg pit ifs scope pos
      have h1 := (and2 h).1
      replace h := (and2 h).2
      have h6 := (and2 h).1
      replace h := (and2 h).2
      have h7 := (and2 h).1
      have h8 := (and2 h).2
      cases ifs with
      | cons _ _ => cases h7
      | nil => exact comp_fit R h1 (mI_ok R it _ _ h6) (fun s H cl a fp => .nil) fun s H cl a fp => (mX_ok (R.blk s H _ cl a fp) false el _ h8).e
    · cases h
  | .comp tg it (.cons c .nil) el ws, p, h => by
    unfold mX at h
    have ht := (and2 h).1
    replace h := (and2 h).2
    refine .ofE ht ?_
    split at h
    · rename_i pel ptg pit ifs scope pos
      have h1 := (and2 h).1
      replace h := (and2 h).2
      have h6 := (and2 h).1
      replace h := (and2 h).2
      have h7 := (and2 h).1
      have h8 := (and2 h).2
      cases ifs with
      | nil => cases h7
      | cons pc r =>
        cases r with
        | cons _ _ => cases h7
        | nil => exact comp_fit R h1 (mI_ok R it _ _ h6) (fun s H cl a fp => .one (mX_ok (R.blk s H _ cl a fp) true c _ (and2 h7).2).b) fun s H cl a fp => (mX_ok (R.blk s H _ cl a fp) false el _ h8).e
    · cases h
  | .comp tg it (.cons c (.cons c2 r)) el ws, p, h => by
    unfold mX at h
    have ht := (and2 h).1
    replace h := (and2 h).2
    split at h
    · rename_i pel ptg pit ifs scope pos
      have h1 := (and2 h).1
      replace h := (and2 h).2
      have h6 := (and2 h).1
      replace h := (and2 h).2
      have h7 := (and2 h).1
      have h8 := (and2 h).2
      cases ifs with
      | nil => cases h7
      | cons pc r =>
        cases r with
        | cons _ _ => cases h7
        | nil => cases (and2 h7).1
    · cases h
theorem mEs_ok {m : Ms} {C : Ct} (R : RelM m C) : ∀ (es : Exs) (ps : List Expr), mEs m es ps = true → SEs C es ps
  | .nil, ps, h => by
    unfold mEs at h
    rw [List.isEmpty_iff] at h
    subst h
    exact ses_nil
  | .cons e es, ps, h => by
    unfold mEs at h
    split at h
    · have h1 := (and2 h).1; replace h := (and2 h).2
      obtain ⟨h2, h3⟩ := and2 h
      exact ses_cons R.ok.toCtK h1 (mX_ok R false e _ h2).e (mEs_ok R es _ h3)
    · cases h
theorem mAs_ok {m : Ms} {C : Ct} (R : RelM m C) : ∀ (es : Exs) (ps : List Expr), mAs m es ps = true → SAs C es ps
  | .nil, ps, h => by
    unfold mAs at h
    rw [List.isEmpty_iff] at h
    subst h
    exact sas_nil
  | .cons e es, ps, h => by
    unfold mAs at h
    split at h
    · have h1 := (and2 h).1; replace h := (and2 h).2
      obtain ⟨h2, h3⟩ := and2 h
      exact sas_cons R.ok.toCtK h1 (mX_ok R false e _ h2).e (mAs_ok R es _ h3)
    · cases h
theorem mBs_ok {m : Ms} {C : Ct} (R : RelM m C) : ∀ (es : Exs) (ps : List Expr), mBs m es ps = true → SBs C es ps
  | .nil, ps, h => by
    unfold mBs at h
    rw [List.isEmpty_iff] at h
    subst h
    exact sbs_nil
  | .cons e es, ps, h => by
    unfold mBs at h
    split at h
    · have h1 := (and2 h).1; replace h := (and2 h).2
      obtain ⟨h2, h3⟩ := and2 h
      exact sbs_cons R.ok.toCtK h1 (mX_ok R false e _ h2).e (mBs_ok R es _ h3)
    · cases h
theorem mI_ok {m : Ms} {C : Ct} (R : RelM m C) : ∀ (it : It) (g p : Expr), mI m it g p = true → SI C it g p
  | .ex e, g, p, h => by
    unfold mI at h
    exact si_ex (SJ.of R h (mX_ok R false e _ h).e)
  | .r1 a, g, p, h => by
    unfold mI at h
    split at h
    · have h1 := (and2 h).1; replace h := (and2 h).2
      have h2 := (and2 h).1; replace h := (and2 h).2
      have h3 := (and2 h).1; replace h := (and2 h).2
      cases eq_of_beq h1
      exact si_r1 (R.gl h2) (R.blt _ (by simp [bltNames])) h3 (mX_ok R false a _ h).e
    · cases h
  | .r2 a b, g, p, h => by
    unfold mI at h
    split at h
    · have h1 := (and2 h).1; replace h := (and2 h).2
      have h2 := (and2 h).1; replace h := (and2 h).2
      have h3 := (and2 h).1; replace h := (and2 h).2
      obtain ⟨h4, h5⟩ := and2 h
      obtain ⟨h6, h7⟩ := and2 h3
      cases eq_of_beq h1
      exact si_r2 (R.gl h2) (R.blt _ (by simp [bltNames])) h6 h7 (mX_ok R false a _ h4).e (mX_ok R false b _ h5).e
    · cases h
  | .r3 _ _ _, g, p, h => by unfold mI at h; cases h
  | .zip a b, g, p, h => by
    unfold mI at h
    split at h
    · have h1 := (and2 h).1; replace h := (and2 h).2
      have h2 := (and2 h).1; replace h := (and2 h).2
      have h3 := (and2 h).1; replace h := (and2 h).2
      obtain ⟨h4, h5⟩ := and2 h
      obtain ⟨h6, h7⟩ := and2 h3
      cases eq_of_beq h1
      exact si_zip (R.gl h2) (R.blt _ (by simp [bltNames])) h6 h7 (SJ.of R h4 (mX_ok R false a _ h4).e) (SJ.of R h5 (mX_ok R false b _ h5).e)
    · cases h
  | .enum a, g, p, h => by
    unfold mI at h
    split at h
    · have h1 := (and2 h).1; replace h := (and2 h).2
      have h2 := (and2 h).1; replace h := (and2 h).2
      have h3 := (and2 h).1; replace h := (and2 h).2
      cases eq_of_beq h1
      exact si_enum (R.gl h2) (R.blt _ (by simp [bltNames])) h3 (SJ.of R h (mX_ok R false a _ h).e)
    · cases h
  | .rev a, g, p, h => by
    unfold mI at h
    split at h
    · have h1 := (and2 h).1; replace h := (and2 h).2
      have h2 := (and2 h).1; replace h := (and2 h).2
      have h3 := (and2 h).1; replace h := (and2 h).2
      cases eq_of_beq h1
      exact si_rev (R.gl h2) (R.blt _ (by simp [bltNames])) h3 (SJ.of R h (mX_ok R false a _ h).e)
    · cases h
end
end PL

namespace PL
open PySem PyProof.Rows
open L2 (V Hp HO SqL SqT upd Rd Cx PE PT PW PA PS PSs PG PGs PI PO Ends VK XK WX TE TT TA TS TO TG TGs OpR R2 CallR SlR)
def isFun : ScopeKind → Bool
  | .function => true
  | _ => false
theorem isFun_of {k : ScopeKind} (h : isFun k = true) : k = .function := by cases k <;> first | rfl | cases h
/-- does a comprehension's list go to the name at once -/
def swB (m : Ms) (y : Str) (py pos : Pos) (scope : Scope) : Bool := (kin m y == some .local) && (py.line == pos.line) && !(scope.names.any fun (n, k) => n == y && (k == .local || k == .cell))
theorem swaps_comp {env : Env} {m : Ms} (hs : env.scope = m.sc) (hk : m.sc.kind = .function) {elt : Expr} {gs : List Comprehension} {scope : Scope} {pos py : Pos} {y : Str} {l : Nat} :
    swapsWith (.ListComp elt gs scope pos) (some (.Name y py)) l env = pure (swB m y py pos scope) := by
  have hb : env.blockKind = .function := by unfold Env.blockKind; rw [hs, hk]; rfl
  have hy : env.kindOf y = kin m y := by show env.scope.names.lookup y = _; rw [hs]; rfl
  unfold swapsWith swB
  simp only [hb, hy, Expr.pos]
  rfl
theorem stores_par {env : Env} {m : Ms} (hs : env.scope = m.sc) (hk : m.sc.kind = .function) {x y : Str} {px py q q2 : Pos} {kt k2 : Nat} {pa pb : Expr} (hx : kin m x = some .local) (hy : kin m y = some .local) (hl : (py.line == px.line) = true) (hxy : (y == x) = false)
    (ha : notStar pa = true) (hb' : notStar pb = true) (hf : [pa, pb].all (foldedForSure 8) = false) (hc : [pa, pb].all (constantsAlone 8) = false) :
    swappedStores [.Tuple [.Name x px, .Name y py] kt q] (.Tuple [pa, pb] k2 q2) env = pure (some [x, y]) := by
  have hb : env.blockKind = .function := by unfold Env.blockKind; rw [hs, hk]; rfl
  have hx : env.kindOf x = some .local := by show env.scope.names.lookup x = _; rw [hs]; exact hx
  have hy : env.kindOf y = some .local := by show env.scope.names.lookup y = _; rw [hs]; exact hy
  have st : (([pa, pb].any fun x => match x with | .Starred _ _ => true | _ => false)) = false := by
    cases pa <;> cases pb <;> first | rfl | (cases ha; done) | (cases hb'; done)
  have er : [x, y].eraseDups.length = 2 := by
    simp [List.eraseDups_cons, List.filter, hxy]
  unfold swappedStores
  simp only [hb, hx, hy, Expr.pos, hl, er, List.length_cons, List.length_nil, List.filterMap_cons, List.filterMap_nil, List.head?, Option.map, Option.getD, beq_self_eq_true]
  refine (if_neg (by decide)).trans ?_
  refine (if_neg (fun z => absurd (st.symm.trans z) (by decide))).trans ?_
  refine (if_neg (fun z => ?_)).trans ?_
  · have z : ((2 != 2) || ([x, y].eraseDups.length != 2)) = true := z
    rw [er] at z
    exact absurd z (by decide)
  refine (if_neg (fun z => absurd (hf.symm.trans z) (by decide))).trans ?_
  refine (if_neg (fun z => absurd (hc.symm.trans z) (by decide))).trans ?_
  rfl
def mP (m : Ms) : Pl → Expr → Bool
  | .v i, .Name x _ => visB m i x
  | .idx p e, .Subscript pp pe _ => notSl pe && (mP m p pp && mX m false e pe)
  | _, _ => false
theorem mP_ok {m : Ms} {C : Ct} (R : RelM m C) : ∀ {p : Pl} {pe : Expr}, mP m p pe = true → SPl C p pe ∧ notStar pe = true ∧ ∀ a b c d, pe ≠ .Call a b c d
  | .v i, .Name x q, h => by
    obtain ⟨h1, h2, h3, h4⟩ := R.vis (i := i) (x := x) h
    exact ⟨spl_v h1 h2 h3 h4, rfl, fun _ _ _ _ z => nomatch z⟩
  | .idx p e, .Subscript pp pe q, h => by
    obtain ⟨h1, h2⟩ := and2 h
    obtain ⟨h3, h4⟩ := and2 h2
    exact ⟨spl_idx R.ok.toCtK (mP_ok R h3).1 (mX_ok R false e _ h4).e (notSl_of h1), rfl, fun _ _ _ _ z => nomatch z⟩
def isCm : Ex → Bool
  | .comp _ _ _ _ _ => true
  | _ => false
def mAsg (m : Ms) (i : Nat) (e : Ex) (x : Str) (p2 : Pos) (pe : Expr) : Bool := match pe with
  | .ListComp _ _ scope pos => isFun m.sc.kind && (isCm e && (mX m false e pe && (match swB m x p2 pos scope with
      | true => decide (m.N[i]? = some x) && isKd (kin m x) .local
      | false => nmB m i x)))
  | pe => notComp pe && (nmB m i x && mX m false e pe)
theorem comp_inv {m : Ms} {C : Ct} (R : RelM m C) {tg : Tg} {it : It} {cnd : Exs} {el : Ex} {ws : List Nat} {p : Expr} (h : mX m false (.comp tg it cnd el ws) p = true) :
    ∃ pel ptg pit ifs scope pos, p = .ListComp pel [⟨ptg, pit, ifs, 0⟩] scope pos ∧ SI C it ptg pit ∧ BlkAt C scope (ownOf m ws) tg ptg cnd ifs el pel ∧ ∀ x, foldedSetIterable pit C.X.env x = pure x := by
  unfold mX at h
  replace h := (and2 h).2
  split at h
  · rename_i pel ptg pit ifs scope pos
    have h1 := (and2 h).1
    replace h := (and2 h).2
    have h6 := (and2 h).1
    replace h := (and2 h).2
    have h7 := (and2 h).1
    have h8 := (and2 h).2
    obtain ⟨h2, h1⟩ := and2 h1
    obtain ⟨h3, h1⟩ := and2 h1
    obtain ⟨h4, h5⟩ := and2 h1
    have bo : L2.BlkOk C.X.N C.X.env.scope scope (ownOf m ws) := by
      rw [R.N, R.sc]; exact L2.blkOk_by h3
    refine ⟨pel, ptg, pit, ifs, scope, pos, rfl, mI_ok R it _ _ h6, ⟨bo, fun j hj => by rw [ownOf_snd]; exact tgIn_ok h4 j hj, fun s H cl a fp => mTg_ok (R.blk s H scope cl a fp) h5, fun s H cl a fp => ?_, fun s H cl a fp => (mX_ok (R.blk s H scope cl a fp) false el _ h8).e⟩, notSet_of h2⟩
    cases cnd with
    | nil =>
      cases ifs with
      | nil => exact .nil
      | cons _ _ => cases h7
    | cons c r =>
      cases ifs with
      | nil => cases h7
      | cons pc q =>
        cases q with
        | cons _ _ => cases h7
        | nil =>
          cases r with
          | nil => exact .one (mX_ok (R.blk s H scope cl a fp) true c _ (and2 h7).2).b
          | cons _ _ => cases (and2 h7).1
  · cases h
theorem mAsg_ok {m : Ms} {C : Ct} (R : RelM m C) {i : Nat} {e : Ex} {x : Str} {p2 : Pos} {pe : Expr} {pos : Pos} (h : mAsg m i e x p2 pe = true) : SS C (.asg i e) (.Assign [.Name x p2] pe pos) := by
  unfold mAsg at h
  split at h
  · rename_i pel gs scope cp
    have h1 := isFun_of (and2 h).1
    replace h := (and2 h).2
    have h2 := (and2 h).1
    replace h := (and2 h).2
    have h3 := (and2 h).1
    replace h := (and2 h).2
    have sw := swaps_comp (elt := pel) (gs := gs) (scope := scope) (pos := cp) (py := p2) (y := x) (l := pos.line) R.sc h1
    cases hb : swB m x p2 cp scope with
    | false =>
      rw [hb] at h sw
      exact ss_asg' R.ok.toCtK (R.nm h) (mX_ok R false e _ h3).e.val sw
    | true =>
      rw [hb] at h sw
      have h4 := (and2 h).1
      have h5 := (and2 h).2
      rw [decide_eq_true_eq] at h4
      cases e with
      | comp tg it cnd el ws =>
        obtain ⟨pel', ptg, pit, ifs, scope', pos', e1, k1, k2, k3⟩ := comp_inv R h3
        cases e1
        have key := ss_asgC (i := i) (spos := pos) R.ok.toCtK (by rw [R.N]; exact h4) (by rw [R.sc]; exact isKd_of h5) sw k1 k2 k3
        rw [ownOf_snd] at key
        exact key
      | _ => cases h2
  · have h1 := (and2 h).1
    replace h := (and2 h).2
    exact ss_asg' R.ok.toCtK (R.nm (and2 h).1) (mX_ok R false e _ (and2 h).2).e.val (notComp_of h1)
mutual
def mS (m : Ms) : Sx → Stmt → Bool
  | .asg i e, p => (match p with
    | .Assign [.Name x p2] pe _ => mAsg m i e x p2 pe
    | _ => false)
  | .unp is e, p => (match p with
    | .Assign [.Tuple es _ _] pe _ => notTup pe && (mNms m is es && mX m false e pe)
    | _ => false)
  | .par i j a b, p => (match p with
    | .Assign [.Tuple [.Name x px, .Name y py] _ _] (.Tuple [pa, pb] _ _) _ => (isFun m.sc.kind && ((decide (m.N[i]? = some x) && decide (m.N[j]? = some y)) && (decide (i ≠ j) && (isKd (kin m x) .local && isKd (kin m y) .local)))) &&
        ((((py.line == px.line) && !(y == x)) && (notStar pa && notStar pb)) && ((!([pa, pb].all (foldedForSure 8)) && !([pa, pb].all (constantsAlone 8))) && (mX m false a pa && mX m false b pb)))
    | _ => false)
  | .setI pl i e, p => (match p with
    | .Assign [.Subscript pp pi _] pe _ => notSl pi && (mP m pl pp && (mX m false i pi && mX m false e pe))
    | _ => false)
  | .app pl e, p => (match p with
    | .Expr (.Call (.Attribute pp n q) [pe] [] c) _ => (n == ("append" : Str)) && ((q.endLine == c.line) && (notStar pe && (mP m pl pp && mX m false e pe)))
    | _ => false)
  | .ext _ _, _ => false
  | .pop pl, p => (match p with
    | .Expr (.Call (.Attribute pp n q) [] [] c) _ => (n == ("pop" : Str)) && ((q.endLine == c.line) && mP m pl pp)
    | _ => false)
  | .asgPop _ _, _ => false
  | .xpr e, p => (match p with
    | .Expr pe _ => notComp pe && mX m false e pe
    | _ => false)
  | .iff t a b, p => (match p with
    | .If pt pa pb _ => mX m true t pt && (mSs m a pa && mSs m b pb)
    | _ => false)
  | .whil t b, p => (match p with
    | .While pt pb [] _ => mX m true t pt && mSs m b pb
    | _ => false)
  | .forr tg it b, p => (match p with
    | .For ptg pit pb [] _ => (notSet pit && mTg m tg ptg) && (mI m it ptg pit && mSs m b pb)
    | _ => false)
  | .ret e, p => (match p with
    | .Return (some pe) _ => mX m false e pe
    | _ => false)
  | .retM i, p => (match p with
    | .Return (some (.Name x _)) _ => visB m i x
    | _ => false)
  | .retN, p => (match p with
    | .Return none _ => true
    | _ => false)
  | .brk, p => (match p with
    | .Break _ => true
    | _ => false)
  | .cnt, p => (match p with
    | .Continue _ => true
    | _ => false)
  | .pass, p => (match p with
    | .Pass _ => true
    | _ => false)
  | .rais _ _ _, _ => false
  | .tryy _ _, _ => false
def mSs (m : Ms) : Ss → List Stmt → Bool
  | .nil, ps => ps.isEmpty
  | .cons s ss, ps => (match ps with
    | p :: ps => mS m s p && mSs m ss ps
    | [] => false)
end
mutual
theorem mS_ok {m : Ms} {C : Ct} (R : RelM m C) : ∀ (s : Sx) (p : Stmt), mS m s p = true → SS C s p
  | .asg i e, p, h => by
    unfold mS at h
    split at h
    · exact mAsg_ok R h
    · cases h
  | .unp is e, p, h => by
    unfold mS at h
    split at h
    · have h1 := (and2 h).1
      replace h := (and2 h).2
      exact ss_unp R.ok.toCtK (mX_ok R false e _ (and2 h).2).e (mNms_ok R (and2 h).1) (notTup_of h1)
    · cases h
  | .par i j a b, p, h => by
    unfold mS at h
    split at h
    · have h1 := (and2 h).1
      have h2 := (and2 h).2
      have k1 := isFun_of (and2 h1).1
      have k2 := (and2 (and2 (and2 h1).2).1)
      have k3 := (and2 (and2 h1).2).2
      have k4 := (and2 k3).1
      have k5 := and2 (and2 k3).2
      have k6 := (and2 h2).1
      have k7 := (and2 h2).2
      have k8 := and2 (and2 k6).1
      have k9 := and2 (and2 k6).2
      have ka := and2 (and2 k7).1
      have kb := and2 (and2 k7).2
      have e1 := k2.1
      have e2 := k2.2
      rw [decide_eq_true_eq] at e1 e2 k4
      have hxy := k8.2
      rw [Bool.not_eq_true'] at hxy
      have hf := ka.1
      have hc := ka.2
      rw [Bool.not_eq_true'] at hf hc
      exact ss_par R.ok.toCtK (by rw [R.N]; exact e1) (by rw [R.N]; exact e2) k4 (by rw [R.sc]; exact isKd_of k5.1) (by rw [R.sc]; exact isKd_of k5.2) (mX_ok R false a _ kb.1).e (mX_ok R false b _ kb.2).e k9.1 k9.2
        (stores_par R.sc k1 (isKd_of k5.1) (isKd_of k5.2) k8.1 hxy k9.1 k9.2 hf hc)
    · cases h
  | .setI pl i e, p, h => by
    unfold mS at h
    split at h
    · have h1 := (and2 h).1
      replace h := (and2 h).2
      have h2 := (and2 h).1
      replace h := (and2 h).2
      exact ss_setI R.ok.toCtK (mX_ok R false e _ (and2 h).2).e (mP_ok R h2).1 (mX_ok R false i _ (and2 h).1).e (notSl_of h1)
    · cases h
  | .app pl e, p, h => by
    unfold mS at h
    split at h
    · have h1 := (and2 h).1
      replace h := (and2 h).2
      have h2 := (and2 h).1
      replace h := (and2 h).2
      have h3 := (and2 h).1
      replace h := (and2 h).2
      have h4 := (and2 h).1
      have h5 := (mX_ok R false e _ (and2 h).2).e
      obtain ⟨k1, k2, k3⟩ := mP_ok R h4
      cases eq_of_beq h1
      exact ss_app R.ok.toCtK k1 k3 k2 h5 h3 h2
    · cases h
  | .ext _ _, p, h => by unfold mS at h; cases h
  | .pop pl, p, h => by
    unfold mS at h
    split at h
    · have h1 := (and2 h).1
      replace h := (and2 h).2
      have h2 := (and2 h).1
      obtain ⟨k1, k2, k3⟩ := mP_ok R (and2 h).2
      cases eq_of_beq h1
      exact ss_pop R.ok.toCtK k1 k3 k2 h2
    · cases h
  | .asgPop _ _, p, h => by unfold mS at h; cases h
  | .xpr e, p, h => by
    unfold mS at h
    split at h
    · exact ss_xpr R.ok.toCtK (mX_ok R false e _ (and2 h).2).e (notComp_of (and2 h).1)
    · cases h
  | .iff t a b, p, h => by
    unfold mS at h
    split at h
    · have h1 := (and2 h).1
      replace h := (and2 h).2
      exact ss_iff R.ok.toCtK (mX_ok R true t _ h1).b (mSs_ok R a _ (and2 h).1) (mSs_ok R b _ (and2 h).2)
    · cases h
  | .whil t b, p, h => by
    unfold mS at h
    split at h
    · exact ss_whil R.ok (mX_ok R true t _ (and2 h).1).b (mSs_ok R b _ (and2 h).2)
    · cases h
  | .forr tg it b, p, h => by
    unfold mS at h
    split at h
    · have h1 := and2 (and2 h).1
      replace h := (and2 h).2
      exact ss_forr R.ok (mTg_ok R h1.2) (mI_ok R it _ _ (and2 h).1) (mSs_ok R b _ (and2 h).2) (notSet_of h1.1)
    · cases h
  | .ret e, p, h => by
    unfold mS at h
    split at h
    · exact ss_ret R.ok.toCtK (mX_ok R false e _ h).e
    · cases h
  | .retM i, p, h => by
    unfold mS at h
    split at h
    · obtain ⟨h1, h2, h3, h4⟩ := R.vis h
      exact ss_retM h1 h2 h3 h4
    · cases h
  | .retN, p, h => by
    unfold mS at h
    split at h
    · exact ss_retN
    · cases h
  | .brk, p, h => by
    unfold mS at h
    split at h
    · exact ss_brk
    · cases h
  | .cnt, p, h => by
    unfold mS at h
    split at h
    · exact ss_cnt
    · cases h
  | .pass, p, h => by
    unfold mS at h
    split at h
    · exact ss_pass
    · cases h
  | .rais _ _ _, p, h => by unfold mS at h; cases h
  | .tryy _ _, p, h => by unfold mS at h; cases h
theorem mSs_ok {m : Ms} {C : Ct} (R : RelM m C) : ∀ (ss : Ss) (ps : List Stmt), mSs m ss ps = true → SSs C ss ps
  | .nil, ps, h => by
    unfold mSs at h
    rw [List.isEmpty_iff] at h
    subst h
    exact sss_nil
  | .cons s ss, ps, h => by
    unfold mSs at h
    split at h
    · exact sss_cons (mS_ok R s _ (and2 h).1) (mSs_ok R ss _ (and2 h).2)
    · cases h
end
end PL

namespace PL
open PySem PyProof.Rows
open L2 (V Hp HO SqL SqT upd Rd Cx PE PT PW PA PS PSs PG PGs PI PO Ends VK XK WX TE TT TA TS TO TG TGs OpR R2 CallR SlR)

/-- a def of the table in the program -/
structure DefAt (K : PySem.W.Frag) (mg : Str → Option Value) (fns : List (Str × Nat × Nat)) (gcd g : Bool) (x : Str) (np : Nat) (d : Fd) (f : Addr) (fd : FuncData) (ps N : List Str) (st : Stmt) : Prop where
  hnp : d.np = np
  hps : ps.length = np
  nn : d.nn = N.length
  db : (x == ("__debug__" : Str)) = false
  fn : L2.Fun K x x st f fd
  at_ : mg x = some (.ref f)
  bind : L2.Binds K fd ps []
  sc : L2.FnScope N ps (L2.defScope st)
  fit : mSs ⟨N, L2.defScope st, fun _ => true, fns, gcd, g⟩ d.body (L2.defBody st) = true
/-- the table in the program -/
structure Tab (K : PySem.W.Frag) (mg : Str → Option Value) (tbl : Nat → Option Fd) (fns : List (Str × Nat × Nat)) (gcd g : Bool) : Prop where
  defs : ∀ x fn np, (x, fn, np) ∈ fns → ∃ d f fd ps N st, tbl fn = some d ∧ DefAt K mg fns gcd g x np d f fd ps N st
  blt : ∀ x ∈ bltNames, mg x = none
  gcd : gcd = true → mg "gcd" = some (.builtin "math.gcd")
section
variable {P : Program} {w : World} {K : PySem.W.Frag} {mg : Str → Option Value} {base : Heap}
/-- the slots at a def's start -/
theorem ArgR.start {xr : Exc → V → Hp → Prop} {F H : Hp} : ∀ {l : List Sl} {vs : List V} {q b : List Addr}, ArgR K F H l vs q b → q.Nodup →
    ∃ fp bq : FP, (∀ i x, l[i]? = some x → SlO K xr F H x ((vs.map some)[i]?) (fp i) (bq i)) ∧ (∀ i, l.length ≤ i → fp i = [] ∧ bq i = []) ∧ (∀ i, (fp i).Nodup) ∧ (∀ i j a, a ∈ fp i → a ∈ fp j → i = j) ∧ (∀ i a, a ∈ fp i → a ∈ q) ∧ ∀ i a, a ∈ bq i → a ∈ b
  | _, _, _, _, .nil, _ => ⟨fun _ => [], fun _ => [], fun i x h => by simp at h, fun _ _ => ⟨rfl, rfl⟩, fun _ => .nil, fun _ _ _ h => (nomatch h), fun _ _ h => (nomatch h), fun _ _ h => (nomatch h)⟩
  | _, _, _, _, .ow (s := s) (v := v) (q := q) (r := r) h t, nd => by
    have nd2 := List.nodup_append.mp nd
    obtain ⟨fp, bq, h1, h2, h3, h4, h5, h6⟩ := t.start nd2.2.1
    refine ⟨fun i => match i with | 0 => q | i + 1 => fp i, fun i => match i with | 0 => [] | i + 1 => bq i, fun i x e => ?_, fun i hi => ?_, fun i => ?_, fun i j a ha hb => ?_, fun i a ha => ?_, fun i a ha => ?_⟩
    · cases i with
      | zero => simp at e; subst e; exact ⟨rfl, v, rfl, h⟩
      | succ i => simp at e; simpa using h1 i x e
    · cases i with
      | zero => simp at hi
      | succ i => exact h2 i (by simpa using hi)
    · cases i with
      | zero => exact nd2.1
      | succ i => exact h3 i
    · cases i with
      | zero =>
        cases j with
        | zero => rfl
        | succ j => exact absurd rfl (nd2.2.2 a ha a (h5 j a hb))
      | succ i =>
        cases j with
        | zero => exact absurd rfl (nd2.2.2 a hb a (h5 i a ha))
        | succ j => rw [h4 i j a ha hb]
    · cases i with
      | zero => exact List.mem_append_left _ ha
      | succ i => exact List.mem_append_right _ (h5 i a ha)
    · cases i with
      | zero => cases ha
      | succ i => exact h6 i a ha
  | _, _, _, _, .bw (s := s) (v := v) (q := q) (r := r) (b := b) h t, nd => by
    obtain ⟨fp, bq, h1, h2, h3, h4, h5, h6⟩ := t.start nd
    refine ⟨fun i => match i with | 0 => [] | i + 1 => fp i, fun i => match i with | 0 => q | i + 1 => bq i, fun i x e => ?_, fun i hi => ?_, fun i => ?_, fun i j a ha hb => ?_, fun i a ha => ?_, fun i a ha => ?_⟩
    · cases i with
      | zero => simp at e; subst e; exact ⟨rfl, v, rfl, h⟩
      | succ i => simp at e; simpa using h1 i x e
    · cases i with
      | zero => simp at hi
      | succ i => exact h2 i (by simpa using hi)
    · cases i with
      | zero => exact .nil
      | succ i => exact h3 i
    · cases i with
      | zero => cases ha
      | succ i =>
        cases j with
        | zero => cases hb
        | succ j => rw [h4 i j a ha hb]
    · cases i with
      | zero => cases ha
      | succ i => exact h5 i a ha
    · cases i with
      | zero => exact List.mem_append_left _ ha
      | succ i => exact List.mem_append_right _ (h6 i a ha)
theorem start_good {xr : Exc → V → Hp → Prop} {F H : Hp} {l : List Sl} {vs : List V} {q b : List Addr} {N : List Str} {d : Fd} (r : ArgR K F H l vs q b) (s : Sub F H) (nd : q.Nodup) (fr : ∀ a ∈ q, F a = none) (db : ∀ a ∈ b, a ∉ q) (hn : d.nn = N.length) (hl : vs.length ≤ N.length) :
    ∃ fp bq, Good K xr F H (stS d l) (L2.start N vs) fp bq ∧ (∀ i a, a ∈ fp i → a ∈ q) := by
  obtain ⟨fp, bq, h1, h2, h3, h4, h5, h6⟩ := r.start (xr := xr) nd
  have hlen := r.length
  refine ⟨fp, bq, ⟨s, ?_, fun i x e => ?_, fun i hi => ?_, h3, h4, fun i a ha => fr a (h5 i a ha), fun i j a ha hb => db a (h6 i a ha) (h5 j a hb)⟩, h5⟩
  · unfold stS L2.start
    simp [hlen, hn]
  · unfold stS at e
    unfold L2.start
    by_cases hi : i < l.length
    · rw [List.getElem?_append_left hi] at e
      rw [List.getElem?_append_left (by rw [List.length_map, ← hlen]; exact hi)]
      exact h1 i x e
    · rw [List.getElem?_append_right (by omega), List.getElem?_replicate] at e
      split at e
      · cases e
        exact h2 i (by omega)
      · cases e
  · refine h2 i ?_
    unfold stS at hi
    rw [List.length_append] at hi
    omega
/-- the place of a def's body -/
def ctOf (P : Program) (w : World) (K : PySem.W.Frag) (mg : Str → Option Value) (base : Heap) (xr : Exc → V → Hp → Prop) (xd : Exc → Value → Option Addr → Hp → Prop) (fe : FE) (g : Bool) (N : List Str) (x : Str) (sc : Scope) (f : Addr) (cdv : Value) (A : Around) (outer : List Env) (s : Shared) (H : Hp) (E : XK) : Ct where
  X := L2.cxOf (L2.CX P w) P w K mg base N x sc f cdv A outer s H E
  xr := xr
  xd := xd
  W := fun cls d _ H => E cls d H
  fe := fe
  g := g
theorem fin_want {C : Ct} {fp bq : FP} {F H : Hp} {σ : L2.St} {q : List Addr} {o : Out} {Q : VK} {E : XK} (hW : C.W = fun cls d _ H => E cls d H) (hs : Sub F H) (hq : ∀ i a, a ∈ fp i → a ∈ q)
    (w : match fin o with
      | .no => False
      | .ok s => ∀ F' H' v, Left C.X.K F H q s F' H' v → Q v H'
      | .ex x => ∀ F' H' cls d, Sub F F' → (∀ a o, H a = some o → a ∉ q → H' a = some o) → Sub F' H' → (∀ a, F a = none → F' a ≠ none → H a = none ∨ a ∈ q) → C.xd x cls d F' → E cls d H') :
    WantS C (fun _ => false) σ F H fp bq o { nx := fun _ H' => Q .non H', rt := Q } := by
  have hk : ∀ {F' H' : Hp} {fp' : FP}, Stp F H fp F' H' fp' → (∀ a o, H a = some o → a ∉ q → H' a = some o) ∧ ∀ a, F a = none → F' a ≠ none → H a = none ∨ a ∈ q := fun {F' H' fp'} e =>
    ⟨fun a o z n => e.h a o z fun i hi => n (hq i a hi), fun a h1 h2 => (e.new a h1 h2).imp id fun ⟨i, z⟩ => hq i a z⟩
  cases o with
  | no => exact w
  | bk _ => exact False.elim w
  | ct _ => exact False.elim w
  | nx S => exact fun σ' F' H' fp' bq' G e _ => w F' H' .non ⟨e.f, (hk e).1, G.sub, (hk e).2, [], .fz .non, .nil, fun _ h => nomatch h⟩
  | rt s => exact fun F' H' v r s1 e R n h => w F' H' v ⟨e.f, (hk e).1, s1, (hk e).2, r, R, n, fun a ha => ⟨(h a ha).1, (h a ha).2.imp id fun ⟨i, z⟩ => hq i a z⟩⟩
  | ex x S => exact fun σ' F' H' bq' cls d G e _ xd => by rw [hW]; exact w F' H' cls d e.f (hk e).1 G.sub (hk e).2 xd
/-- the defs that a body may call, n calls deep -/
def Known (P : Program) (w : World) (K : PySem.W.Frag) (mg : Str → Option Value) (base : Heap) (xd : Exc → Value → Option Addr → Hp → Prop) (tbl : Nat → Option Fd) (fns : List (Str × Nat × Nat)) (n : Nat) : Prop :=
  ∀ x fn np, (x, fn, np) ∈ fns → ∃ (f : Addr) (fd : FuncData) (ps : List Str), L2.FnOk P w K mg base (L2.CX P w) n f fd ps (CallSp K xd np (FEn tbl n fn)) ∧ mg x = some (.ref f) ∧ PySem.W.keepIn K (.ref f) = true ∧ L2.Binds K fd ps [] ∧ ps.length = np ∧ (x == ("__debug__" : Str)) = false
variable {tbl : Nat → Option Fd} {fns : List (Str × Nat × Nat)} {gcd : Bool} {xr : Exc → V → Hp → Prop} {xd : Exc → Value → Option Addr → Hp → Prop}
theorem def_zero {x : Str} {fn np : Nat} {d : Fd} {f : Addr} {fd : FuncData} {ps N : List Str} {st : Stmt} (D : DefAt K mg fns gcd false x np d f fd ps N st) : L2.FnOk P w K mg base (L2.CX P w) 0 f fd ps (CallSp K xd np (FEn tbl 0 fn)) :=
  ⟨fun vs H Q E sp => sp.len.trans D.hps.symm, fun A outer s H args us vs Q E hr e0 hb r sp => by
    obtain ⟨F, l, q, b, _, _, _, _, _, _, z⟩ := sp
    exact z.elim⟩
theorem def_step (hx : ∀ x v F F', Sub F F' → xr x v F → xr x v F') {n : Nat} (Kn : Known P w K mg base xd tbl fns n) (hblt : ∀ x ∈ bltNames, mg x = none) (hgcd : gcd = true → mg "gcd" = some (.builtin "math.gcd"))
    {x : Str} {fn np : Nat} {d : Fd} {f : Addr} {fd : FuncData} {ps N : List Str} {st : Stmt} (ht : tbl fn = some d) (D : DefAt K mg fns gcd false x np d f fd ps N st) : L2.FnOk P w K mg base (L2.CX P w) (n + 1) f fd ps (CallSp K xd np (FEn tbl (n + 1) fn)) := by
  refine L2.Fun.okX D.fn D.sc (fun vs H Q E sp => sp.len.trans D.hps.symm) fun cdv A outer s H vs Q E hr sp => ?_
  have R : RelM ⟨N, L2.defScope st, fun _ => true, fns, gcd, false⟩ (ctOf P w K mg base xr xd (FEn tbl n) false N x (L2.defScope st) f cdv A outer s H E) := by
    refine ⟨⟨⟨⟨hx⟩, rfl, ?_, fun z => (nomatch z), D.sc.nd⟩, L2.takes_of rfl rfl rfl rfl, L2.passes_of rfl⟩, rfl, rfl, fun _ => rfl, fun y g np' hy => ?_, hblt, hgcd, rfl⟩
    · have := hr.un
      show (A.deeper _).units + 65 < cLine
      omega
    · obtain ⟨f', fd', ps', G, k1, k2, k3, k4, k5⟩ := Kn y g np' hy
      exact ⟨k5, f', fd', n, ps', ⟨G.len, fun A outer s H args us vs Q E hr _ => G.run A outer s H args us vs Q E hr⟩, hr, k1, k2, k3⟩
  obtain ⟨t, hp, ht'⟩ := mSs_ok R d.body _ D.fit
  refine ⟨t, hp, ?_⟩
  obtain ⟨F, l, q, b, s1, hl, ar, nd, fr, db, z⟩ := sp
  have hpl : vs.length ≤ N.length := by
    have := congrArg List.length D.sc.pre
    rw [List.length_take] at this
    have := D.hps
    omega
  obtain ⟨fp, bq, G, hq⟩ := start_good (xr := xr) (N := N) (d := d) ar s1 nd fr db D.nn hpl
  refine ht' (fun _ => false) _ _ H F (stS d l) fp bq (fun i hi => nomatch hi) G ?_
  have e : FEn tbl (n + 1) fn l = fin (exes (FEn tbl n) d.body (stS d l)) := by
    show (match tbl fn with | some d => Res.guard (l.length == d.np) (fin (exes (FEn tbl n) d.body (stS d l))) | none => .no) = _
    rw [ht]
    have : (l.length == d.np) = true := by rw [beq_iff_eq, ar.length, hl, D.hnp]
    simp only [this, Res.guard_true]
  rw [e] at z
  exact fin_want rfl s1 hq z
/-- every def keeps its promise, n calls deep -/
theorem defs_ok (hx : ∀ x v F F', Sub F F' → xr x v F → xr x v F') (T : Tab K mg tbl fns gcd false) : ∀ n : Nat, Known P w K mg base xd tbl fns n
  | 0 => fun x fn np h => by
    obtain ⟨d, f, fd, ps, N, st, ht, D⟩ := T.defs x fn np h
    exact ⟨f, fd, ps, def_zero D, D.at_, D.fn.kp, D.bind, D.hps, D.db⟩
  | n + 1 => fun x fn np h => by
    obtain ⟨d, f, fd, ps, N, st, ht, D⟩ := T.defs x fn np h
    exact ⟨f, fd, ps, def_step hx (defs_ok hx T n) T.blt T.gcd ht D, D.at_, D.fn.kp, D.bind, D.hps, D.db⟩
/-- no exception is made, none is seen -/
def xr0 : Exc → V → Hp → Prop := fun _ _ _ => False
def xd0 : Exc → Value → Option Addr → Hp → Prop := fun _ _ _ _ => False
/-- the law's def -/
theorem law_fn (T : Tab K mg tbl fns gcd false) (n : Nat) {x : Str} {fn np : Nat} {d : Fd} {f : Addr} {fd : FuncData} {ps N : List Str} {st : Stmt} (ht : tbl fn = some d) (D : DefAt K mg fns gcd false x np d f fd ps N st) :
    L2.FnOk P w K mg base (L2.CX P w) (n + 1) f fd ps (CallSp K xd0 np (FEn tbl (n + 1) fn)) :=
  def_step (xr := xr0) (fun _ _ _ _ _ h => h) (defs_ok (xr := xr0) (fun _ _ _ _ _ h => h) T n) T.blt T.gcd ht D
/-- what the law's def is asked -/
theorem law_sp {n : Nat} {fn : Nat} (hm : ∀ ns : List Int, ns.length ≤ 63 → (∀ z ∈ ns, Builtin.Int.intBits z ≤ 1048576) → FEn tbl n fn [.ow (.fz (.scr ns))] = .ok (.fz (.bl true))) (H : Hp) (a : Addr) (ns : List Int) (hn : ns.length ≤ 63) (hb : ∀ z ∈ ns, Builtin.Int.intBits z ≤ 1048576) (hS : SqL K H a (ns.map V.int)) :
    CallSp K xd0 1 (FEn tbl n fn) [.ref a] H (fun v _ => v = .bl true) fun _ _ _ => False := by
  refine ⟨H, [.ow (.fz (.scr ns))], [], [], .refl, rfl, .ow (.fz (.scr hS)) .nil, .nil, (fun _ h => nomatch h), (fun _ h => nomatch h), ?_⟩
  rw [hm ns hn hb]
  intro F' H' v L
  obtain ⟨r, R, _⟩ := L.rel
  cases R with
  | fz R => cases R; rfl
theorem law_cx {P : Program} {w : World} {H : Hp} {s : Shared} {e : Value} {s' : Shared} (h : L2.CX P w [] H s (fun _ _ _ => False) e s') : False := by
  obtain ⟨_, _, _, _, _, _, _, _, _, _, _, _, h⟩ := h
  exact h
end
end PL

namespace PL
open PySem (Str PyData)
abbrev iv (x : Int) : SV := .fz (.int x)
abbrev oi (x : Int) : Sl := .ow (.fz (.int x))
abbrev il (l : List Int) : SV := .lst (l.map iv)
abbrev pl (l : List Int) : PV := .lst (l.map PV.int)
@[simp] theorem seqOut_forr {o : Out} {S : S} {f : PL.S → Out} (h : o = .nx S) : seqOut o f = f S := by rw [h]; rfl
theorem loopF_rel {tg : Tg} {body : S → Out} (Inv : Nat → S → Prop) {its : List Itm} {S : S} (h0 : Inv 0 S)
    (step : ∀ i S x, its[i]? = some x → Inv i S → ∃ S1, setTg S tg x = .ok S1 ∧ ∃ S2, (body S1 = .nx S2 ∨ body S1 = .ct S2) ∧ Inv (i + 1) S2) :
    ∃ S', loopF tg body its S = .nx S' ∧ Inv its.length S' := by
  suffices ∀ (n : Nat) (xs : List Itm) (S : PL.S), (∀ i, its[n + i]? = xs[i]?) → n + xs.length = its.length → Inv n S → ∃ S', loopF tg body xs S = .nx S' ∧ Inv its.length S' by
    exact this 0 its S (fun i => by rw [Nat.zero_add]) (Nat.zero_add _) h0
  intro n xs
  induction xs generalizing n with
  | nil => intro S _ hl hI; exact ⟨S, rfl, by rw [← hl]; exact hI⟩
  | cons x xs ih =>
    intro S hx hl hI
    obtain ⟨S1, e1, S2, e2, hI2⟩ := step n S x (by have := hx 0; simpa using this) hI
    obtain ⟨S', e3, hI3⟩ := ih (n + 1) S2 (fun i => by have := hx (i + 1); rw [List.getElem?_cons_succ] at this; rw [← this]; congr 1; omega) (by rw [List.length_cons] at hl; omega) hI2
    refine ⟨S', ?_, hI3⟩
    show (setTg S tg x).out S _ = _
    rw [e1, Res.out_ok]
    rcases e2 with e2 | e2 <;> rw [e2] <;> exact e3
/-- a walk over numbers, no slot lent -/
theorem exe_forr {fe : FE} {tg : Tg} {it : It} {b : Ss} {S S' : PL.S} {its : List Itm} (h : evI fe it S = .ok ((its, []), S)) (hl : loopF tg (exes fe b) its S = .nx S') : exe fe (.forr tg it b) S = .nx S' := by
  show (evI fe it S).out S _ = _
  rw [h]
  show outTake (fun i => inTg i tg || asgs i b) [] (loopF tg (exes fe b) its S) = _
  rw [hl]
  rfl
/-- a walk over an own list -/
theorem exe_forr1 {fe : FE} {tg : Tg} {it : It} {b : Ss} {S S' : PL.S} {its : List Itm} {i : Nat} {s : SV} (h : evI fe it S = .ok ((its, [(i, s)]), S)) (hc : (!asgs i b && !inTg i tg) = true) (hl : loopF tg (exes fe b) its (S.set i (.bw s)) = .nx S') :
    exe fe (.forr tg it b) S = .nx ((noBw (fun i => inTg i tg || asgs i b) S').set i (.ow s)) := by
  show (evI fe it S).out S _ = _
  rw [h]
  show (match [(i, s)].all fun x => !asgs x.1 b && !inTg x.1 tg with | true => _ | false => _) = _
  rw [show ([(i, s)].all fun x => !asgs x.1 b && !inTg x.1 tg) = true from by rw [List.all_cons, hc]; rfl]
  show outTake _ [(i, s)] (loopF tg (exes fe b) its (S.set i (.bw s))) = _
  rw [hl]
  rfl
def Off (ws : List Nat) (S S' : PL.S) : Prop := S'.length = S.length ∧ ∀ j, j ∉ ws → S'[j]? = S[j]?
theorem Off.refl {ws : List Nat} {S : S} : Off ws S S := ⟨rfl, fun _ _ => rfl⟩
theorem Off.trans {ws : List Nat} {S S' S'' : PL.S} (h : Off ws S S') (h' : Off ws S' S'') : Off ws S S'' := ⟨h'.1.trans h.1, fun j hj => (h'.2 j hj).trans (h.2 j hj)⟩
theorem Off.set {ws : List Nat} {S S' : PL.S} {i : Nat} {x : Sl} (h : Off ws S S') (hi : i ∈ ws) : Off ws S (S'.set i x) :=
  ⟨by rw [List.length_set]; exact h.1, fun j hj => by rw [List.getElem?_set_ne (fun e => hj (by rw [← e]; exact hi))]; exact h.2 j hj⟩
theorem wipS_length {S : S} : ∀ {vs : List Nat}, (wipS S vs).length = S.length
  | [] => rfl
  | v :: vs => by unfold wipS; rw [List.length_set, wipS_length]
theorem wipS_get {S : S} {j : Nat} : ∀ {vs : List Nat}, (wipS S vs)[j]? = if j ∈ vs ∧ j < S.length then some .no else S[j]?
  | [] => by simp [wipS]
  | v :: vs => by
    unfold wipS
    by_cases h : v = j
    · subst h
      by_cases hl : v < S.length
      · rw [List.getElem?_set_self (by rw [wipS_length]; exact hl), if_pos ⟨List.mem_cons_self, hl⟩]
      · rw [List.getElem?_eq_none (by rw [List.length_set, wipS_length]; omega), if_neg (fun z => hl z.2), List.getElem?_eq_none (by omega)]
    · rw [List.getElem?_set_ne h, wipS_get]
      have : (j ∈ v :: vs) ↔ j ∈ vs := by
        rw [List.mem_cons]; exact ⟨fun z => z.elim (fun z => absurd z.symm h) id, .inr⟩
      simp only [this]
theorem Off.wip {ws : List Nat} {S S' : PL.S} (h : Off ws S S') : wipS S' ws = wipS S ws := by
  refine List.ext_getElem? fun j => ?_
  rw [wipS_get, wipS_get, h.1]
  by_cases hj : j ∈ ws
  · by_cases hl : j < S.length
    · rw [if_pos ⟨hj, hl⟩, if_pos ⟨hj, hl⟩]
    · rw [if_neg (fun z => hl z.2), if_neg (fun z => hl z.2), List.getElem?_eq_none (by have := h.1; omega), List.getElem?_eq_none (by omega)]
  · rw [if_neg (fun z => hj z.1), if_neg (fun z => hj z.1), h.2 j hj]
theorem Off.wiped {ws : List Nat} {S : S} : Off ws S (wipS S ws) := ⟨wipS_length, fun j hj => by rw [wipS_get, if_neg (fun z => hj z.1)]⟩
theorem loopC_map {tg : Tg} {ws : List Nat} {test : S → Res (Bool × S)} {el : S → Res (SV × S)} {g : Itm → SV} {S0 : S} : ∀ {its : List Itm} {S : S} {acc : List SV}, Off ws S0 S → acc.length + its.length ≤ szLine →
    (∀ x ∈ its, ∃ S1 S2, setTg (wipS S0 ws) tg x = .ok S1 ∧ test S1 = .ok (true, S1) ∧ el S1 = .ok (g x, S2) ∧ Off ws S0 S2) → ∃ S', loopC tg ws test el its S acc = .ok (acc ++ its.map g, S') ∧ Off ws S0 S'
  | [], S, acc, h, _, _ => ⟨S, by rw [List.map_nil, List.append_nil]; rfl, h⟩
  | x :: xs, S, acc, h, hl, hx => by
    obtain ⟨S1, S2, e1, e2, e3, o⟩ := hx x List.mem_cons_self
    rw [List.length_cons] at hl
    obtain ⟨S', e4, o'⟩ := loopC_map (g := g) (its := xs) (acc := acc ++ [g x]) o (by rw [List.length_append, List.length_singleton]; omega) fun y hy => hx y (List.mem_cons_of_mem _ hy)
    refine ⟨S', ?_, o'⟩
    show ((setTg (wipS S ws) tg x).noex.bind fun S1 => (test S1).bind fun p => match p.1 with
      | false => loopC tg ws test el xs p.2 acc
      | true => (el p.2).bind fun q => Res.guard (decide (acc.length < szLine)) (loopC tg ws test el xs q.2 (acc ++ [q.1]))) = _
    rw [h.wip, e1, Res.noex_ok, Res.bind_ok, e2, Res.bind_ok]
    show ((el S1).bind fun q => Res.guard (decide (acc.length < szLine)) (loopC tg ws test el xs q.2 (acc ++ [q.1]))) = _
    rw [e3, Res.bind_ok, show decide (acc.length < szLine) = true from decide_eq_true (by omega), Res.guard_true, e4, List.map_cons, List.append_assoc]
    rfl
theorem back_get {S0 : S} {j : Nat} : ∀ {ws : List Nat} {T : PL.S}, T.length = S0.length → (back S0 ws T)[j]? = if j ∈ ws then S0[j]? else T[j]?
  | [], T, _ => by simp [back]
  | v :: vs, T, hl => by
    have e : back S0 (v :: vs) T = back S0 vs (T.set v (S0.getD v .no)) := rfl
    rw [e, back_get (by rw [List.length_set]; exact hl)]
    by_cases h : j ∈ vs
    · rw [if_pos h, if_pos (List.mem_cons_of_mem _ h)]
    · rw [if_neg h]
      by_cases e : v = j
      · subst e
        rw [if_pos List.mem_cons_self]
        by_cases hs : v < T.length
        · rw [List.getElem?_set_self hs, List.getD_eq_getElem?_getD, List.getElem?_eq_getElem (show v < S0.length by omega)]; rfl
        · rw [List.getElem?_eq_none (by rw [List.length_set]; omega), List.getElem?_eq_none (by omega)]
      · rw [List.getElem?_set_ne e, if_neg (fun z => (List.mem_cons.mp z).elim (fun z => e z.symm) h)]
theorem back_off {S0 S' : PL.S} {ws : List Nat} (h : Off ws S0 S') : back S0 ws S' = S0 := by
  refine List.ext_getElem? fun j => ?_
  rw [back_get h.1]
  by_cases hj : j ∈ ws
  · rw [if_pos hj]
  · rw [if_neg hj, h.2 j hj]
/-- a comprehension, no slot lent -/
theorem ev_comp {fe : FE} {tg : Tg} {it : It} {el : Ex} {ws : List Nat} {S : S} {its : List Itm} {g : Itm → SV} (h : evI fe it S = .ok ((its, []), S)) (hl : its.length ≤ szLine)
    (hx : ∀ x ∈ its, ∃ S1 S2, setTg (wipS S ws) tg x = .ok S1 ∧ elemOf el (ev fe el S1) = .ok (g x, S2) ∧ Off ws S S2) : ev fe (.comp tg it .nil el ws) S = .ok (.lst (its.map g), S) := by
  obtain ⟨S', e, o⟩ := loopC_map (tg := tg) (test := fun T => tstC (evC fe .nil T)) (el := fun T => elemOf el (ev fe el T)) (g := g) (its := its) (acc := []) (S0 := S) (S := S) .refl (by simpa using hl) fun x hm => by
    obtain ⟨S1, S2, h1, h2, h3⟩ := hx x hm
    exact ⟨S1, S2, h1, rfl, h2, h3⟩
  show (evI fe it S).bind _ = _
  rw [h]
  show ((loopC tg ws (fun T => tstC (evC fe .nil T)) (fun T => elemOf el (ev fe el T)) its S []).noex.bind fun q => Res.ok (SV.lst q.1, takeS (back S ws q.2) [])) = _
  rw [e, Res.noex_ok, Res.bind_ok, List.nil_append]
  show Res.ok (SV.lst _, back S ws S') = _
  rw [back_off o]
/-- over an own list -/
theorem ev_comp1 {fe : FE} {tg : Tg} {it : It} {el : Ex} {ws : List Nat} {S : S} {its : List Itm} {g : Itm → SV} {i : Nat} {s : SV} (h : evI fe it S = .ok ((its, [(i, s)]), S)) (hi : S[i]? = some (.ow s)) (hl : its.length ≤ szLine)
    (hx : ∀ x ∈ its, ∃ S1 S2, setTg (wipS (S.set i (.bw s)) ws) tg x = .ok S1 ∧ elemOf el (ev fe el S1) = .ok (g x, S2) ∧ Off ws (S.set i (.bw s)) S2) : ev fe (.comp tg it .nil el ws) S = .ok (.lst (its.map g), S) := by
  obtain ⟨S', e, o⟩ := loopC_map (tg := tg) (test := fun T => tstC (evC fe .nil T)) (el := fun T => elemOf el (ev fe el T)) (g := g) (its := its) (acc := []) (S0 := S.set i (.bw s)) (S := S.set i (.bw s)) .refl (by simpa using hl) fun x hm => by
    obtain ⟨S1, S2, h1, h2, h3⟩ := hx x hm
    exact ⟨S1, S2, h1, rfl, h2, h3⟩
  show (evI fe it S).bind _ = _
  rw [h]
  show ((loopC tg ws (fun T => tstC (evC fe .nil T)) (fun T => elemOf el (ev fe el T)) its (S.set i (.bw s)) []).noex.bind fun q => Res.ok (SV.lst q.1, takeS (back S ws q.2) [(i, s)])) = _
  rw [e, Res.noex_ok, Res.bind_ok, List.nil_append]
  have hl' : S'.length = S.length := by rw [o.1, List.length_set]
  have : takeS (back S ws S') [(i, s)] = S := by
    show (back S ws S').set i (.ow s) = S
    refine List.ext_getElem? fun j => ?_
    by_cases hj : j = i
    · subst hj
      rw [List.getElem?_set_self (by
        have := (List.getElem?_eq_some_iff.mp hi).1
        have e2 : (back S ws S').length = S.length := by
          have : ∀ (ws : List Nat) (T : PL.S), (back S ws T).length = T.length := fun ws => by
            induction ws with
            | nil => intro T; rfl
            | cons v vs ih => intro T; show (back S vs (T.set v (S.getD v .no))).length = _; rw [ih, List.length_set]
          rw [this, hl']
        omega), hi]
    · rw [List.getElem?_set_ne (Ne.symm hj), back_get hl']
      by_cases hw : j ∈ ws
      · rw [if_pos hw]
      · rw [if_neg hw, o.2 j hw, List.getElem?_set_ne (Ne.symm hj)]
  rw [this]
theorem log2_lt_of {n : Nat} {k : Nat} (h : n < 2 ^ (k + 1)) : n.log2 ≤ k := by
  by_cases h0 : n = 0
  · subst h0; simp
  · exact Nat.le_of_lt_succ ((Nat.log2_lt h0).mpr h)
end PL

namespace PL
open PySem (Str PyData)
def freeA : Ss := (.cons (.app (.v 2) (.bin .mod (.bi .int (.cons (.v 6) .nil)) (.c (.int 1009)))) (.cons (.asg 6 (.bin .fdiv (.v 6) (.c (.int 1009)))) .nil))
def freeB : Ss := (.cons (.asg 6 (.bi .int (.cons (.v 4) .nil))) (.cons (.asg 3 (.bin .mod (.bi .int (.cons (.bin .add (.bin .mul (.v 3) (.c (.int 48271))) (.bin .mod (.bi .int (.cons (.v 6) .nil)) (.c (.int 2147483647)))) .nil)) (.c (.int 2147483647)))) (.cons (.iff (.cmp .ge (.v 6) (.bin .pow (.c (.int 10)) (.c (.int 18)))) (.cons (.forr (.nm 7) (.r1 (.c (.int 40))) freeA) .nil) (.cons (.app (.v 2) (.f 6)) .nil)) .nil)))
def freeC : Ss := (.cons (.asg 3 (.bin .mod (.bi .int (.cons (.bin .add (.bin .add (.bin .mul (.v 3) (.c (.int 48271))) (.bin .mul (.v 5) (.c (.int 69621)))) (.c (.int 11))) .nil)) (.c (.int 2147483647)))) (.cons (.app (.v 2) (.bin .fdiv (.v 3) (.c (.int 5)))) .nil))
def freeS : Ss := (.cons (.asg 2 (.lst .nil)) (.cons (.asg 3 (.c (.int 7))) (.cons (.forr (.nm 4) (.ex (.sl (.v 0) (.c .non) (.c (.int 63)))) freeB) (.cons (.forr (.nm 5) (.r1 (.v 1)) freeC) (.cons (.retM 2) .nil)))))
/-- a bound of a script's numbers -/
def Big (z : Int) : Prop := z.natAbs.log2 ≤ 1048576
theorem big_le {z : Int} {n : Nat} (h : z.natAbs ≤ n) (hn : n < 2 ^ 1000) : Big z := by
  unfold Big
  have : z.natAbs < 2 ^ (1048576 + 1) := Nat.lt_of_le_of_lt h (Nat.lt_trans hn (Nat.pow_lt_pow_right (by decide) (by decide)))
  exact log2_lt_of this
theorem mulOk_of {i j : Int} {a b : Nat} (h : i.natAbs.log2 ≤ a) (h' : j.natAbs.log2 ≤ b) (hab : a + b < mulBits) : mulOk i j = true := by
  unfold mulOk
  exact decide_eq_true (by omega)
theorem log_small {i : Int} {k : Nat} (h : i.natAbs < 2 ^ (k + 1)) : i.natAbs.log2 ≤ k := log2_lt_of h
theorem divOk_1009 : divOk 1009 = true := by decide +kernel
theorem divOk_5 : divOk 5 = true := by decide +kernel
theorem fmod_range (n : Int) {m : Int} (hm : 0 < m) : 0 ≤ n.fmod m ∧ n.fmod m < m := by
  rw [Int.fmod_eq_emod_of_nonneg _ (Int.le_of_lt hm)]
  exact ⟨Int.emod_nonneg _ (by omega), Int.emod_lt_of_pos _ hm⟩
section
variable {fe : FE}
theorem free_A (a b c d e f : Sl) (l : List Int) (n : Int) (hl : l.length < szLine) :
    exes fe freeA [a, b, .ow (il l), c, d, e, oi n, f] = .nx [a, b, .ow (il (l ++ [n.fmod 1009])), c, d, e, oi (n.fdiv 1009), f] := by
  simp [freeA, exes, exe, evP, ev, evBs, rd, getL, getO, getAt, asL, elemOf, valOf, isPath, isKeep, binop, modV, fdivV, biop, intV, divOk_1009, updS, updAt, gApp, hl, il, SV.pv]
theorem free_A40 (a b c d e : Sl) (l : List Int) (n : Int) (f : Sl) (hl : l.length + 40 < szLine) (hb : ∀ z ∈ l, Big z) :
    ∃ l' n' f', exe fe (.forr (.nm 7) (.r1 (.c (.int 40))) freeA) [a, b, .ow (il l), c, d, e, oi n, f] = .nx [a, b, .ow (il l'), c, d, e, oi n', f'] ∧ l'.length = l.length + 40 ∧ ∀ z ∈ l', Big z := by
  obtain ⟨S', h1, l', n', f', rfl, h2, h3⟩ := loopF_rel (tg := .nm 7) (body := exes fe freeA) (its := rangeL 0 40) (S := [a, b, .ow (il l), c, d, e, oi n, f])
    (fun i S => ∃ l' n' f', S = [a, b, .ow (il l'), c, d, e, oi n', f'] ∧ l'.length = l.length + i ∧ ∀ z ∈ l', Big z) ⟨l, n, f, rfl, rfl, hb⟩ (fun i S x hx ⟨l', n', f', e1, e2, e3⟩ => by
      subst e1
      have hi : i < 40 := by
        have := (List.getElem?_eq_some_iff.mp hx).1
        simpa [rangeL] using this
      have hx : x = oneI (.int (0 + i)) := by
        have := (List.getElem?_eq_some_iff.mp hx).2
        rw [← this]
        simp [rangeL]
      subst hx
      refine ⟨_, rfl, _, .inl (free_A a b c d e _ l' n' (by omega)), _, _, _, rfl, by rw [List.length_append, e2]; simp; omega, fun z hz => ?_⟩
      rcases List.mem_append.mp hz with hz | hz
      · exact e3 z hz
      · have hz : z = n'.fmod 1009 := by simpa using hz
        subst hz
        have := fmod_range n' (m := 1009) (by decide)
        exact big_le (n := 1009) (by omega) (by decide +kernel))
  refine ⟨l', n', f', exe_forr (its := rangeL 0 40) ?_ h1, by rw [h2]; simp [rangeL], h3⟩
  simp [evI, ev, SV.pv, asInt, r62]
theorem free_B (a b d : Sl) (f : Sl) (l : List Int) (s n : Int) (g : Sl) (hl : l.length + 40 < szLine) (hb : ∀ z ∈ l, Big z) (hs : 0 ≤ s ∧ s < 2147483647) (hn : Big n) :
    ∃ l' s' g' f', exes fe freeB [a, b, .ow (il l), oi s, oi n, d, f, g] = .nx [a, b, .ow (il l'), oi s', oi n, d, f', g'] ∧ l'.length ≤ l.length + 40 ∧ (∀ z ∈ l', Big z) ∧ 0 ≤ s' ∧ s' < 2147483647 := by
  have m1 : mulOk s 48271 = true := mulOk_of (a := 30) (b := 15) (log_small (by omega)) (by decide +kernel) (by decide)
  have hs' := fmod_range (s * 48271 + n.fmod 2147483647) (m := 2147483647) (by decide)
  by_cases hc : (10 : Int) ^ 18 ≤ n
  · obtain ⟨l', n', f', h1, h2, h3⟩ := free_A40 (fe := fe) a b (oi ((s * 48271 + n.fmod 2147483647).fmod 2147483647)) (oi n) d l n g hl hb
    refine ⟨l', _, f', oi n', ?_, by omega, h3, hs'⟩
    simp [freeB, exes, exe, ev, evBs, rd, valOf, isPath, binop, modV, addV, mulV, powV, cmpop, tstOf, biop, intV, m1, SV.pv] at h1 ⊢
    have hc : (1000000000000000000 : Int) ≤ n := hc
    simp [hc, h1]
  · refine ⟨l ++ [n], _, g, oi n, ?_, by rw [List.length_append]; simp, fun z hz => ?_, hs'⟩
    · have hl' : l.length < szLine := by omega
      have hc : ¬ (1000000000000000000 : Int) ≤ n := hc
      simp [freeB, exes, exe, ev, evP, evBs, rd, getL, getO, getAt, asL, elemOf, isKeep, valOf, isPath, binop, modV, addV, mulV, powV, cmpop, tstOf, biop, intV, m1, SV.pv, hc, updS, updAt, gApp, hl', il]
    · rcases List.mem_append.mp hz with hz | hz
      · exact hb z hz
      · have hz : z = n := by simpa using hz
        rw [hz]; exact hn
theorem free_C (a f g x4 : Sl) (l : List Int) (s at_ : Int) (count : Sl) (hl : l.length < szLine) (hs : 0 ≤ s ∧ s < 2147483647) (ha : 0 ≤ at_ ∧ at_ < 1073741824) :
    exes fe freeC [a, count, .ow (il l), oi s, x4, oi at_, f, g] = .nx [a, count, .ow (il (l ++ [((s * 48271 + at_ * 69621 + 11).fmod 2147483647).fdiv 5])), oi ((s * 48271 + at_ * 69621 + 11).fmod 2147483647), x4, oi at_, f, g] := by
  have m1 : mulOk s 48271 = true := mulOk_of (a := 30) (b := 15) (log_small (by omega)) (by decide +kernel) (by decide)
  have m2 : mulOk at_ 69621 = true := mulOk_of (a := 30) (b := 16) (log_small (by omega)) (by decide +kernel) (by decide)
  simp [freeC, exes, exe, ev, evP, evBs, rd, getL, getO, getAt, asL, elemOf, isKeep, valOf, isPath, binop, modV, addV, mulV, fdivV, biop, intV, m1, m2, divOk_5, SV.pv, updS, updAt, gApp, hl, il]
theorem cut63 (ns : List Int) (h : ns.length ≤ 63) : cut ns none (some 63) = ns := by
  unfold cut sIxP
  simp only [List.drop_zero, show ((63 : Int) < 0) = False from by decide, if_false, show (63 : Int).toNat = 63 from rfl, Nat.min_eq_right h, Nat.sub_zero, List.take_length]
theorem pvs_ints : ∀ ns : List Int, SV.pvs (ns.map iv) = ns.map PV.int
  | [] => rfl
  | x :: xs => by show PV.int x :: SV.pvs _ = _; rw [pvs_ints xs]; rfl
theorem free_S1 (ns : List Int) (hb : ∀ z ∈ ns, Big z) (hn : ns.length ≤ 63) (count : Sl) :
    ∃ l s x4 x6 x7, loopF (.nm 4) (exes fe freeB) (ns.map fun i => Itm.one (oi i)) [.ow (.fz (.scr ns)), count, .ow (il []), oi 7, .no, .no, .no, .no] = .nx [.ow (.fz (.scr ns)), count, .ow (il l), oi s, x4, .no, x6, x7] ∧ l.length ≤ 2520 ∧ (∀ z ∈ l, Big z) ∧ 0 ≤ s ∧ s < 2147483647 := by
  obtain ⟨S1, h1, l1, s1, x4, x6, x7, rfl, k1, k2, k3⟩ := loopF_rel (tg := .nm 4) (body := exes fe freeB) (its := ns.map fun i => Itm.one (oi i)) (S := [.ow (.fz (.scr ns)), count, .ow (il []), oi 7, .no, .no, .no, .no])
    (fun i S => ∃ l s x4 x6 x7, S = [.ow (.fz (.scr ns)), count, .ow (il l), oi s, x4, .no, x6, x7] ∧ l.length ≤ 40 * i ∧ (∀ z ∈ l, Big z) ∧ 0 ≤ s ∧ s < 2147483647)
    ⟨[], 7, .no, .no, .no, rfl, Nat.zero_le _, fun _ h => (nomatch h), by omega, by omega⟩ (fun i S x hx ⟨l, s, x4, x6, x7, e1, e2, e3, e4⟩ => by
      subst e1
      have hi : i < ns.length := by
        have := (List.getElem?_eq_some_iff.mp hx).1
        rwa [List.length_map] at this
      have hx : x = Itm.one (oi ns[i]) := by
        have := (List.getElem?_eq_some_iff.mp hx).2
        rw [← this, List.getElem_map]
      subst hx
      have hl : l.length + 40 < szLine := by unfold szLine; omega
      obtain ⟨l', s', g', f', h1, h2, h3, h4⟩ := free_B (fe := fe) (.ow (.fz (.scr ns))) count .no x6 l s ns[i] x7 hl e3 e4 (hb _ (List.getElem_mem hi))
      exact ⟨_, rfl, _, .inl h1, l', s', _, f', g', rfl, by omega, h3, h4⟩)
  rw [List.length_map] at k1
  exact ⟨l1, s1, x4, x6, x7, h1, by omega, k2, k3⟩
theorem free_S2 (a x4 x6 x7 : Sl) (l1 : List Int) (s1 : Int) (count : Nat) (hc : count ≤ 1000000) (hl1 : l1.length ≤ 2520) (k2 : ∀ z ∈ l1, Big z) (k3 : 0 ≤ s1 ∧ s1 < 2147483647) :
    ∃ l s x5 y6 y7, loopF (.nm 5) (exes fe freeC) (rangeL 0 count) [a, oi count, .ow (il l1), oi s1, x4, .no, x6, x7] = .nx [a, oi count, .ow (il l), oi s, x4, x5, y6, y7] ∧ l.length = l1.length + count ∧ ∀ z ∈ l, Big z := by
  obtain ⟨S2, h2, l2, s2, x5, y6, y7, rfl, k4, k5, k6⟩ := loopF_rel (tg := .nm 5) (body := exes fe freeC) (its := rangeL 0 count) (S := [a, oi count, .ow (il l1), oi s1, x4, .no, x6, x7])
    (fun i S => ∃ l s x5 x6 x7, S = [a, oi count, .ow (il l), oi s, x4, x5, x6, x7] ∧ l.length = l1.length + i ∧ (∀ z ∈ l, Big z) ∧ 0 ≤ s ∧ s < 2147483647)
    ⟨l1, s1, .no, x6, x7, rfl, rfl, k2, k3⟩ (fun i S x hx ⟨l, s, x5, y6, y7, e1, e2, e3, e4⟩ => by
      subst e1
      have hi : i < count := by
        have := (List.getElem?_eq_some_iff.mp hx).1
        simpa [rangeL] using this
      have hx : x = oneI (.int i) := by
        have := (List.getElem?_eq_some_iff.mp hx).2
        rw [← this]
        simp [rangeL]
      subst hx
      have hl : l.length < szLine := by unfold szLine; omega
      refine ⟨_, rfl, _, .inl (free_C a y6 y7 x4 l s i _ hl e4 (by omega)), _, _, _, _, _, rfl, by rw [List.length_append, e2, List.length_singleton]; omega, fun z hz => ?_, fmod_range _ (by omega)⟩
      rcases List.mem_append.mp hz with hz | hz
      · exact e3 z hz
      · have hz := List.mem_singleton.mp hz
        subst hz
        have := fmod_range (s * 48271 + (i : Int) * 69621 + 11) (m := 2147483647) (by omega)
        generalize (s * 48271 + (i : Int) * 69621 + 11).fmod 2147483647 = t at this
        refine big_le (n := 2147483647) ?_ (by decide +kernel)
        rw [Int.fdiv_eq_ediv_of_nonneg _ (by omega)]
        omega)
  have hl2 : l2.length = l1.length + count := by simpa [rangeL] using k4
  exact ⟨l2, s2, x5, y6, y7, h2, hl2, k5⟩
theorem free_i1 (ns : List Int) (hn : ns.length ≤ 63) (a b c d e f g : Sl) : evI fe (.ex (.sl (.v 0) (.c .non) (.c (.int 63)))) [.ow (.fz (.scr ns)), a, b, c, d, e, f, g] = .ok ((ns.map fun i => Itm.one (oi i), []), [.ow (.fz (.scr ns)), a, b, c, d, e, f, g]) := by
  have e := pvs_ints ns
  simp [evI, ev, rd, srOf, valOf, isPath, optOf, isNonE, asInt, SV.pv, cutIt, cut63 ns hn, srcAt, srcP, e, fzI]
theorem r62_of' {i : Int} (h : i.natAbs ≤ 1000000000) : r62 i = true := decide_eq_true (Nat.lt_of_le_of_lt h (by decide +kernel))
theorem free_i2 (c : Int) (h : r62 c = true) (a b d x e f g : Sl) : evI fe (.r1 (.v 1)) [a, oi c, b, d, x, e, f, g] = .ok ((rangeL 0 c, []), [a, oi c, b, d, x, e, f, g]) := by
  simp [evI, ev, rd, SV.pv, asInt, h]
theorem free_S (ns : List Int) (hn : ns.length ≤ 63) (hb : ∀ z ∈ ns, Big z) (count : Nat) (hc : count ≤ 1000000) :
    ∃ l, fin (exes fe freeS (stS ⟨2, 8, freeS⟩ [.ow (.fz (.scr ns)), oi count])) = .ok (il l) ∧ count ≤ l.length ∧ l.length ≤ 2520 + count ∧ ∀ z ∈ l, Big z := by
  obtain ⟨l1, s1, x4, x6, x7, h1, k1, k2, k3⟩ := free_S1 (fe := fe) ns hb hn (oi count)
  obtain ⟨l2, s2, x5, y6, y7, h2, k4, k5⟩ := free_S2 (fe := fe) (.ow (.fz (.scr ns))) x4 x6 x7 l1 s1 count hc k1 k2 k3
  refine ⟨l2, ?_, by omega, by omega, k5⟩
  have f1 := exe_forr (free_i1 (fe := fe) ns hn (oi count) (.ow (il [])) (oi 7) .no .no .no .no) h1
  have f2 := exe_forr (free_i2 (fe := fe) count (r62_of' (by omega)) (.ow (.fz (.scr ns))) (.ow (il l1)) (oi s1) x4 .no x6 x7) h2
  have g1 : exe fe (.asg 2 (.lst .nil)) [.ow (.fz (.scr ns)), oi count, .no, .no, .no, .no, .no, .no] = .nx [.ow (.fz (.scr ns)), oi count, .ow (il []), .no, .no, .no, .no, .no] := by
    simp [exe, ev, evs, valOf, isPath, il]
  have g2 : exe fe (.asg 3 (.c (.int 7))) [.ow (.fz (.scr ns)), oi count, .ow (il []), .no, .no, .no, .no, .no] = .nx [.ow (.fz (.scr ns)), oi count, .ow (il []), oi 7, .no, .no, .no, .no] := by
    simp [exe, ev, valOf, isPath]
  have g3 : exe fe (.retM 2) [.ow (.fz (.scr ns)), oi count, .ow (il l2), oi s2, x4, x5, y6, y7] = .rt (il l2) := by
    simp [exe]
  have st : stS ⟨2, 8, freeS⟩ [.ow (.fz (.scr ns)), oi count] = [.ow (.fz (.scr ns)), oi count, .no, .no, .no, .no, .no, .no] := rfl
  rw [st]
  simp only [freeS, exes, g1, g2, seqOut_nx, f1, f2, g3, seqOut_rt, fin]
end
end PL

namespace PL
def ee (a b : Nat) : Int := if a > b then -1 else 1
def sg : List Nat → Nat → Int
  | [], _ => 1
  | o :: us, a => ee o a * sg us a
theorem sg_snoc (a o : Nat) : ∀ us : List Nat, sg (us ++ [o]) a = sg us a * ee o a
  | [] => by simp [sg]
  | u :: us => by show ee u a * sg (us ++ [o]) a = _; rw [sg_snoc a o us]; show _ = ee u a * sg us a * ee o a; rw [Int.mul_assoc]
theorem sg_perm {us vs : List Nat} (p : us.Perm vs) (a : Nat) : sg us a = sg vs a := by
  induction p with
  | nil => rfl
  | cons x _ ih => show ee x a * _ = ee x a * _; rw [ih]
  | swap x y l => show ee y a * (ee x a * sg l a) = ee x a * (ee y a * sg l a); rw [← Int.mul_assoc, ← Int.mul_assoc, Int.mul_comm (ee y a)]
  | trans _ _ h1 h2 => exact h1.trans h2
def sm (n : Nat) (f : Nat → Int) : Int := ((List.range n).map f).sum
theorem sm_zero (f : Nat → Int) : sm 0 f = 0 := rfl
theorem sm_succ (n : Nat) (f : Nat → Int) : sm (n + 1) f = sm n f + f n := by
  unfold sm; rw [List.range_succ, List.map_append, List.sum_append]; simp
theorem sm_congr {n : Nat} {f g : Nat → Int} (h : ∀ a, a < n → f a = g a) : sm n f = sm n g := by
  induction n with
  | zero => rfl
  | succ n ih => rw [sm_succ, sm_succ, ih fun a ha => h a (by omega), h n (by omega)]
theorem sm_lin (n : Nat) (p q : Int) (f g : Nat → Int) : sm n (fun a => p * f a + q * g a) = p * sm n f + q * sm n g := by
  induction n with
  | zero => simp [sm_zero]
  | succ n ih => rw [sm_succ, sm_succ, sm_succ, ih]; rw [Int.mul_add, Int.mul_add]; omega
theorem sm_const0 (n : Nat) : sm n (fun _ => 0) = 0 := by
  induction n with
  | zero => rfl
  | succ n ih => rw [sm_succ, ih]; rfl
theorem sm_add (n : Nat) (f g : Nat → Int) : sm n (fun a => f a + g a) = sm n f + sm n g := by
  have := sm_lin n 1 1 f g
  simpa using this
theorem sm_mul (n : Nat) (p : Int) (f : Nat → Int) : sm n (fun a => p * f a) = p * sm n f := by
  have := sm_lin n p 0 f f
  simpa using this
theorem sm_swap (n m : Nat) (F : Nat → Nat → Int) : sm n (fun a => sm m fun b => F a b) = sm m fun b => sm n fun a => F a b := by
  induction n with
  | zero => show (0 : Int) = sm m fun _ => 0; rw [sm_const0]
  | succ n ih =>
    rw [sm_succ, ih, ← sm_add]
    exact sm_congr fun b _ => (sm_succ n fun a => F a b).symm
theorem sm_anti {n : Nat} {F : Nat → Nat → Int} (h : ∀ a b, F a b = -F b a) : sm n (fun a => sm n fun b => F a b) = 0 := by
  have e := sm_swap n n F
  have e2 : sm n (fun b => sm n fun a => F a b) = -1 * sm n (fun a => sm n fun b => F a b) := by
    rw [← sm_mul]
    refine sm_congr fun a _ => ?_
    rw [← sm_mul]
    refine sm_congr fun b _ => ?_
    rw [h b a]; omega
  rw [e2] at e
  omega
theorem sm_single {n k : Nat} (hk : k < n) {f : Nat → Int} (h : ∀ a, a < n → a ≠ k → f a = 0) : sm n f = f k := by
  induction n with
  | zero => omega
  | succ n ih =>
    rw [sm_succ]
    by_cases e : k = n
    · subst e
      have : sm k f = sm k fun _ => 0 := sm_congr fun a ha => h a (by omega) (by omega)
      rw [this, sm_const0, Int.zero_add]
    · rw [ih (by omega) fun a ha hk' => h a (by omega) hk', h n (by omega) (fun z => e z.symm), Int.add_zero]
abbrev Vec := Nat → Int
def dets (n : Nat) : List Vec → List Nat → Int
  | [], _ => 1
  | r :: rs, us => sm n fun a => if a ∈ us then 0 else sg us a * r a * dets n rs (us ++ [a])
theorem dets_perm (n : Nat) : ∀ (rs : List Vec) {us vs : List Nat}, us.Perm vs → dets n rs us = dets n rs vs
  | [], _, _, _ => rfl
  | r :: rs, us, vs, p => by
    unfold dets
    refine sm_congr fun a _ => ?_
    rw [dets_perm n rs (p.append_right [a]), sg_perm p a]
    by_cases h : a ∈ us
    · rw [if_pos h, if_pos (p.mem_iff.mp h)]
    · rw [if_neg h, if_neg (fun z => h (p.mem_iff.mpr z))]
/-- linear in every place -/
theorem dets_lin (n : Nat) (p q : Int) (x y : Vec) (l2 : List Vec) : ∀ (l1 : List Vec) (us : List Nat), dets n (l1 ++ (fun k => p * x k + q * y k) :: l2) us = p * dets n (l1 ++ x :: l2) us + q * dets n (l1 ++ y :: l2) us
  | [], us => by
    show sm n _ = p * sm n _ + q * sm n _
    rw [← sm_lin]
    refine sm_congr fun a _ => ?_
    by_cases h : a ∈ us
    · simp only [if_pos h, Int.mul_zero, Int.add_zero]
    · simp only [if_neg h]
      generalize sg us a = s
      generalize dets n l2 (us ++ [a]) = t
      generalize x a = u
      generalize y a = v
      grind
  | r :: l1, us => by
    show sm n _ = p * sm n _ + q * sm n _
    rw [← sm_lin]
    refine sm_congr fun a _ => ?_
    by_cases h : a ∈ us
    · simp only [if_pos h, Int.mul_zero, Int.add_zero]
    · simp only [if_neg h]
      have ih := dets_lin n p q x y l2 l1 (us ++ [a])
      simp only [List.append_eq] at ih ⊢
      rw [ih]
      grind
/-- two neighbours alike -/
theorem dets_adj (n : Nat) (x : Vec) (l2 : List Vec) : ∀ (l1 : List Vec) (us : List Nat), dets n (l1 ++ x :: x :: l2) us = 0
  | [], us => by
    have e : dets n (x :: x :: l2) us = sm n fun a => sm n fun b => if a ∈ us ∨ b ∈ us ∨ a = b then 0 else sg us a * sg us b * ee a b * (x a * x b) * dets n l2 (us ++ [a] ++ [b]) := by
      show sm n _ = _
      refine sm_congr fun a _ => ?_
      by_cases h : a ∈ us
      · rw [if_pos h]
        rw [show (fun b => if a ∈ us ∨ b ∈ us ∨ a = b then 0 else sg us a * sg us b * ee a b * (x a * x b) * dets n l2 (us ++ [a] ++ [b])) = fun _ => 0 from funext fun b => if_pos (.inl h), sm_const0]
      · rw [if_neg h]
        show sg us a * x a * sm n _ = _
        rw [← sm_mul]
        refine sm_congr fun b _ => ?_
        have hm : b ∈ us ++ [a] ↔ (b ∈ us ∨ a = b) := by
          rw [List.mem_append, List.mem_singleton]
          exact ⟨fun z => z.imp id Eq.symm, fun z => z.imp id Eq.symm⟩
        by_cases h2 : b ∈ us ∨ a = b
        · rw [if_pos (hm.mpr h2), if_pos (.inr h2), Int.mul_zero]
        · rw [if_neg (fun z => h2 (hm.mp z)), if_neg (by rintro (z | z); exact h z; exact h2 z), sg_snoc]
          generalize dets n l2 (us ++ [a] ++ [b]) = t
          grind
    rw [List.nil_append, e]
    refine sm_anti fun a b => ?_
    by_cases h : a ∈ us ∨ b ∈ us ∨ a = b
    · rw [if_pos h, if_pos (by rcases h with h | h | h; exact .inr (.inl h); exact .inl h; exact .inr (.inr h.symm))]; rfl
    · rw [if_neg h, if_neg (by rintro (z | z | z); exact h (.inr (.inl z)); exact h (.inl z); exact h (.inr (.inr z.symm)))]
      have hp : dets n l2 (us ++ [a] ++ [b]) = dets n l2 (us ++ [b] ++ [a]) := dets_perm n l2 (by
        rw [List.append_assoc, List.append_assoc]
        exact List.Perm.append_left us (List.Perm.swap _ _ _))
      have he : ee a b = -ee b a := by
        unfold ee
        have : a ≠ b := fun z => h (.inr (.inr z))
        by_cases hab : a > b
        · rw [if_pos hab, if_neg (by omega)]
        · rw [if_neg hab, if_pos (by omega)]; rfl
      rw [hp, he]
      generalize dets n l2 (us ++ [b] ++ [a]) = t
      grind
  | r :: l1, us => by
    show sm n _ = 0
    refine (sm_congr (g := fun _ => 0) fun a _ => ?_).trans (sm_const0 n)
    by_cases h : a ∈ us
    · rw [if_pos h]
    · rw [if_neg h]
      have ih := dets_adj n x l2 l1 (us ++ [a])
      simp only [List.append_eq] at ih ⊢
      rw [ih, Int.mul_zero]
/-- neighbours change their places -/
theorem dets_swap (n : Nat) (x y : Vec) (l1 l2 : List Vec) (us : List Nat) : dets n (l1 ++ x :: y :: l2) us = -dets n (l1 ++ y :: x :: l2) us := by
  have h := dets_adj n (fun k => 1 * x k + 1 * y k) l2 l1 us
  rw [dets_lin n 1 1 x y ((fun k => 1 * x k + 1 * y k) :: l2) l1 us] at h
  have h1 := dets_lin n 1 1 x y l2 (l1 ++ [x]) us
  have h2 := dets_lin n 1 1 x y l2 (l1 ++ [y]) us
  rw [List.append_assoc, List.append_assoc, List.append_assoc] at h1 h2
  simp only [List.singleton_append] at h1 h2
  rw [h1, h2, dets_adj, dets_adj] at h
  omega
/-- two alike -/
theorem dets_two (n : Nat) (x : Vec) (l3 : List Vec) : ∀ (l2 l1 : List Vec) (us : List Nat), dets n (l1 ++ x :: (l2 ++ x :: l3)) us = 0
  | [], l1, us => dets_adj n x l3 l1 us
  | y :: l2, l1, us => by
    have ih := dets_two n x l3 l2 (l1 ++ [y]) us
    rw [List.append_assoc] at ih
    have e := dets_swap n x y l1 (l2 ++ x :: l3) us
    rw [List.cons_append, e]
    rw [List.singleton_append] at ih
    rw [ih]
    rfl
/-- two change their places -/
theorem dets_swap2 (n : Nat) (x y : Vec) (l1 l2 l3 : List Vec) (us : List Nat) : dets n (l1 ++ x :: (l2 ++ y :: l3)) us = -dets n (l1 ++ y :: (l2 ++ x :: l3)) us := by
  have h := dets_two n (fun k => 1 * x k + 1 * y k) l3 l2 l1 us
  rw [dets_lin n 1 1 x y (l2 ++ (fun k => 1 * x k + 1 * y k) :: l3) l1 us] at h
  have h1 := dets_lin n 1 1 x y l3 (l1 ++ x :: l2) us
  have h2 := dets_lin n 1 1 x y l3 (l1 ++ y :: l2) us
  simp only [List.append_assoc, List.cons_append] at h1 h2
  rw [h1, h2, dets_two, dets_two] at h
  omega
end PL

namespace PL
theorem split_at {α : Type} {l : List α} {p : Nat} (h : p < l.length) : l = l.take p ++ l[p] :: l.drop (p + 1) := by
  rw [List.getElem_cons_drop, List.take_append_drop]
theorem set_split {α : Type} {l : List α} {p : Nat} (h : p < l.length) (v : α) : l.set p v = l.take p ++ v :: l.drop (p + 1) := List.set_eq_take_append_cons_drop.trans (if_pos h)
theorem det_lin (n : Nat) {l : List Vec} {p : Nat} (h : p < l.length) (a b : Int) (x y : Vec) (us : List Nat) : dets n (l.set p fun k => a * x k + b * y k) us = a * dets n (l.set p x) us + b * dets n (l.set p y) us := by
  rw [set_split h, set_split h, set_split h, dets_lin]
/-- a place that holds what another holds -/
theorem det_same (n : Nat) {l : List Vec} {i s : Nat} (hi : i < l.length) (hs : s < l.length) (h : i ≠ s) (us : List Nat) : dets n (l.set i l[s]) us = 0 := by
  rw [set_split hi]
  by_cases hlt : i < s
  · have e : l.drop (i + 1) = (l.drop (i + 1)).take (s - (i + 1)) ++ l[s] :: (l.drop (i + 1)).drop (s - (i + 1) + 1) := by
      have := split_at (l := l.drop (i + 1)) (p := s - (i + 1)) (by rw [List.length_drop]; omega)
      rw [List.getElem_drop] at this
      have e2 : i + 1 + (s - (i + 1)) = s := by omega
      simp only [e2] at this
      exact this
    rw [e]
    exact dets_two n _ _ _ _ us
  · have e : l.take i = (l.take i).take s ++ l[s] :: (l.take i).drop (s + 1) := by
      have := split_at (l := l.take i) (p := s) (by rw [List.length_take]; omega)
      rw [List.getElem_take] at this
      exact this
    rw [e, List.append_assoc, List.cons_append]
    exact dets_two n _ _ _ _ us
/-- two places exchanged -/
theorem det_exch (n : Nat) {l : List Vec} {i s : Nat} (hi : i < l.length) (hs : s < l.length) (h : i ≠ s) (us : List Nat) : dets n ((l.set i l[s]).set s l[i]) us = -dets n l us := by
  -- by the sum at both places
  have hi2 : ∀ v, i < (l.set s v).length := fun v => by rw [List.length_set]; exact hi
  have hs2 : ∀ v, s < (l.set i v).length := fun v => by rw [List.length_set]; exact hs
  have key : dets n ((l.set i fun k => 1 * l[i] k + 1 * l[s] k).set s fun k => 1 * l[i] k + 1 * l[s] k) us = 0 := by
    have := det_same n (l := l.set i fun k => 1 * l[i] k + 1 * l[s] k) (i := s) (s := i) (hs2 _) (by rw [List.length_set]; exact hi) (Ne.symm h) us
    rw [List.getElem_set_self] at this
    exact this
  rw [det_lin n (hs2 _), List.set_comm _ _ h, List.set_comm _ _ h, det_lin n (hi2 _), det_lin n (hi2 _)] at key
  have a1 : dets n ((l.set s l[i]).set i l[i]) us = 0 := by
    rw [List.set_comm _ _ (Ne.symm h), List.set_getElem_self]
    exact det_same n hs hi (Ne.symm h) us
  have a2 : dets n ((l.set s l[s]).set i l[s]) us = 0 := by
    rw [List.set_getElem_self]
    exact det_same n hi hs h us
  have a3 : (l.set s l[s]).set i l[i] = l := by rw [List.set_getElem_self, List.set_getElem_self]
  rw [a1, a2, a3, List.set_comm _ _ (Ne.symm h)] at key
  omega
/-- what makes one step of the elimination with a determinant: d * new = lead * old - f * other -/
theorem det_step (n : Nat) {l : List Vec} {i s : Nat} (hi : i < l.length) (hs : s < l.length) (h : i ≠ s) (d lead f : Int) (v : Vec) (hv : ∀ k, d * v k = lead * l[i] k - f * l[s] k) (us : List Nat) : d * dets n (l.set i v) us = lead * dets n l us := by
  have e1 := det_lin n hi d 0 v v us
  have e2 := det_lin n hi lead (-f) l[i] l[s] us
  have ef : (fun k => d * v k + 0 * v k) = fun k => lead * l[i] k + -f * l[s] k := funext fun k => by
    have := hv k
    rw [Int.zero_mul, Int.add_zero, this, Int.neg_mul]
    rfl
  rw [ef, e2, det_same n hi hs h, List.set_getElem_self] at e1
  omega
/-- only the first n numbers of a row count -/
theorem dets_congr (n : Nat) : ∀ {l m : List Vec} (us : List Nat), l.length = m.length → (∀ i (h : i < l.length) (h' : i < m.length) k, k < n → l[i] k = m[i] k) → dets n l us = dets n m us
  | [], [], _, _, _ => rfl
  | [], _ :: _, _, h, _ => by simp at h
  | _ :: _, [], _, h, _ => by simp at h
  | r :: l, q :: m, us, hl, h => by
    unfold dets
    refine sm_congr fun a ha => ?_
    have e := h 0 (by simp) (by simp) a ha
    simp only [List.getElem_cons_zero] at e
    rw [e, dets_congr n (l := l) (m := m) (us ++ [a]) (by simpa using hl) fun i h1 h2 k hk => by
      have := h (i + 1) (by simpa using h1) (by simpa using h2) k hk
      simpa using this]
/-- rows that leave too few places -/
theorem dets_few (n s : Nat) : ∀ (rs : List Vec) (us : List Nat), (∀ r ∈ rs, ∀ k, k ≤ s → r k = 0) → ((List.range n).filter fun k => decide (s < k) && decide (k ∉ us)).length < rs.length → dets n rs us = 0
  | [], us, _, h => by simp at h
  | r :: rs, us, hr, h => by
    unfold dets
    refine (sm_congr (g := fun _ => 0) fun a ha => ?_).trans (sm_const0 n)
    by_cases hu : a ∈ us
    · rw [if_pos hu]
    · rw [if_neg hu]
      by_cases has : a ≤ s
      · rw [hr r List.mem_cons_self a has, Int.mul_zero, Int.zero_mul]
      · rw [dets_few n s rs (us ++ [a]) (fun q hq => hr q (List.mem_cons_of_mem _ hq)) ?_, Int.mul_zero]
        have hsub : ∀ (l : List Nat), l.Nodup → a ∈ l → (l.filter fun k => decide (s < k) && decide (k ∉ us ++ [a])).length + 1 ≤ (l.filter fun k => decide (s < k) && decide (k ∉ us)).length := fun l => by
          induction l with
          | nil => intro _ h; cases h
          | cons b l ih =>
            intro nd hm
            obtain ⟨nb, nd⟩ := List.nodup_cons.mp nd
            by_cases e : b = a
            · subst e
              have e1 : (decide (s < b) && decide (b ∉ us ++ [b])) = false := by simp
              have e2 : (decide (s < b) && decide (b ∉ us)) = true := by simp [hu]; omega
              rw [List.filter_cons, List.filter_cons, e1, e2]
              simp only [Bool.false_eq_true, if_false, if_true, List.length_cons]
              have : l.filter (fun k => decide (s < k) && decide (k ∉ us ++ [b])) = l.filter (fun k => decide (s < k) && decide (k ∉ us)) := by
                refine List.filter_congr fun k hk => ?_
                have hkb : k ≠ b := fun z => nb (by rw [← z]; exact hk)
                simp [hkb]
              rw [this]
              exact Nat.le_refl _
            · have hm : a ∈ l := by
                rcases List.mem_cons.mp hm with z | z
                · exact absurd z.symm e
                · exact z
              have := ih nd hm
              have e1 : (decide (s < b) && decide (b ∉ us ++ [a])) = (decide (s < b) && decide (b ∉ us)) := by simp [e]
              rw [List.filter_cons, List.filter_cons, e1]
              by_cases c : (decide (s < b) && decide (b ∉ us)) = true
              · rw [if_pos c, if_pos c, List.length_cons, List.length_cons]; omega
              · rw [if_neg c, if_neg c]; exact this
        have := hsub (List.range n) List.nodup_range (List.mem_range.mpr ha)
        rw [List.length_cons] at h
        omega
theorem few_high (n s : Nat) (us : List Nat) (hs : s < n) : ((List.range n).filter fun k => decide (s < k) && decide (k ∉ us)).length ≤ n - s - 1 := by
  have h1 : ((List.range n).filter fun k => decide (s < k) && decide (k ∉ us)).length ≤ ((List.range n).filter fun k => decide (s < k)).length := by
    have : ∀ l : List Nat, (l.filter fun k => decide (s < k) && decide (k ∉ us)).length ≤ (l.filter fun k => decide (s < k)).length := fun l => by
      induction l with
      | nil => exact Nat.le_refl _
      | cons b l ih =>
        rw [List.filter_cons, List.filter_cons]
        by_cases c : decide (s < b) = true
        · rw [c]
          by_cases c2 : decide (b ∉ us) = true
          · rw [c2]; simpa using ih
          · have c2 : decide (b ∉ us) = false := by simpa using c2
            rw [c2]
            simp only [Bool.and_false, Bool.false_eq_true, if_false, if_true, List.length_cons]
            omega
        · have c : decide (s < b) = false := by simpa using c
          rw [c]
          simpa using ih
    exact this _
  have h2 : ∀ m, ((List.range m).filter fun k => decide (s < k)).length = m - (s + 1) := fun m => by
    induction m with
    | zero => simp
    | succ m ih =>
      rw [List.range_succ, List.filter_append, List.length_append, ih, List.filter_cons]
      by_cases c : s < m
      · rw [if_pos (by simpa using c)]; simp; omega
      · rw [if_neg (by simpa using c)]; simp; omega
  have := h2 n
  omega
/-- rows from s on are 0 up to s -/
theorem dets_sing (n s : Nat) (hs : s < n) (bot : List Vec) (hb : ∀ r ∈ bot, ∀ k, k ≤ s → r k = 0) (hl : bot.length = n - s) : ∀ (top : List Vec) (us : List Nat), dets n (top ++ bot) us = 0
  | [], us => dets_few n s bot us hb (by have := few_high n s us hs; omega)
  | r :: top, us => by
    rw [List.cons_append]
    unfold dets
    refine (sm_congr (g := fun _ => 0) fun a ha => ?_).trans (sm_const0 n)
    rw [dets_sing n s hs bot hb hl top (us ++ [a]), Int.mul_zero]
    split <;> rfl
end PL

namespace PL
/-- only the last row of a square block counts -/
theorem dets_in (s : Nat) (v : Vec) (hv : ∀ k, k < s → v k = 0) : ∀ (cs : List Vec) (us : List Nat), s ∈ us → dets (s + 1) (cs ++ [v]) us = 0
  | [], us, h => by
    show sm (s + 1) _ = 0
    refine (sm_congr (g := fun _ => 0) fun a ha => ?_).trans (sm_const0 _)
    by_cases hu : a ∈ us
    · rw [if_pos hu]
    · have : a ≠ s := fun z => hu (by rw [z]; exact h)
      rw [if_neg hu, hv a (by omega), Int.mul_zero, Int.zero_mul]
  | c :: cs, us, h => by
    rw [List.cons_append]
    unfold dets
    refine (sm_congr (g := fun _ => 0) fun a ha => ?_).trans (sm_const0 _)
    rw [dets_in s v hv cs (us ++ [a]) (List.mem_append_left _ h), Int.mul_zero]
    split <;> rfl
theorem sg_low {us : List Nat} {s : Nat} (h : ∀ o ∈ us, o < s) : sg us s = 1 := by
  induction us with
  | nil => rfl
  | cons o us ih =>
    show ee o s * sg us s = 1
    rw [ih fun x hx => h x (List.mem_cons_of_mem _ hx)]
    unfold ee
    rw [if_neg (by have := h o List.mem_cons_self; omega)]
    rfl
theorem dets_last (s : Nat) (v : Vec) (hv : ∀ k, k < s → v k = 0) : ∀ (cs : List Vec) (us : List Nat), (∀ o ∈ us, o < s) → dets (s + 1) (cs ++ [v]) us = v s * dets s cs us
  | [], us, h => by
    show sm (s + 1) _ = v s * 1
    rw [sm_single (k := s) (by omega) (fun a ha hne => by
      by_cases hu : a ∈ us
      · rw [if_pos hu]
      · rw [if_neg hu, hv a (by omega), Int.mul_zero, Int.zero_mul]), if_neg (fun z => absurd (h s z) (by omega)), sg_low h]
    show 1 * v s * 1 = v s * 1
    omega
  | c :: cs, us, h => by
    rw [List.cons_append]
    unfold dets
    rw [sm_succ, ← sm_mul]
    have e0 : (if s ∈ us then (0 : Int) else sg us s * c s * dets (s + 1) (cs ++ [v]) (us ++ [s])) = 0 := by
      rw [dets_in s v hv cs (us ++ [s]) (List.mem_append_right _ List.mem_cons_self), Int.mul_zero]
      split <;> rfl
    rw [e0, Int.add_zero]
    refine sm_congr fun a ha => ?_
    by_cases hu : a ∈ us
    · rw [if_pos hu, if_pos hu, Int.mul_zero]
    · rw [if_neg hu, if_neg hu, dets_last s v hv cs (us ++ [a]) fun o ho => by
        rcases List.mem_append.mp ho with z | z
        · exact h o z
        · have := List.mem_singleton.mp z; omega]
      generalize dets s cs (us ++ [a]) = t
      grind
/-- a combination of the entries in a place -/
theorem det_comb (n : Nat) {l : List Vec} {i : Nat} (hi : i < l.length) (us : List Nat) (c : Nat → Int) : ∀ t, t ≤ l.length →
    dets n (l.set i fun k => sm t fun q => c q * (l.getD q fun _ => 0) k) us = (if i < t then c i else 0) * dets n l us
  | 0, _ => by
    rw [if_neg (by omega), Int.zero_mul]
    have := det_lin n hi 0 0 (fun _ => 0) (fun _ => 0) us
    simp only [Int.zero_mul, Int.add_zero] at this
    show dets n (l.set i fun k => sm 0 _) us = 0
    simp only [sm_zero]
    exact this
  | t + 1, ht => by
    have ih := det_comb n hi us c t (by omega)
    have e := det_lin n hi 1 (c t) (fun k => sm t fun q => c q * (l.getD q fun _ => 0) k) (l.getD t fun _ => 0) us
    have ef : (fun k => 1 * (sm t fun q => c q * (l.getD q fun _ => 0) k) + c t * (l.getD t fun _ => 0) k) = fun k => sm (t + 1) fun q => c q * (l.getD q fun _ => 0) k := funext fun k => by rw [sm_succ, Int.one_mul]
    rw [ef, ih] at e
    rw [e]
    have eg : (l.getD t fun _ => 0) = l[t] := by rw [List.getD_eq_getElem?_getD, List.getElem?_eq_getElem (by omega)]; rfl
    rw [eg]
    by_cases hit : i = t
    · subst hit
      rw [List.set_getElem_self, if_neg (by omega), if_pos (by omega), Int.zero_mul]
      omega
    · rw [det_same n hi (by omega) hit us]
      by_cases h : i < t
      · rw [if_pos h, if_pos (by omega)]; omega
      · rw [if_neg h, if_neg (by omega)]; omega
abbrev Mat := Nat → Nat → Int
def col (A : Mat) (j : Nat) : Vec := fun r => A r j
def cols (A : Mat) (s : Nat) : List Vec := (List.range s).map (col A)
theorem cols_len (A : Mat) (s : Nat) : (cols A s).length = s := by unfold cols; rw [List.length_map, List.length_range]
theorem cols_get (A : Mat) {s q : Nat} (h : q < s) : ((cols A s).getD q fun _ => 0) = col A q := by
  unfold cols
  rw [List.getD_eq_getElem?_getD, List.getElem?_map, List.getElem?_range h]
  rfl
/-- what is true after s steps: n rows -/
structure Elim (n s : Nat) (d : Int) (A W : Mat) : Prop where
  d0 : d ≠ 0
  sn : s ≤ n
  I : ∀ r j, r < n → d * A r j = (if s ≤ r then W r j else 0) + sm s fun i => A r i * W i j
  Z : ∀ r j, r < n → j < s → W r j = if r = j then d else 0
  M : dets s (cols A s) [] = d
theorem elim0 (n : Nat) (A : Mat) : Elim n 0 1 A A := by
  refine ⟨by decide, Nat.zero_le _, fun r j _ => ?_, fun r j _ h => by omega, rfl⟩
  rw [if_pos (Nat.zero_le _), sm_zero]; omega
/-- the pivot is the next minor -/
theorem Elim.minor {n s : Nat} {d : Int} {A W : Mat} (E : Elim n s d A W) (hs : s < n) : dets (s + 1) (cols A (s + 1)) [] = W s s := by
  have e1 : cols A (s + 1) = cols A s ++ [col A s] := by unfold cols; rw [List.range_succ, List.map_append]; rfl
  have hl : s < (cols A s ++ [col A s]).length := by rw [List.length_append, cols_len]; simp
  -- the combination at the last place
  have k1 := det_comb (s + 1) (l := cols A s ++ [col A s]) (i := s) hl [] (fun q => if q = s then d else -W q s) (s + 1) (by rw [List.length_append, cols_len]; simp)
  rw [if_pos (by omega), if_pos rfl] at k1
  have hset : ∀ v, (cols A s ++ [col A s]).set s v = cols A s ++ [v] := fun v => by
    rw [List.set_append_right _ _ (by rw [cols_len]; exact Nat.le_refl _), cols_len, Nat.sub_self]; rfl
  rw [hset] at k1
  have hv : ∀ r, r ≤ s → (sm (s + 1) fun q => (if q = s then d else -W q s) * ((cols A s ++ [col A s]).getD q fun _ => 0) r) = if r = s then W s s else 0 := fun r hr => by
    rw [sm_succ, if_pos rfl]
    have e2 : ((cols A s ++ [col A s]).getD s fun _ => 0) r = A r s := by
      rw [← e1, cols_get A (by omega)]; rfl
    rw [e2]
    have e3 : (sm s fun q => (if q = s then d else -W q s) * ((cols A s ++ [col A s]).getD q fun _ => 0) r) = -1 * sm s fun i => A r i * W i s := by
      rw [← sm_mul]
      refine sm_congr fun q hq => ?_
      rw [if_neg (by omega), ← e1, cols_get A (by omega)]
      show -W q s * A r q = _
      grind
    rw [e3]
    have := E.I r s (by omega)
    by_cases h : r = s
    · subst h
      rw [if_pos (Nat.le_refl _)] at this
      rw [if_pos rfl]
      omega
    · rw [if_neg (by omega)] at this
      rw [if_neg h]
      omega
  rw [dets_last s _ (fun k hk => by rw [hv k (by omega), if_neg (by omega)]) (cols A s) [] (fun _ h => nomatch h), E.M, hv s (Nat.le_refl _), if_pos rfl, ← e1] at k1
  have : d * (dets (s + 1) (cols A (s + 1)) [] - W s s) = 0 := by rw [Int.mul_sub]; grind
  rcases Int.mul_eq_zero.mp this with z | z
  · exact absurd z E.d0
  · omega
/-- the divisions have no rest -/
theorem Elim.exact {n s : Nat} {d : Int} {A W : Mat} (E : Elim n s d A W) (hs : s < n) (hp : W s s ≠ 0) (r j : Nat) (hr : r < n) (hrs : r ≠ s) : d ∣ W s s * W r j - W r s * W s j := by
  have Mn := E.minor hs
  have low : ∀ i, i < s → d ∣ W s s * W i j - W i s * W s j := fun i hi => by
    have hl : i < (cols A (s + 1)).length := by rw [cols_len]; omega
    have k1 := det_comb (s + 1) hl [] (fun q => if q = s then d * W s j else W s s * W q j - W q s * W s j) (s + 1) (by rw [cols_len]; exact Nat.le_refl _)
    rw [if_pos (by omega), if_neg (by omega), Mn] at k1
    have k2 := det_lin (s + 1) hl (d * W s s) 0 (col A j) (col A j) []
    have ec : dets (s + 1) ((cols A (s + 1)).set i fun k => d * W s s * col A j k + 0 * col A j k) [] = dets (s + 1) ((cols A (s + 1)).set i fun k => sm (s + 1) fun q => (if q = s then d * W s j else W s s * W q j - W q s * W s j) * ((cols A (s + 1)).getD q fun _ => 0) k) [] := by
      refine dets_congr (s + 1) [] (by rw [List.length_set, List.length_set]) fun p h1 h2 k hk => ?_
      by_cases hpi : i = p
      · subst hpi
        rw [List.getElem_set_self, List.getElem_set_self]
        rw [sm_succ, if_pos rfl, cols_get A (by omega), Int.zero_mul, Int.add_zero]
        have e3 : (sm s fun q => (if q = s then d * W s j else W s s * W q j - W q s * W s j) * ((cols A (s + 1)).getD q fun _ => 0) k) = W s s * (sm s fun i => A k i * W i j) + (-W s j) * sm s fun i => A k i * W i s := by
          rw [← sm_lin]
          refine sm_congr fun q hq => ?_
          rw [if_neg (by omega), cols_get A (by omega)]
          show (W s s * W q j - W q s * W s j) * A k q = _
          grind
        rw [e3]
        have i1 := E.I k j (by omega)
        have i2 := E.I k s (by omega)
        show d * W s s * A k j = _ + d * W s j * A k s
        by_cases hks : s ≤ k
        · have : k = s := by omega
          subst this
          rw [if_pos (Nat.le_refl _)] at i1 i2
          generalize (sm k fun i => A k i * W i j) = x at *
          generalize (sm k fun i => A k i * W i k) = y at *
          have hx : x = d * A k j - W k j := by omega
          have hy : y = d * A k k - W k k := by omega
          subst hx hy
          grind
        · rw [if_neg hks] at i1 i2
          generalize (sm s fun i => A k i * W i j) = x at *
          generalize (sm s fun i => A k i * W i s) = y at *
          have hx : x = d * A k j := by omega
          have hy : y = d * A k s := by omega
          subst hx hy
          grind
      · rw [List.getElem_set_ne hpi, List.getElem_set_ne hpi]
    rw [ec, k1] at k2
    refine ⟨dets (s + 1) ((cols A (s + 1)).set i (col A j)) [], ?_⟩
    have : W s s * ((W s s * W i j - W i s * W s j) - d * dets (s + 1) ((cols A (s + 1)).set i (col A j)) []) = 0 := by
      generalize dets (s + 1) ((cols A (s + 1)).set i (col A j)) [] = t at *
      grind
    rcases Int.mul_eq_zero.mp this with z | z
    · exact absurd z hp
    · omega
  by_cases h : r < s
  · exact low r h
  · have i1 := E.I r j hr
    have i2 := E.I r s hr
    rw [if_pos (by omega)] at i1 i2
    have e : (sm s fun i => A r i * (W s s * W i j - W i s * W s j)) = W s s * (sm s fun i => A r i * W i j) + (-W s j) * sm s fun i => A r i * W i s := by
      rw [← sm_lin]
      exact sm_congr fun q _ => by grind
    have hd : d ∣ sm s fun i => A r i * (W s s * W i j - W i s * W s j) := by
      have : ∀ t, t ≤ s → d ∣ sm t fun i => A r i * (W s s * W i j - W i s * W s j) := fun t => by
        induction t with
        | zero => intro _; rw [sm_zero]; exact Int.dvd_zero d
        | succ t ih => intro ht; rw [sm_succ]; exact Int.dvd_add (ih (by omega)) (Int.dvd_mul_of_dvd_right (low t (by omega)))
      exact this s (Nat.le_refl _)
    obtain ⟨q, hq⟩ := hd
    refine ⟨W s s * A r j - W s j * A r s - q, ?_⟩
    rw [e] at hq
    generalize (sm s fun i => A r i * W i j) = x at *
    generalize (sm s fun i => A r i * W i s) = y at *
    have hx : x = d * A r j - W r j := by omega
    have hy : y = d * A r s - W r s := by omega
    subst hx hy
    grind
/-- one step -/
theorem Elim.step {n s : Nat} {d : Int} {A W W' : Mat} (E : Elim n s d A W) (hs : s < n) (hp : W s s ≠ 0) (h1 : ∀ j, W' s j = W s j) (h2 : ∀ r j, r < n → r ≠ s → d * W' r j = W s s * W r j - W r s * W s j) : Elim n (s + 1) (W s s) A W' := by
  refine ⟨hp, hs, fun r j hr => ?_, fun r j hr hj => ?_, E.minor hs⟩
  · have i1 := E.I r j hr
    have i2 := E.I r s hr
    have e : d * (sm (s + 1) fun i => A r i * W' i j) = W s s * (sm s fun i => A r i * W i j) + (-W s j) * (sm s fun i => A r i * W i s) + d * (A r s * W s j) := by
      rw [sm_succ, Int.mul_add, ← sm_mul, ← sm_lin, h1]
      congr 1
      refine sm_congr fun i hi => ?_
      have := h2 i j (by omega) (by omega)
      grind
    have key : d * (W s s * A r j - ((if s + 1 ≤ r then W' r j else 0) + sm (s + 1) fun i => A r i * W' i j)) = 0 := by
      rw [Int.mul_sub, Int.mul_add, e]
      generalize (sm s fun i => A r i * W i j) = x at *
      generalize (sm s fun i => A r i * W i s) = y at *
      by_cases hrs : s + 1 ≤ r
      · have h3 := h2 r j hr (by omega)
        rw [if_pos (by omega)] at i1 i2
        rw [if_pos hrs, h3]
        have hx : x = d * A r j - W r j := by omega
        have hy : y = d * A r s - W r s := by omega
        subst hx hy
        grind
      · rw [if_neg hrs]
        by_cases hrs2 : s ≤ r
        · have : r = s := by omega
          subst this
          rw [if_pos (Nat.le_refl _)] at i1 i2
          have hx : x = d * A r j - W r j := by omega
          have hy : y = d * A r r - W r r := by omega
          subst hx hy
          grind
        · rw [if_neg hrs2] at i1 i2
          have hx : x = d * A r j := by omega
          have hy : y = d * A r s := by omega
          subst hx hy
          grind
    rcases Int.mul_eq_zero.mp key with z | z
    · exact absurd z E.d0
    · omega
  · by_cases hrs : r = s
    · subst hrs
      rw [h1]
      by_cases hjr : r = j
      · subst hjr; rw [if_pos rfl]
      · rw [if_neg hjr, E.Z r j hr (by omega), if_neg hjr]
    · have h3 := h2 r j hr hrs
      by_cases hjs : j = s
      · subst hjs
        rw [if_neg hrs]
        have : d * W' r j = 0 := by rw [h3]; grind
        rcases Int.mul_eq_zero.mp this with z | z
        · exact absurd z E.d0
        · exact z
      · have z1 := E.Z r j hr (by omega)
        have z2 := E.Z s j hs (by omega)
        rw [if_neg (Ne.symm hjs)] at z2
        rw [z1, z2, Int.mul_zero, Int.sub_zero] at h3
        by_cases hjr : r = j
        · rw [if_pos hjr] at h3 ⊢
          have : d * (W' r j - W s s) = 0 := by rw [Int.mul_sub, h3]; grind
          rcases Int.mul_eq_zero.mp this with z | z
          · exact absurd z E.d0
          · omega
        · rw [if_neg hjr] at h3 ⊢
          rw [Int.mul_zero] at h3
          rcases Int.mul_eq_zero.mp h3 with z | z
          · exact absurd z E.d0
          · exact z
/-- rows from s on are exchanged -/
theorem Elim.exch {n s c : Nat} {d : Int} {A W A' W' : Mat} (E : Elim n s d A W) (hs : s < n) (hc : s ≤ c) (hcn : c < n) (ha : ∀ r, A' r = if r = s then A c else if r = c then A s else A r) (hw : ∀ r, W' r = if r = s then W c else if r = c then W s else W r) : Elim n s d A' W' := by
  have low : ∀ r, r < s → A' r = A r ∧ W' r = W r := fun r hr => by
    rw [ha, hw, if_neg (by omega), if_neg (by omega), if_neg (by omega), if_neg (by omega)]; exact ⟨rfl, rfl⟩
  have one : ∀ r, r < n → ∃ r', r' < n ∧ A' r = A r' ∧ W' r = W r' ∧ (s ≤ r ↔ s ≤ r') ∧ (r < s → r' = r) := fun r hr => by
    by_cases h1 : r = s
    · exact ⟨c, hcn, by rw [ha, if_pos h1], by rw [hw, if_pos h1], by omega, by omega⟩
    · by_cases h2 : r = c
      · exact ⟨s, hs, by rw [ha, if_neg h1, if_pos h2], by rw [hw, if_neg h1, if_pos h2], by omega, by omega⟩
      · exact ⟨r, hr, by rw [ha, if_neg h1, if_neg h2], by rw [hw, if_neg h1, if_neg h2], Iff.rfl, fun _ => rfl⟩
  refine ⟨E.d0, E.sn, fun r j hr => ?_, fun r j hr hj => ?_, ?_⟩
  · obtain ⟨r', k1, k2, k3, k4, _⟩ := one r hr
    rw [k2, k3, E.I r' j k1]
    have e : (sm s fun i => A r' i * W' i j) = sm s fun i => A r' i * W i j := sm_congr fun i hi => by rw [(low i hi).2]
    rw [e]
    by_cases h : s ≤ r
    · rw [if_pos h, if_pos (k4.mp h)]
    · rw [if_neg h, if_neg (fun z => h (k4.mpr z))]
  · obtain ⟨r', k1, k2, k3, k4, k5⟩ := one r hr
    rw [k3, E.Z r' j k1 hj]
    by_cases h : r < s
    · rw [k5 h]
    · rw [if_neg (by omega), if_neg (by omega)]
  · rw [← E.M]
    refine dets_congr s [] (by rw [cols_len, cols_len]) fun i h1 h2 k hk => ?_
    have key : ∀ (B : Mat) (h : i < (cols B s).length), (cols B s)[i] = col B i := fun B h => by simp [cols]
    rw [key A' h1, key A h2]
    show A' k _ = A k _
    rw [(low k hk).1]
end PL

namespace PL
/-- a diagonal -/
theorem dets_diag (n : Nat) (d : Int) : ∀ (rs : List Vec) (t : Nat), t + rs.length = n → (∀ i (h : i < rs.length) k, k < n → rs[i] k = if k = t + i then d else 0) → dets n rs (List.range t) = d ^ rs.length
  | [], t, _, _ => by simp [dets]
  | r :: rs, t, hl, h => by
    rw [List.length_cons] at hl
    have h0 : ∀ k, k < n → r k = if k = t then d else 0 := fun k hk => by
      have := h 0 (by simp) k hk
      simpa using this
    unfold dets
    rw [sm_single (k := t) (by omega) (fun a ha hne => by
      rw [h0 a ha, if_neg hne]
      split <;> simp), if_neg (by simp), sg_low (fun o ho => List.mem_range.mp ho), h0 t (by omega), if_pos rfl, ← List.range_succ,
      dets_diag n d rs (t + 1) (by omega) (fun i hi k hk => by
        have := h (i + 1) (by simpa using hi) k hk
        rw [List.getElem_cons_succ] at this
        rw [this]
        by_cases e : k = t + (i + 1)
        · rw [if_pos e, if_pos (by omega)]
        · rw [if_neg e, if_neg (by omega)])]
    rw [List.length_cons, Int.pow_succ, Int.one_mul, Int.mul_comm]
/-- Cramer: the solution by minors -/
theorem Elim.cramer {n : Nat} {d : Int} {A W : Mat} (E : Elim n n d A W) (i j : Nat) (hi : i < n) : W i j = dets n ((cols A n).set i (col A j)) [] := by
  have hl : i < (cols A n).length := by rw [cols_len]; exact hi
  have k1 := det_comb n hl [] (fun q => W q j) n (by rw [cols_len]; exact Nat.le_refl _)
  rw [if_pos hi, E.M] at k1
  have k2 := det_lin n hl d 0 (col A j) (col A j) []
  have ec : dets n ((cols A n).set i fun k => d * col A j k + 0 * col A j k) [] = dets n ((cols A n).set i fun k => sm n fun q => W q j * ((cols A n).getD q fun _ => 0) k) [] := by
    refine dets_congr n [] (by rw [List.length_set, List.length_set]) fun p h1 h2 k hk => ?_
    by_cases hpi : i = p
    · subst hpi
      rw [List.getElem_set_self, List.getElem_set_self, Int.zero_mul, Int.add_zero]
      have := E.I k j hk
      rw [if_neg (by omega), Int.zero_add] at this
      show d * A k j = _
      rw [this]
      refine sm_congr fun q hq => ?_
      rw [cols_get A hq]
      exact Int.mul_comm _ _
    · rw [List.getElem_set_ne hpi, List.getElem_set_ne hpi]
  rw [ec, k1] at k2
  have : d * (W i j - dets n ((cols A n).set i (col A j)) []) = 0 := by
    generalize dets n ((cols A n).set i (col A j)) [] = t at *
    grind
  rcases Int.mul_eq_zero.mp this with z | z
  · exact absurd z E.d0
  · omega
/-- how large -/
theorem sg_abs (a : Nat) : ∀ us : List Nat, (sg us a).natAbs = 1
  | [] => rfl
  | o :: us => by
    show (ee o a * sg us a).natAbs = 1
    rw [Int.natAbs_mul, sg_abs a us]
    unfold ee
    split <;> rfl
theorem sm_abs (n : Nat) (f : Nat → Int) (b : Nat) (h : ∀ a, a < n → (f a).natAbs ≤ b) : (sm n f).natAbs ≤ n * b := by
  induction n with
  | zero => simp [sm_zero]
  | succ n ih =>
    rw [sm_succ]
    have h1 := ih fun a ha => h a (by omega)
    have h2 := h n (by omega)
    rw [Nat.add_mul]
    omega
theorem dets_abs (n b : Nat) : ∀ (rs : List Vec) (us : List Nat), (∀ r ∈ rs, ∀ k, k < n → (r k).natAbs ≤ b) → (dets n rs us).natAbs ≤ (n * b) ^ rs.length
  | [], us, _ => by simp [dets]
  | r :: rs, us, h => by
    unfold dets
    have := sm_abs n (fun a => if a ∈ us then 0 else sg us a * r a * dets n rs (us ++ [a])) (b * (n * b) ^ rs.length) fun a ha => by
      by_cases hu : a ∈ us
      · simp [hu]
      · simp only [if_neg hu]
        rw [Int.natAbs_mul, Int.natAbs_mul, sg_abs, Nat.one_mul]
        exact Nat.mul_le_mul (h r List.mem_cons_self a ha) (dets_abs n b rs (us ++ [a]) fun q hq => h q (List.mem_cons_of_mem _ hq))
    rw [List.length_cons, Nat.pow_succ, Nat.mul_comm ((n * b) ^ rs.length), Nat.mul_assoc]
    exact this
end PL

namespace PL
theorem ixP_nat {n k : Nat} (h : k < n) : ixP n (k : Int) = some k := by
  unfold ixP
  rw [if_pos (by omega), if_pos (by omega)]
  rfl
theorem atP_nat {α : Type} {l : List α} {k : Nat} (h : k < l.length) : atP l (k : Int) = some l[k] := by
  unfold atP
  rw [ixP_nat h]
  exact List.getElem?_eq_getElem h
theorem atP_of {α : Type} {l : List α} {k : Nat} {i : Int} (hi : i = k) (h : k < l.length) : atP l i = some l[k] := by rw [hi]; exact atP_nat h
theorem atP_pl {l : List Int} {k : Nat} {i : Int} (hi : i = k) (h : k < l.length) : atP (l.map PV.int) i = some (.int l[k]) := by
  rw [atP_of hi (by rw [List.length_map]; exact h), List.getElem_map]
/-- a number of few bits -/
def Bd (b : Nat) (x : Int) : Prop := x.natAbs < 2 ^ b
theorem Bd.mono {b c : Nat} {x : Int} (h : Bd b x) (k : b ≤ c) : Bd c x := Nat.lt_of_lt_of_le h (Nat.pow_le_pow_right (by decide) k)
theorem Bd.log {b : Nat} {x : Int} (h : Bd b x) : x.natAbs.log2 ≤ b := by
  refine log2_lt_of (Nat.lt_of_lt_of_le h (Nat.pow_le_pow_right (by decide) (Nat.le_succ b)))
theorem Bd.mulOk {a b : Nat} {x y : Int} (h : Bd a x) (h' : Bd b y) (k : a + b < 100000000) : PL.mulOk x y = true := mulOk_of h.log h'.log k
theorem Bd.mul {a b : Nat} {x y : Int} (h : Bd a x) (h' : Bd b y) : Bd (a + b) (x * y) := by
  unfold Bd at *
  rw [Int.natAbs_mul, Nat.pow_add]
  exact Nat.mul_lt_mul'' h h'
theorem Bd.sub {a : Nat} {x y : Int} (h : Bd a x) (h' : Bd a y) : Bd (a + 1) (x - y) := by
  unfold Bd at *
  rw [Nat.pow_succ]
  omega
theorem Bd.add {a : Nat} {x y : Int} (h : Bd a x) (h' : Bd a y) : Bd (a + 1) (x + y) := by
  unfold Bd at *
  rw [Nat.pow_succ]
  omega
theorem Bd.div {a : Nat} {d x y : Int} (h : Bd a x) (hd : d ≠ 0) (e : d * y = x) : Bd a y := by
  unfold Bd at *
  have : x.natAbs = d.natAbs * y.natAbs := by rw [← e, Int.natAbs_mul]
  have h1 : 1 ≤ d.natAbs := by omega
  have : y.natAbs ≤ x.natAbs := by rw [this]; exact Nat.le_mul_of_pos_left _ h1
  omega
theorem divOk_of {d : Int} (h : d ≠ 0) {b : Nat} (h' : Bd b d) (k : b < 9000) : divOk d = true := by
  unfold divOk
  rw [Bool.and_eq_true]
  exact ⟨by simpa using h, decide_eq_true (Nat.lt_of_le_of_lt h'.log k)⟩
theorem fdiv_of {d x y : Int} (hd : d ≠ 0) (e : d * y = x) : x.fdiv d = y := by
  rw [← e, Int.mul_comm]
  exact Int.mul_fdiv_cancel _ hd
end PL
namespace PL
/-- a for that may return -/
theorem loopF_ret {tg : Tg} {body : S → Out} (Inv : Nat → S → Prop) (R : Nat → SV → Prop) {its : List Itm} {S : S} (h0 : Inv 0 S)
    (step : ∀ i S x, its[i]? = some x → Inv i S → ∃ S1, setTg S tg x = .ok S1 ∧ ((∃ S2, (body S1 = .nx S2 ∨ body S1 = .ct S2) ∧ Inv (i + 1) S2) ∨ ∃ v, body S1 = .rt v ∧ R i v)) :
    (∃ S', loopF tg body its S = .nx S' ∧ Inv its.length S') ∨ ∃ i v, i < its.length ∧ loopF tg body its S = .rt v ∧ R i v := by
  suffices ∀ (n : Nat) (xs : List Itm) (S : PL.S), (∀ i, its[n + i]? = xs[i]?) → n + xs.length = its.length → Inv n S → (∃ S', loopF tg body xs S = .nx S' ∧ Inv its.length S') ∨ ∃ i v, i < its.length ∧ loopF tg body xs S = .rt v ∧ R i v by
    exact this 0 its S (fun i => by rw [Nat.zero_add]) (Nat.zero_add _) h0
  intro n xs
  induction xs generalizing n with
  | nil => intro S _ hl hI; exact .inl ⟨S, rfl, by rw [← hl]; exact hI⟩
  | cons x xs ih =>
    intro S hx hl hI
    obtain ⟨S1, e1, h⟩ := step n S x (by have := hx 0; simpa using this) hI
    have red : loopF tg body (x :: xs) S = match body S1 with
      | .nx S2 => loopF tg body xs S2
      | .ct S2 => loopF tg body xs S2
      | .bk S2 => .nx S2
      | o => o := by
      show (setTg S tg x).out S _ = _
      rw [e1]
      rfl
    rcases h with ⟨S2, e2, hI2⟩ | ⟨v, e2, hR⟩
    · have := ih (n + 1) S2 (fun i => by have := hx (i + 1); rw [List.getElem?_cons_succ] at this; rw [← this]; congr 1; omega) (by rw [List.length_cons] at hl; omega) hI2
      rcases e2 with e2 | e2 <;> rw [red, e2] <;> exact this
    · rw [red, e2]
      exact .inr ⟨n, v, by rw [List.length_cons] at hl; omega, rfl, hR⟩
theorem exe_forr_rt {fe : FE} {tg : Tg} {it : It} {b : Ss} {S : PL.S} {v : SV} {its : List Itm} (h : evI fe it S = .ok ((its, []), S)) (hl : loopF tg (exes fe b) its S = .rt v) : exe fe (.forr tg it b) S = .rt v := by
  show (evI fe it S).out S _ = _
  rw [h]
  show outTake (fun i => inTg i tg || asgs i b) [] (loopF tg (exes fe b) its S) = _
  rw [hl]
  rfl
theorem rangeL_len {a b : Int} : (rangeL a b).length = (b - a).toNat := by simp [rangeL]
theorem rangeL_get {a b : Int} {i : Nat} {x : Itm} (h : (rangeL a b)[i]? = some x) : x = oneI (.int (a + i)) ∧ i < (b - a).toNat := by
  have h1 := (List.getElem?_eq_some_iff.mp h)
  obtain ⟨h1, h2⟩ := h1
  rw [rangeL_len] at h1
  refine ⟨?_, h1⟩
  rw [← h2]
  simp [rangeL]
/-- a matrix of frozen rows -/
abbrev mt (W : List (List Int)) : SV := .lst (W.map fun r => .fz (pl r))
def at2 (W : List (List Int)) (i j : Nat) : Int := (W.getD i []).getD j 0
theorem at2_eq {W : List (List Int)} {i j : Nat} (hi : i < W.length) (hj : j < W[i].length) : at2 W i j = W[i][j] := by
  unfold at2
  rw [List.getD_eq_getElem?_getD, List.getD_eq_getElem?_getD, List.getElem?_eq_getElem hi]
  show (W[i][j]?).getD 0 = _
  rw [List.getElem?_eq_getElem hj]
  rfl
theorem atP_mt {W : List (List Int)} {k : Nat} {i : Int} (hi : i = k) (h : k < W.length) : atP (W.map fun r => SV.fz (pl r)) i = some (.fz (pl W[k])) := by
  rw [atP_of hi (by rw [List.length_map]; exact h), List.getElem_map]
end PL
namespace PL
theorem cmp_ne_int (i j : Int) : cmpop .ne (.int i) (.int j) = .ok (.bl (!(i == j))) := rfl
theorem cmp_eq_int (i j : Int) : cmpop .eq (.int i) (.int j) = .ok (.bl (i == j)) := rfl
theorem exe_iff_t {fe : FE} {t : Ex} {a b : Ss} {S S' : PL.S} (h : tstOf (ev fe t S) = .ok (true, S')) : exe fe (.iff t a b) S = exes fe a S' := by
  show (tstOf (ev fe t S)).out S _ = _
  rw [h]; rfl
theorem exe_iff_f {fe : FE} {t : Ex} {a b : Ss} {S S' : PL.S} (h : tstOf (ev fe t S) = .ok (false, S')) : exe fe (.iff t a b) S = exes fe b S' := by
  show (tstOf (ev fe t S)).out S _ = _
  rw [h]; rfl
theorem exes_one {fe : FE} {s : Sx} {S S' : PL.S} (h : exe fe s S = .nx S') : exes fe (.cons s .nil) S = .nx S' := by
  show seqOut (exe fe s S) (exes fe .nil) = _
  rw [h]; rfl
theorem exes_cons {fe : FE} {s : Sx} {ss : Ss} {S S' : PL.S} (h : exe fe s S = .nx S') : exes fe (.cons s ss) S = exes fe ss S' := by
  show seqOut (exe fe s S) (exes fe ss) = _
  rw [h]; rfl
theorem exes_rt {fe : FE} {s : Sx} {ss : Ss} {S : PL.S} {v : SV} (h : exe fe s S = .rt v) : exes fe (.cons s ss) S = .rt v := by
  show seqOut (exe fe s S) (exes fe ss) = _
  rw [h]; rfl
theorem exe_asg {fe : FE} {i : Nat} {e : Ex} {S S' : PL.S} {v : SV} (h : valOf e (ev fe e S) = .ok (v, S')) : exe fe (.asg i e) S = .nx (S'.set i (.ow v)) := by
  show (valOf e (ev fe e S)).out S _ = _
  rw [h]; rfl
theorem ev_call {fe : FE} {f : Nat} {es : Exs} {S S' : PL.S} {l : List Sl} {v : SV} (h : evA fe es S = .ok (l, S')) (h' : fe f l = .ok v) : ev fe (.call f es) S = .ok (v, S') := by
  show (evA fe es S).bind _ = _
  rw [h]
  show (fe f l).bind _ = _
  rw [h']; rfl
/-- p[i] = e, p a slot's own list -/
theorem exe_setI1 {fe : FE} {j k : Nat} {i e : Ex} {S : PL.S} {l : List SV} {x : SV} {n : Int} (he : elemOf e (ev fe e S) = .ok (x, S)) (hj : S[j]? = some (.ow (.lst l))) (hi : ev fe i S = .ok (iv n, S)) (hk : ixP l.length n = some k) :
    exe fe (.setI (.v j) i e) S = .nx (S.set j (.ow (.lst (l.set k x)))) := by
  have h1 : evP fe (.v j) S = .ok ((j, []), S) := by
    show (Res.ofOpt (getL S[j]? [])).bind _ = _
    rw [hj]; rfl
  have h2 : updS S j [] (gSet n x) = .ok (S.set j (.ow (.lst (l.set k x)))) := by
    unfold updS
    rw [hj]
    have : updAt (gSet n x) [] (.lst l) = some (.lst (l.set k x)) := by
      show gSet n x (.lst l) = _
      unfold gSet
      simp only [hk]
    simp only [this]
  simp only [exe, he, Res.out_ok, h1, hi, SV.pv, asInt, Res.ofOpt_some, h2]
end PL

namespace PL.T
open PL
def b_lowest : Ss := (.cons (.asg 1 (.c (.int 0))) (.cons (.forr (.nm 2) (.ex (.v 0)) (.cons (.asg 1 (.bi .gcd (.cons (.v 1) (.cons (.v 2) .nil)))) .nil)) (.cons (.iff (.cmp .lt (.v 1) (.c (.int 2))) (.cons (.ret (.bi .tuple (.cons (.v 0) .nil))) .nil) .nil) (.cons (.ret (.bi .tuple (.cons (.comp (.nm 2) (.ex (.v 0)) .nil (.bin .fdiv (.v 2) (.v 1)) [2]) .nil))) .nil))))
def b__cleared : Ss := (.cons (.asg 4 (.idx (.v 1) (.v 2))) (.cons (.asg 5 (.idx (.v 0) (.v 2))) (.cons (.ret (.comp (.tp [6, 7]) (.zip (.v 0) (.v 1)) .nil (.bin .fdiv (.bin .sub (.bin .mul (.v 4) (.v 6)) (.bin .mul (.v 5) (.v 7))) (.v 3)) [6, 7])) .nil)))
def b__reduced : Ss := (.cons (.asg 2 (.bi .list (.cons (.v 0) .nil))) (.cons (.forr (.tp [3, 4]) (.ex (.v 1)) (.cons (.iff (.cmp .ne (.idx (.v 2) (.v 3)) (.c (.int 0))) (.cons (.asg 2 (.call 1 (.cons (.v 2) (.cons (.v 4) (.cons (.v 3) (.cons (.c (.int 1)) .nil)))))) .nil) .nil) .nil)) (.cons (.retM 2) .nil)))
def b__first_column : Ss := (.cons (.forr (.nm 2) (.r1 (.v 1)) (.cons (.iff (.cmp .ne (.idx (.v 0) (.v 2)) (.c (.int 0))) (.cons (.retM 2) .nil) .nil) .nil)) (.cons (.ret (.c .non)) .nil))
def b_first_dependent : Ss := (.cons (.asg 1 (.lst .nil)) (.cons (.forr (.tp [2, 3]) (.enum (.v 0)) (.cons (.asg 4 (.call 2 (.cons (.v 3) (.cons (.v 1) .nil)))) (.cons (.asg 5 (.call 3 (.cons (.v 4) (.cons (.bi .len (.cons (.v 4) .nil)) .nil)))) (.cons (.iff (.isn true (.v 5)) (.cons (.retM 2) .nil) .nil) (.cons (.app (.v 1) (.tup (.cons (.f 5) (.cons (.call 0 (.cons (.v 4) .nil)) .nil)))) .nil))))) (.cons (.ret (.c .non)) .nil)))
def b_cancelling : Ss := (.cons (.asg 1 (.bi .len (.cons (.v 0) .nil))) (.cons (.asg 2 (.lst .nil)) (.cons (.forr (.tp [3, 4]) (.enum (.v 0)) (.cons (.asg 5 (.bin .mul (.lst (.cons (.c (.int 0)) .nil)) (.v 1))) (.cons (.setI (.v 5) (.v 3) (.c (.int 1))) (.cons (.asg 6 (.call 2 (.cons (.bin .add (.bi .list (.cons (.v 4) .nil)) (.v 5)) (.cons (.v 2) .nil)))) (.cons (.asg 7 (.call 3 (.cons (.v 6) (.cons (.bi .len (.cons (.v 4) .nil)) .nil)))) (.cons (.iff (.isn true (.v 7)) (.cons (.iff (.cmp .lt (.v 3) (.bin .sub (.v 1) (.c (.int 1)))) (.cons (.ret (.c .non)) .nil) .nil) (.cons (.ret (.call 6 (.cons (.sl (.v 6) (.bi .len (.cons (.v 4) .nil)) (.c .non)) .nil))) .nil)) .nil) (.cons (.app (.v 2) (.tup (.cons (.f 7) (.cons (.call 0 (.cons (.v 6) .nil)) .nil)))) .nil))))))) (.cons (.ret (.c .non)) .nil))))
def b__positive : Ss := (.cons (.asg 1 (.call 0 (.cons (.v 0) .nil))) (.cons (.iff (.cmp .lt (.idx (.v 1) (.neg (.c (.int 1)))) (.c (.int 0))) (.cons (.asg 1 (.bi .tuple (.cons (.comp (.nm 2) (.ex (.v 1)) .nil (.neg (.v 2)) [2]) .nil))) .nil) .nil) (.cons (.forr (.nm 2) (.ex (.v 1)) (.cons (.iff (.cmp .le (.v 2) (.c (.int 0))) (.cons (.ret (.c .non)) .nil) .nil) .nil)) (.cons (.retM 1) .nil))))
def b__law_integer : Ss := (.cons (.ret (.andd (.isi (.v 0) [.int]) (.nott (.isi (.v 0) [.bool])))) .nil)
def b__law_free : Ss := (.cons (.asg 2 (.lst .nil)) (.cons (.asg 3 (.c (.int 7))) (.cons (.forr (.nm 4) (.ex (.sl (.v 0) (.c .non) (.c (.int 63)))) (.cons (.asg 6 (.bi .int (.cons (.v 4) .nil))) (.cons (.asg 3 (.bin .mod (.bi .int (.cons (.bin .add (.bin .mul (.v 3) (.c (.int 48271))) (.bin .mod (.bi .int (.cons (.v 6) .nil)) (.c (.int 2147483647)))) .nil)) (.c (.int 2147483647)))) (.cons (.iff (.cmp .ge (.v 6) (.bin .pow (.c (.int 10)) (.c (.int 18)))) (.cons (.forr (.nm 7) (.r1 (.c (.int 40))) (.cons (.app (.v 2) (.bin .mod (.bi .int (.cons (.v 6) .nil)) (.c (.int 1009)))) (.cons (.asg 6 (.bin .fdiv (.v 6) (.c (.int 1009)))) .nil))) .nil) (.cons (.app (.v 2) (.f 6)) .nil)) .nil)))) (.cons (.forr (.nm 5) (.r1 (.v 1)) (.cons (.asg 3 (.bin .mod (.bi .int (.cons (.bin .add (.bin .add (.bin .mul (.v 3) (.c (.int 48271))) (.bin .mul (.v 5) (.c (.int 69621)))) (.c (.int 11))) .nil)) (.c (.int 2147483647)))) (.cons (.app (.v 2) (.bin .fdiv (.v 3) (.c (.int 5)))) .nil))) (.cons (.retM 2) .nil)))))
def b__law_gcd : Ss := (.cons (.asg 0 (.bi .abs (.cons (.v 0) .nil))) (.cons (.asg 1 (.bi .abs (.cons (.v 1) .nil))) (.cons (.forr (.nm 2) (.r1 (.c (.int 2000))) (.cons (.iff (.cmp .eq (.v 1) (.c (.int 0))) (.cons (.ret (.f 0)) .nil) .nil) (.cons (.asg 3 (.bin .mod (.bi .int (.cons (.v 0) .nil)) (.v 1))) (.cons (.asg 0 (.f 1)) (.cons (.asg 1 (.f 3)) .nil))))) (.cons (.ret (.f 0)) .nil))))
def b__law_determinant : Ss := (.cons (.asg 1 (.bi .len (.cons (.v 0) .nil))) (.cons (.asg 2 (.lst (.cons (.tup (.cons (.tup .nil) (.cons (.c (.int 1)) .nil))) .nil))) (.cons (.forr (.nm 3) (.ex (.v 0)) (.cons (.asg 7 (.lst .nil)) (.cons (.forr (.tp [5, 6]) (.ex (.bi .list (.cons (.v 2) .nil))) (.cons (.forr (.nm 8) (.r1 (.v 1)) (.cons (.iff (.cmp .notin (.v 8) (.v 5)) (.cons (.asg 9 (.c (.int 1))) (.cons (.forr (.nm 10) (.ex (.v 5)) (.cons (.iff (.cmp .gt (.v 10) (.v 8)) (.cons (.asg 9 (.neg (.v 9))) .nil) .nil) .nil)) (.cons (.app (.v 7) (.tup (.cons (.bin .add (.v 5) (.tup (.cons (.f 8) .nil))) (.cons (.bin .mul (.bin .mul (.v 6) (.v 9)) (.idx (.v 3) (.v 8))) .nil)))) .nil))) .nil) .nil)) .nil)) (.cons (.asg 2 (.f 7)) .nil)))) (.cons (.asg 4 (.c (.int 0))) (.cons (.forr (.tp [5, 6]) (.ex (.v 2)) (.cons (.asg 4 (.bin .add (.v 4) (.v 6))) .nil)) (.cons (.retM 4) .nil))))))
def b__law_choices : Ss := (.cons (.asg 2 (.lst (.cons (.tup .nil) .nil))) (.cons (.forr (.nm 3) (.r1 (.v 0)) (.cons (.asg 2 (.bin .add (.v 2) (.comp (.nm 4) (.ex (.v 2)) .nil (.bin .add (.v 4) (.tup (.cons (.f 3) .nil))) [4]))) .nil)) (.cons (.ret (.comp (.nm 4) (.ex (.v 2)) (.cons (.cmp .eq (.bi .len (.cons (.v 4) .nil)) (.v 1)) .nil) (.f 4) [4])) .nil)))
def b__law_independent : Ss := (.cons (.forr (.nm 2) (.ex (.call 11 (.cons (.v 1) (.cons (.bi .len (.cons (.v 0) .nil)) .nil)))) (.cons (.iff (.cmp .ne (.call 10 (.cons (.comp (.nm 3) (.ex (.v 0)) .nil (.comp (.nm 4) (.ex (.v 2)) .nil (.idx (.v 3) (.v 4)) [4]) [3]) .nil)) (.c (.int 0))) (.cons (.ret (.c (.bl true))) .nil) .nil) .nil)) (.cons (.ret (.c (.bl false))) .nil))
def b__law_minors : Ss := (.cons (.asg 2 (.lst .nil)) (.cons (.forr (.nm 3) (.r1 (.bi .len (.cons (.v 0) .nil))) (.cons (.asg 4 (.comp (.nm 6) (.ex (.bin .add (.sl (.v 0) (.c .non) (.v 3)) (.sl (.v 0) (.bin .add (.v 3) (.c (.int 1))) (.c .non)))) .nil (.comp (.nm 7) (.ex (.v 1)) .nil (.idx (.v 6) (.v 7)) [7]) [6])) (.cons (.asg 5 (.call 10 (.cons (.v 4) .nil))) (.cons (.iff (.cmp .eq (.bin .mod (.v 3) (.c (.int 2))) (.c (.int 1))) (.cons (.asg 5 (.neg (.v 5))) .nil) .nil) (.cons (.app (.v 2) (.f 5)) .nil))))) (.cons (.retM 2) .nil)))
def b__law_due : Ss := (.cons (.forr (.nm 2) (.ex (.call 11 (.cons (.v 1) (.cons (.bin .sub (.bi .len (.cons (.v 0) .nil)) (.c (.int 1))) .nil)))) (.cons (.asg 3 (.call 13 (.cons (.v 0) (.cons (.v 2) .nil)))) (.cons (.asg 4 (.c (.int 0))) (.cons (.forr (.nm 5) (.ex (.v 3)) (.cons (.asg 4 (.call 9 (.cons (.v 4) (.cons (.v 5) .nil)))) .nil)) (.cons (.iff (.cmp .ne (.v 4) (.c (.int 0))) (.cons (.forr (.nm 6) (.r1 (.v 1)) (.cons (.asg 8 (.c (.int 0))) (.cons (.forr (.tp [5, 9]) (.zip (.v 3) (.v 0)) (.cons (.asg 8 (.bin .add (.v 8) (.bin .mul (.v 5) (.idx (.v 9) (.v 6))))) .nil)) (.cons (.iff (.cmp .ne (.v 8) (.c (.int 0))) (.cons (.ret (.c .non)) .nil) .nil) .nil)))) (.cons (.asg 7 (.comp (.nm 5) (.ex (.v 3)) (.cons (.cmp .ne (.v 5) (.c (.int 0))) .nil) (.cmp .gt (.v 5) (.c (.int 0))) [5])) (.cons (.iff (.orr (.cmp .lt (.bi .len (.cons (.v 7) .nil)) (.bi .len (.cons (.v 3) .nil))) (.andd (.cmp .isin (.c (.bl true)) (.v 7)) (.cmp .isin (.c (.bl false)) (.v 7)))) (.cons (.ret (.c .non)) .nil) .nil) (.cons (.ret (.bi .tuple (.cons (.comp (.nm 5) (.ex (.v 3)) .nil (.bin .fdiv (.bi .abs (.cons (.v 5) .nil)) (.v 4)) [5]) .nil))) .nil)))) .nil) .nil))))) (.cons (.ret (.c .non)) .nil))
def b__law_first : Ss := (.cons (.forr (.nm 2) (.r1 (.bi .len (.cons (.v 0) .nil))) (.cons (.iff (.nott (.truth (.call 12 (.cons (.sl (.v 0) (.c .non) (.bin .add (.v 2) (.c (.int 1)))) (.cons (.v 1) .nil))))) (.cons (.retM 2) .nil) .nil) .nil)) (.cons (.ret (.c .non)) .nil))
def b__law_vectors : Ss := (.cons (.asg 4 (.lst .nil)) (.cons (.forr (.nm 5) (.r1 (.v 1)) (.cons (.asg 6 (.lst .nil)) (.cons (.forr (.nm 7) (.r1 (.v 2)) (.cons (.asg 8 (.bi .int (.cons (.idx (.v 0) (.bin .add (.bin .add (.c (.int 4)) (.bin .mul (.v 5) (.v 2))) (.v 7))) .nil))) (.cons (.iff (.truth (.v 3)) (.cons (.app (.v 6) (.bin .sub (.bin .mod (.bi .int (.cons (.bin .add (.bin .add (.bin .mul (.v 8) (.c (.int 48271))) (.bin .mul (.v 7) (.c (.int 69621)))) (.v 5)) .nil)) (.bin .add (.bin .mul (.c (.int 2)) (.bin .pow (.c (.int 10)) (.c (.int 9)))) (.c (.int 1)))) (.bin .pow (.c (.int 10)) (.c (.int 9))))) .nil) (.cons (.app (.v 6) (.bin .sub (.bin .mod (.v 8) (.c (.int 9))) (.c (.int 4)))) .nil)) .nil))) (.cons (.app (.v 4) (.f 6)) .nil)))) (.cons (.retM 4) .nil)))
def b_law : Ss := (.cons (.asg 1 (.call 8 (.cons (.v 0) (.cons (.c (.int 40)) .nil)))) (.cons (.asg 2 (.bin .mod (.bi .int (.cons (.idx (.v 1) (.c (.int 0))) .nil)) (.c (.int 5)))) (.cons (.asg 3 (.bin .add (.c (.int 1)) (.bin .mod (.bin .fdiv (.bi .int (.cons (.idx (.v 1) (.c (.int 0))) .nil)) (.c (.int 5))) (.c (.int 3))))) (.cons (.asg 4 (.call 16 (.cons (.v 1) (.cons (.v 2) (.cons (.v 3) (.cons (.cmp .eq (.bin .mod (.bi .int (.cons (.idx (.v 1) (.c (.int 1))) .nil)) (.c (.int 5))) (.c (.int 3))) .nil)))))) (.cons (.iff (.andd (.cmp .eq (.bin .mod (.bi .int (.cons (.idx (.v 1) (.c (.int 2))) .nil)) (.c (.int 2))) (.c (.int 1))) (.cmp .gt (.v 2) (.c (.int 0)))) (.cons (.asg 10 (.bin .mod (.bin .fdiv (.bi .int (.cons (.idx (.v 1) (.c (.int 2))) .nil)) (.c (.int 2))) (.v 2))) (.cons (.asg 11 (.bin .mul (.lst (.cons (.c (.int 0)) .nil)) (.v 3))) (.cons (.forr (.nm 12) (.r1 (.v 2)) (.cons (.iff (.cmp .ne (.v 12) (.v 10)) (.cons (.asg 9 (.bin .add (.c (.int 1)) (.bin .mod (.bi .int (.cons (.idx (.v 1) (.bin .add (.c (.int 20)) (.v 12))) .nil)) (.c (.int 3))))) (.cons (.asg 11 (.comp (.tp [14, 15]) (.zip (.v 11) (.idx (.v 4) (.v 12))) .nil (.bin .sub (.v 14) (.bin .mul (.v 9) (.v 15))) [14, 15])) .nil)) .nil) .nil)) (.cons (.setI (.v 4) (.v 10) (.f 11)) .nil)))) .nil) (.cons (.asg 5 (.comp (.nm 13) (.ex (.v 4)) .nil (.bi .list (.cons (.v 13) .nil)) [13])) (.cons (.asg 6 (.call 4 (.cons (.v 5) .nil))) (.cons (.asg 7 (.call 5 (.cons (.v 5) .nil))) (.cons (.iff (.cmp .ne (.v 5) (.v 4)) (.cons (.ret (.c (.bl false))) .nil) .nil) (.cons (.iff (.orr (.andd (.isn false (.v 6)) (.nott (.truth (.call 7 (.cons (.v 6) .nil))))) (.cmp .ne (.v 6) (.call 15 (.cons (.v 4) (.cons (.v 3) .nil))))) (.cons (.ret (.c (.bl false))) .nil) .nil) (.cons (.asg 8 (.c .non)) (.cons (.iff (.cmp .gt (.v 2) (.c (.int 0))) (.cons (.asg 8 (.call 14 (.cons (.v 4) (.cons (.v 3) .nil)))) .nil) .nil) (.cons (.iff (.orr (.isn true (.v 8)) (.isn true (.v 7))) (.cons (.ret (.andd (.isn true (.v 8)) (.isn true (.v 7)))) .nil) .nil) (.cons (.iff (.orr (.nott (.truth (.isi (.v 7) [.tuple]))) (.cmp .ne (.bi .len (.cons (.v 7) .nil)) (.v 2))) (.cons (.ret (.c (.bl false))) .nil) .nil) (.cons (.forr (.nm 9) (.ex (.v 7)) (.cons (.iff (.nott (.truth (.call 7 (.cons (.v 9) .nil)))) (.cons (.ret (.c (.bl false))) .nil) .nil) .nil)) (.cons (.ret (.cmp .eq (.v 7) (.v 8))) .nil))))))))))))))))
def tbl : Nat → Option Fd
  | 0 => some ⟨1, 3, b_lowest⟩
  | 1 => some ⟨4, 8, b__cleared⟩
  | 2 => some ⟨2, 5, b__reduced⟩
  | 3 => some ⟨2, 3, b__first_column⟩
  | 4 => some ⟨1, 6, b_first_dependent⟩
  | 5 => some ⟨1, 8, b_cancelling⟩
  | 6 => some ⟨1, 3, b__positive⟩
  | 7 => some ⟨1, 1, b__law_integer⟩
  | 8 => some ⟨2, 8, b__law_free⟩
  | 9 => some ⟨2, 4, b__law_gcd⟩
  | 10 => some ⟨1, 11, b__law_determinant⟩
  | 11 => some ⟨2, 5, b__law_choices⟩
  | 12 => some ⟨2, 5, b__law_independent⟩
  | 13 => some ⟨2, 8, b__law_minors⟩
  | 14 => some ⟨2, 10, b__law_due⟩
  | 15 => some ⟨2, 3, b__law_first⟩
  | 16 => some ⟨4, 9, b__law_vectors⟩
  | 17 => some ⟨1, 16, b_law⟩
  | _ => none
end PL.T

namespace PL.T
open PL
variable {fe : FE}
theorem r62_of2 {i : Int} (h : i.natAbs ≤ 1000000000) : r62 i = true := r62_of' h
theorem getD_at {l : List Int} {s : Nat} (h : s < l.length) : l.getD s 0 = l[s] := by
  rw [List.getD_eq_getElem?_getD, List.getElem?_eq_getElem h]; rfl
def sq (W : List (List Int)) : List Vec := W.map fun r k => r.getD k 0
theorem sq_len (W : List (List Int)) : (sq W).length = W.length := by unfold sq; rw [List.length_map]
theorem sq_get {W : List (List Int)} {i : Nat} (h : i < W.length) : (sq W)[i]'(by rw [sq_len]; exact h) = fun k => W[i].getD k 0 := by unfold sq; rw [List.getElem_map]
theorem getD_out {l : List Int} {k : Nat} (h : l.length ≤ k) : l.getD k 0 = 0 := by
  rw [List.getD_eq_getElem?_getD, List.getElem?_eq_none h]; rfl
theorem bd_at {b : Nat} {l : List Int} (h : ∀ x ∈ l, Bd b x) (k : Nat) : Bd b (l.getD k 0) := by
  by_cases hk : k < l.length
  · rw [getD_at hk]; exact h _ (List.getElem_mem hk)
  · rw [getD_out (by omega)]; unfold Bd; exact Nat.pow_pos (by decide)
/-- two of a zip -/
def zipI (a b : List Int) : List Itm := List.zipWith Itm.two (a.map oi) (b.map oi)
def g2 (f : Int → Int → Int) : Itm → SV
  | .two (.ow (.fz (.int a))) (.ow (.fz (.int b))) => iv (f a b)
  | _ => iv 0
theorem zipI_map (f : Int → Int → Int) : ∀ a b : List Int, (zipI a b).map (g2 f) = (List.zipWith f a b).map iv
  | [], _ => rfl
  | _ :: _, [] => rfl
  | x :: a, y :: b => by
    show g2 f (.two (oi x) (oi y)) :: (zipI a b).map (g2 f) = _
    rw [zipI_map f a b]
    rfl
theorem zipI_mem {x : Itm} : ∀ {a b : List Int}, x ∈ zipI a b → ∃ p q, p ∈ a ∧ q ∈ b ∧ x = .two (oi p) (oi q)
  | [], _, h => nomatch h
  | _ :: _, [], h => nomatch h
  | u :: a, v :: b, h => by
    rcases List.mem_cons.mp h with h | h
    · exact ⟨u, v, List.mem_cons_self, List.mem_cons_self, h⟩
    · obtain ⟨p, q, h1, h2, h3⟩ := zipI_mem h
      exact ⟨p, q, List.mem_cons_of_mem _ h1, List.mem_cons_of_mem _ h2, h3⟩
def gcds : List Int → Int → Int
  | [], g => g
  | x :: xs, g => gcds xs (Nat.gcd g.natAbs x.natAbs : Nat)
def low (l : List Int) : List Int := if gcds l 0 < 2 then l else l.map fun x => x.fdiv (gcds l 0)
def lowB : Ss := (.cons (.asg 1 (.bi .gcd (.cons (.v 1) (.cons (.v 2) .nil)))) .nil)
theorem gcds_take (l : List Int) (g : Int) : ∀ i, (h : i < l.length) → gcds (l.take (i + 1)) g = (Nat.gcd (gcds (l.take i) g).natAbs l[i].natAbs : Nat) := by
  induction l generalizing g with
  | nil => intro i h; simp at h
  | cons x xs ih =>
    intro i h
    cases i with
    | zero => rfl
    | succ i => exact ih _ i (by simpa using h)
/-- the gcd divides, and is found -/
theorem gcds_spec : ∀ (l : List Int) (g : Int), 0 ≤ g → (0 ≤ gcds l g ∧ gcds l g ∣ g ∧ (∀ x ∈ l, gcds l g ∣ x) ∧ ∀ q : Int, q ∣ g → (∀ x ∈ l, q ∣ x) → q ∣ gcds l g)
  | [], g, hg => ⟨hg, Int.dvd_refl g, fun _ h => (nomatch h), fun q h _ => h⟩
  | x :: xs, g, hg => by
    obtain ⟨h1, h2, h3, h4⟩ := gcds_spec xs (Nat.gcd g.natAbs x.natAbs : Nat) (by omega)
    have d1 : ((Nat.gcd g.natAbs x.natAbs : Nat) : Int) ∣ g := Int.ofNat_dvd_left.mpr (Nat.gcd_dvd_left _ _)
    have d2 : ((Nat.gcd g.natAbs x.natAbs : Nat) : Int) ∣ x := Int.ofNat_dvd_left.mpr (Nat.gcd_dvd_right _ _)
    refine ⟨h1, Int.dvd_trans h2 d1, fun y hy => ?_, fun q hq hx => h4 q ?_ fun y hy => hx y (List.mem_cons_of_mem _ hy)⟩
    · rcases List.mem_cons.mp hy with hy | hy
      · rw [hy]; exact Int.dvd_trans h2 d2
      · exact h3 y hy
    · refine Int.ofNat_dvd_right.mpr (Nat.dvd_gcd ?_ ?_)
      · exact Int.natAbs_dvd_natAbs.mpr hq
      · exact Int.natAbs_dvd_natAbs.mpr (hx x List.mem_cons_self)
def gm (f : Int → Int) : Itm → SV
  | .one (.ow (.fz (.int a))) => iv (f a)
  | _ => iv 0
theorem gm_map (f : Int → Int) : ∀ l : List Int, (l.map fun a => Itm.one (oi a)).map (gm f) = (l.map f).map iv
  | [] => rfl
  | x :: xs => by
    show gm f (.one (oi x)) :: (xs.map fun a => Itm.one (oi a)).map (gm f) = _
    rw [gm_map f xs]
    rfl
theorem lowest_ok (l : List Int) (hz : l.length ≤ 1000) (hb : ∀ x ∈ l, Bd 8000 x) : fin (exes fe b_lowest (stS ⟨1, 3, b_lowest⟩ [.bw (il l)])) = .ok (.fz (.tup ((low l).map PV.int))) := by
  have st0 : stS ⟨1, 3, b_lowest⟩ [.bw (il l)] = [.bw (il l), .no, .no] := rfl
  rw [st0]
  have ev1 : ∀ a b, evI fe (.ex (.v 0)) [.bw (il l), a, b] = .ok ((l.map fun a => Itm.one (oi a), []), [.bw (il l), a, b]) := fun a b => by
    simp [evI, ev, rd, srOf, srcAt, srcV, lend]
  have q1 : exe fe (.asg 1 (.c (.int 0))) [.bw (il l), .no, .no] = .nx [.bw (il l), oi 0, .no] := by
    simp [exe, ev, valOf, isPath]
  obtain ⟨S', h1, y, h2⟩ := loopF_rel (tg := .nm 2) (body := exes fe lowB) (its := l.map fun a => Itm.one (oi a)) (S := [.bw (il l), oi 0, .no])
    (fun i S => ∃ y, S = [.bw (il l), oi (gcds (l.take i) 0), y]) ⟨.no, by rw [List.take_zero]; rfl⟩ (fun i S x hx ⟨y, e1⟩ => by
      subst e1
      have hi := (List.getElem?_eq_some_iff.mp hx).1
      have hx2 := (List.getElem?_eq_some_iff.mp hx).2
      rw [List.length_map] at hi
      rw [List.getElem_map] at hx2
      refine ⟨[.bw (il l), oi (gcds (l.take i) 0), oi l[i]], by rw [← hx2]; rfl, _, .inl ?_, oi l[i], rfl⟩
      rw [gcds_take l 0 i hi]
      simp [lowB, exes, exe, ev, evBs, rd, valOf, isPath, biop, gcdV])
  rw [List.length_map, List.take_length] at h2
  subst h2
  have q2 := exe_forr (ev1 (oi 0) .no) h1
  have st : ∀ {t : SV}, t = t := fun {t} => rfl
  have alf : allFz (l.map iv) = some (l.map PV.int) := by
    have := allFz_map (l.map PV.int)
    rw [List.map_map] at this
    exact this
  by_cases hg : gcds l 0 < 2
  · have q3 : exe fe (.iff (.cmp .lt (.v 1) (.c (.int 2))) (.cons (.ret (.bi .tuple (.cons (.v 0) .nil))) .nil) .nil) [.bw (il l), oi (gcds l 0), y] = .rt (.fz (.tup (l.map PV.int))) := by
      refine (exe_iff_t (S' := [.bw (il l), oi (gcds l 0), y]) ?_).trans (exes_rt ?_)
      · simp [ev, tstOf, rd, cmpop, SV.pv, hg]
      · simp [exe, ev, evBs, rd, valOf, isPath, biop, tupleV, alf, tupO]
    unfold low
    rw [if_pos hg]
    exact congrArg fin ((exes_cons q1).trans ((exes_cons q2).trans (exes_rt q3)))
  · have q3 : exe fe (.iff (.cmp .lt (.v 1) (.c (.int 2))) (.cons (.ret (.bi .tuple (.cons (.v 0) .nil))) .nil) .nil) [.bw (il l), oi (gcds l 0), y] = .nx [.bw (il l), oi (gcds l 0), y] := by
      refine (exe_iff_f (S' := [.bw (il l), oi (gcds l 0), y]) ?_).trans rfl
      simp [ev, tstOf, rd, cmpop, SV.pv, hg]
    have hd : divOk (gcds l 0) = true := by
      obtain ⟨k1, _, k3, k4⟩ := gcds_spec l 0 (Int.le_refl 0)
      have hx : ∃ x ∈ l, x ≠ 0 := Classical.byContradiction fun hno => by
        have := k4 0 (Int.dvd_refl 0) fun x hx => by
          have : x = 0 := Classical.byContradiction fun z => hno ⟨x, hx, z⟩
          rw [this]; exact Int.dvd_refl 0
        have := Int.zero_dvd.mp this
        omega
      obtain ⟨x, hx, x0⟩ := hx
      refine divOk_of (b := 8000) (by omega) ?_ (by decide)
      have h1 := Int.natAbs_dvd_natAbs.mpr (k3 x hx)
      have h2 := Nat.le_of_dvd (by omega) h1
      exact Nat.lt_of_le_of_lt h2 (hb x hx)
    have hc := ev_comp (fe := fe) (tg := .nm 2) (it := .ex (.v 0)) (el := .bin .fdiv (.v 2) (.v 1)) (ws := [2]) (S := [.bw (il l), oi (gcds l 0), y]) (its := l.map fun a => Itm.one (oi a)) (g := gm fun x => x.fdiv (gcds l 0))
      (ev1 _ _) (by rw [List.length_map]; unfold szLine; omega) (fun x hx => by
        obtain ⟨a, _, rfl⟩ := List.mem_map.mp hx
        refine ⟨[.bw (il l), oi (gcds l 0), oi a], [.bw (il l), oi (gcds l 0), oi a], rfl, ?_, ?_⟩
        · simp [ev, elemOf, valOf, isPath, isKeep, binop, fdivV, rd, hd, SV.pv, gm]
        · refine ⟨rfl, fun j hj => ?_⟩
          rcases j with _ | _ | _ | j <;> first | rfl | simp at hj)
    rw [gm_map] at hc
    have alf2 : allFz ((l.map fun x => x.fdiv (gcds l 0)).map iv) = some ((l.map fun x => x.fdiv (gcds l 0)).map PV.int) := by
      have := allFz_map ((l.map fun x => x.fdiv (gcds l 0)).map PV.int)
      rw [List.map_map] at this
      exact this
    have q4 : exe fe (.ret (.bi .tuple (.cons (.comp (.nm 2) (.ex (.v 0)) .nil (.bin .fdiv (.v 2) (.v 1)) [2]) .nil))) [.bw (il l), oi (gcds l 0), y] = .rt (.fz (.tup ((l.map fun x => x.fdiv (gcds l 0)).map PV.int))) := by
      simp only [exe, ev, evBs] at hc ⊢
      rw [hc]
      simp only [Res.bind_ok, biop, tupleV, alf2, tupO, Res.noex_ok, valOf, isPath, Res.out_ok]
    unfold low
    rw [if_neg hg]
    exact congrArg fin ((exes_cons q1).trans ((exes_cons q2).trans ((exes_cons q3).trans (exes_rt q4))))
theorem add_il (a b : List Int) (h : a.length + b.length ≤ szLine) : addV (il a) (il b) = .ok (il (a ++ b)) := by
  have e1 : allFz (a.map iv) = some (a.map PV.int) := by
    have := allFz_map (a.map PV.int); rw [List.map_map] at this; exact this
  have e2 : allFz (b.map iv) = some (b.map PV.int) := by
    have := allFz_map (b.map PV.int); rw [List.map_map] at this; exact this
  show catL (allFz (a.map iv)) (allFz (b.map iv)) = _
  rw [e1, e2]
  show Res.guard (decide ((a.map PV.int).length + (b.map PV.int).length ≤ szLine)) (Res.ok (SV.lst (((a.map PV.int) ++ (b.map PV.int)).map SV.fz))) = _
  rw [List.length_map, List.length_map, decide_eq_true h, Res.guard_true, ← List.map_append, List.map_map]
  rfl
def gcdB : Ss := (.cons (.iff (.cmp .eq (.v 1) (.c (.int 0))) (.cons (.ret (.f 0)) .nil) .nil) (.cons (.asg 3 (.bin .mod (.bi .int (.cons (.v 0) .nil)) (.v 1))) (.cons (.asg 0 (.f 1)) (.cons (.asg 1 (.f 3)) .nil))))
theorem half_mod {x y : Nat} (h : y < x) (h0 : 0 < y) : 2 * (x % y) ≤ x := by
  have h1 := Nat.mod_lt x h0
  have h2 := Nat.div_add_mod x y
  have h3 : 1 ≤ x / y := (Nat.one_le_div_iff h0).mpr (Nat.le_of_lt h)
  have h4 : y * 1 ≤ y * (x / y) := Nat.mul_le_mul_left y h3
  omega
/-- what Euclid's numbers keep -/
def EI (B : Nat) (i a b : Nat) : Prop := (i % 2 = 0 → b * 2 ^ (i / 2) ≤ B) ∧ (i % 2 = 1 → a * 2 ^ (i / 2) ≤ B ∧ b < a)
theorem EI.next {B i a b : Nat} (h : EI B i a b) (hb : 0 < b) : EI B (i + 1) b (a % b) := by
  constructor
  · intro e
    have e1 : i % 2 = 1 := by omega
    have e2 : (i + 1) / 2 = i / 2 + 1 := by omega
    obtain ⟨h1, h2⟩ := h.2 e1
    have := half_mod h2 hb
    rw [e2, Nat.pow_succ]
    calc a % b * (2 ^ (i / 2) * 2) = (2 * (a % b)) * 2 ^ (i / 2) := by rw [Nat.mul_comm (2 ^ (i / 2)) 2, ← Nat.mul_assoc, Nat.mul_comm (a % b) 2]
      _ ≤ a * 2 ^ (i / 2) := Nat.mul_le_mul_right _ this
      _ ≤ B := h1
  · intro e
    have e1 : i % 2 = 0 := by omega
    have e2 : (i + 1) / 2 = i / 2 := by omega
    rw [e2]
    exact ⟨h.1 e1, Nat.mod_lt _ hb⟩
theorem gcd_step (a b : Nat) (x2 x3 : Sl) : exes fe gcdB [oi a, oi b, x2, x3] = if b = 0 then .rt (iv a) else .nx [oi b, oi ((a % b : Nat) : Int), x2, oi ((a % b : Nat) : Int)] := by
  by_cases h : b = 0
  · rw [if_pos h]
    refine exes_rt ((exe_iff_t (S' := [oi a, oi b, x2, x3]) ?_).trans (exes_rt ?_))
    · simp [ev, tstOf, rd, cmp_eq_int, SV.pv, h]
    · simp [exe, ev, valOf, isPath, SV.pv]
  · rw [if_neg h]
    have hb : ((b : Int) == 0) = false := by simp; omega
    have hb2 : ((b : Int) != 0) = true := by simp; omega
    have hm : (a : Int).fmod b = ((a % b : Nat) : Int) := by
      rw [Int.fmod_eq_emod_of_nonneg _ (by omega)]; rfl
    have q1 : exe fe (.iff (.cmp .eq (.v 1) (.c (.int 0))) (.cons (.ret (.f 0)) .nil) .nil) [oi a, oi b, x2, x3] = .nx [oi a, oi b, x2, x3] := by
      refine (exe_iff_f (S' := [oi a, oi b, x2, x3]) ?_).trans rfl
      simp [ev, tstOf, rd, cmp_eq_int, SV.pv]
      omega
    refine (exes_cons q1).trans ?_
    have q2 : exe fe (.asg 3 (.bin .mod (.bi .int (.cons (.v 0) .nil)) (.v 1))) [oi a, oi b, x2, x3] = .nx [oi a, oi b, x2, oi ((a % b : Nat) : Int)] := by
      refine exe_asg (S' := [oi a, oi b, x2, x3]) (v := iv ((a % b : Nat) : Int)) ?_
      simp only [ev, evBs, rd, List.getElem?_cons_zero, List.getElem?_cons_succ, Res.bind_ok, biop, intV, Res.noex_ok, binop, modV, hb2, Res.guard_true, hm, valOf, isPath]
    refine (exes_cons q2).trans ?_
    have q3 : exe fe (.asg 0 (.f 1)) [oi a, oi b, x2, oi ((a % b : Nat) : Int)] = .nx [oi b, oi b, x2, oi ((a % b : Nat) : Int)] := by
      simp [exe, ev, valOf, isPath, SV.pv]
    refine (exes_cons q3).trans (exes_one ?_)
    simp [exe, ev, valOf, isPath, SV.pv]
theorem gcd_ok (a b : Int) (hb : Bd 900 b) : fin (exes fe b__law_gcd (stS ⟨2, 4, b__law_gcd⟩ [oi a, oi b])) = .ok (iv (Nat.gcd a.natAbs b.natAbs : Nat)) := by
  have st0 : stS ⟨2, 4, b__law_gcd⟩ [oi a, oi b] = [oi a, oi b, .no, .no] := rfl
  rw [st0]
  have ab : ∀ x : Int, (if x < 0 then -x else x) = (x.natAbs : Int) := fun x => by split <;> omega
  have q1 : exe fe (.asg 0 (.bi .abs (.cons (.v 0) .nil))) [oi a, oi b, .no, .no] = .nx [oi a.natAbs, oi b, .no, .no] := by
    refine exe_asg (S' := [oi a, oi b, .no, .no]) (v := iv a.natAbs) ?_
    simp only [ev, evBs, rd, List.getElem?_cons_zero, List.getElem?_cons_succ, Res.bind_ok, biop, absV, ab, Res.noex_ok, valOf, isPath]
  have q2 : exe fe (.asg 1 (.bi .abs (.cons (.v 1) .nil))) [oi a.natAbs, oi b, .no, .no] = .nx [oi a.natAbs, oi b.natAbs, .no, .no] := by
    refine exe_asg (S' := [oi a.natAbs, oi b, .no, .no]) (v := iv b.natAbs) ?_
    simp only [ev, evBs, rd, List.getElem?_cons_zero, List.getElem?_cons_succ, Res.bind_ok, biop, absV, ab, Res.noex_ok, valOf, isPath]
  have hI : evI fe (.r1 (.c (.int 2000))) [oi a.natAbs, oi b.natAbs, .no, .no] = .ok ((rangeL 0 2000, []), [oi a.natAbs, oi b.natAbs, .no, .no]) := by
    have k1 : r62 2000 = true := by decide +kernel
    simp [evI, ev, SV.pv, asInt, k1]
  have key := loopF_ret (tg := .nm 2) (body := exes fe gcdB) (its := rangeL 0 2000) (S := [oi a.natAbs, oi b.natAbs, .no, .no])
    (fun i S => ∃ x y : Nat, ∃ x2 x3, S = [oi x, oi y, x2, x3] ∧ Nat.gcd x y = Nat.gcd a.natAbs b.natAbs ∧ EI b.natAbs i x y) (fun i v => v = iv (Nat.gcd a.natAbs b.natAbs : Nat))
    ⟨_, _, _, _, rfl, rfl, fun _ => by simp, fun h => by simp at h⟩ (fun i S it hx ⟨x, y, x2, x3, e1, e2, e3⟩ => by
      subst e1
      obtain ⟨e4, e5⟩ := rangeL_get hx
      subst e4
      refine ⟨[oi x, oi y, oi (0 + i), x3], rfl, ?_⟩
      rw [gcd_step]
      by_cases h : y = 0
      · rw [if_pos h]
        refine .inr ⟨_, rfl, ?_⟩
        rw [← e2, h, Nat.gcd_zero_right]
      · rw [if_neg h]
        refine .inl ⟨_, .inl rfl, y, x % y, _, _, rfl, ?_, e3.next (by omega)⟩
        rw [← e2, Nat.gcd_comm x y, Nat.gcd_rec y x, Nat.gcd_comm])
  rcases key with ⟨S', h1, x, y, x2, x3, h2, h3, h4⟩ | ⟨i, v, h1, h2, h3⟩
  · have e : (rangeL 0 2000).length = 2000 := by rw [rangeL_len]; rfl
    rw [e] at h4
    have hy : y = 0 := by
      have := h4.1 rfl
      have hb : b.natAbs < 2 ^ 900 := hb
      refine Classical.byContradiction fun hne => ?_
      have h5 : 1 * 2 ^ 1000 ≤ y * 2 ^ (2000 / 2) := Nat.mul_le_mul_right _ (by omega)
      have h6 : (2 : Nat) ^ 900 < 2 ^ 1000 := Nat.pow_lt_pow_right (by decide) (by decide)
      omega
    subst h2
    subst hy
    rw [Nat.gcd_zero_right] at h3
    have q3 := exe_forr hI h1
    have q4 : exe fe (.ret (.f 0)) [oi x, oi ((0 : Nat) : Int), x2, x3] = .rt (iv x) := by simp [exe, ev, valOf, isPath, SV.pv]
    rw [← h3]
    have := (exes_cons q1).trans ((exes_cons q2).trans ((exes_cons q3).trans (exes_rt (ss := .nil) q4)))
    exact congrArg fin this
  · subst h3
    exact congrArg fin ((exes_cons q1).trans ((exes_cons q2).trans (exes_rt (exe_forr_rt hI h2))))
theorem integer_ok (x : Int) : fin (exes fe b__law_integer (stS ⟨1, 1, b__law_integer⟩ [oi x])) = .ok (.fz (.bl true)) := by
  have st0 : stS ⟨1, 1, b__law_integer⟩ [oi x] = [oi x] := rfl
  rw [st0]
  simp [b__law_integer, exes, exe, ev, tstOf, rd, valOf, isPath, isTy, SV.pv, fin]
def uv (u : List Nat) : PV := .tup (u.map fun (k : Nat) => PV.int (k : Int))
def wv (p : List Nat × Int) : PV := .tup [uv p.1, .int p.2]
def wl (ws : List (List Nat × Int)) : SV := .lst (ws.map fun p => .fz (wv p))
def sgnB : Ss := (.cons (.iff (.cmp .gt (.v 10) (.v 8)) (.cons (.asg 9 (.neg (.v 9))) .nil) .nil) .nil)
abbrev Dsv (t : Sl) (n : Int) (x2 x3 x4 : Sl) (u : List Nat) (a : Int) (lo : List (List Nat × Int)) (at_ : Nat) (s x10 : Sl) : S := [t, oi n, x2, x3, x4, .ow (.fz (uv u)), oi a, .ow (wl lo), oi at_, s, x10]
theorem sgn_ok (t x2 x3 x4 x10 : Sl) (n : Int) (u : List Nat) (a : Int) (lo : List (List Nat × Int)) (at_ : Nat) :
    ∃ y, exe fe (.forr (.nm 10) (.ex (.v 5)) sgnB) (Dsv t n x2 x3 x4 u a lo at_ (oi 1) x10) = .nx (Dsv t n x2 x3 x4 u a lo at_ (oi (sg u at_)) y) := by
  have hI : evI fe (.ex (.v 5)) (Dsv t n x2 x3 x4 u a lo at_ (oi 1) x10) = .ok ((u.map fun (k : Nat) => Itm.one (oi (k : Int)), []), Dsv t n x2 x3 x4 u a lo at_ (oi 1) x10) := by
    simp [evI, ev, rd, srOf, srcAt, srcV, srcP, uv, fzI]
  obtain ⟨S', h1, y, h2⟩ := loopF_rel (tg := .nm 10) (body := exes fe sgnB) (its := u.map fun (k : Nat) => Itm.one (oi (k : Int))) (S := Dsv t n x2 x3 x4 u a lo at_ (oi 1) x10)
    (fun i S => ∃ y, S = Dsv t n x2 x3 x4 u a lo at_ (oi (sg (u.take i) at_)) y) ⟨x10, by rw [List.take_zero]; rfl⟩ (fun i S x hx ⟨y, e1⟩ => by
      subst e1
      have hi := (List.getElem?_eq_some_iff.mp hx).1
      have hx2 := (List.getElem?_eq_some_iff.mp hx).2
      rw [List.length_map] at hi
      rw [List.getElem_map] at hx2
      have e : sg (u.take (i + 1)) at_ = sg (u.take i) at_ * ee u[i] at_ := by
        rw [List.take_succ_eq_append_getElem hi, sg_snoc]
      refine ⟨Dsv t n x2 x3 x4 u a lo at_ (oi (sg (u.take i) at_)) (oi (u[i] : Int)), by rw [← hx2]; rfl, Dsv t n x2 x3 x4 u a lo at_ (oi (sg (u.take (i + 1)) at_)) (oi (u[i] : Int)), .inl ?_, _, rfl⟩
      by_cases hc : u[i] > at_
      · have ht : tstOf (ev fe (.cmp .gt (.v 10) (.v 8)) (Dsv t n x2 x3 x4 u a lo at_ (oi (sg (u.take i) at_)) (oi (u[i] : Int)))) = .ok (true, Dsv t n x2 x3 x4 u a lo at_ (oi (sg (u.take i) at_)) (oi (u[i] : Int))) := by
          have : decide ((at_ : Int) < (u[i] : Int)) = true := decide_eq_true (by omega)
          simp only [ev, tstOf, rd, List.getElem?_cons_zero, List.getElem?_cons_succ, Res.bind_ok, cmpop, SV.pv, this, Res.noex_ok]
        refine exes_one ((exe_iff_t ht).trans (exes_one ?_))
        have e2 : ee u[i] at_ = -1 := if_pos hc
        rw [e, e2]
        refine (exe_asg (S' := Dsv t n x2 x3 x4 u a lo at_ (oi (sg (u.take i) at_)) (oi (u[i] : Int))) (v := iv (-(sg (u.take i) at_))) ?_).trans ?_
        · simp [ev, rd, valOf, isPath]
        · rw [show sg (u.take i) at_ * -1 = -(sg (u.take i) at_) by omega]; rfl
      · have ht : tstOf (ev fe (.cmp .gt (.v 10) (.v 8)) (Dsv t n x2 x3 x4 u a lo at_ (oi (sg (u.take i) at_)) (oi (u[i] : Int)))) = .ok (false, Dsv t n x2 x3 x4 u a lo at_ (oi (sg (u.take i) at_)) (oi (u[i] : Int))) := by
          have : decide ((at_ : Int) < (u[i] : Int)) = false := decide_eq_false (by omega)
          simp only [ev, tstOf, rd, List.getElem?_cons_zero, List.getElem?_cons_succ, Res.bind_ok, cmpop, SV.pv, this, Res.noex_ok]
        have e2 : ee u[i] at_ = 1 := if_neg hc
        rw [e, e2, Int.mul_one]
        exact exes_one ((exe_iff_f ht).trans rfl))
  rw [List.length_map, List.take_length] at h2
  subst h2
  exact ⟨y, exe_forr hI h1⟩
theorem pin_nat (a : Nat) : ∀ u : List Nat, pin (.int (a : Int)) (u.map fun (k : Nat) => PV.int (k : Int)) = decide (a ∈ u)
  | [] => by simp [pin]
  | k :: u => by
    show (peq (.int (k : Int)) (.int (a : Int)) || pin (.int (a : Int)) (u.map fun (k : Nat) => PV.int (k : Int))) = _
    rw [pin_nat a u]
    show (((k : Int) == (a : Int)) || decide (a ∈ u)) = _
    by_cases h : a = k
    · subst h; simp
    · have : ((k : Int) == (a : Int)) = false := by simp; omega
      rw [this, Bool.false_or]
      simp [h]
theorem flat_nat : ∀ u : List Nat, (u.map fun (k : Nat) => PV.int (k : Int)).all flat = true
  | [] => rfl
  | k :: u => by
    show (flat (.int (k : Int)) && _) = true
    rw [flat_nat u]; rfl
def atB : Ss := (.cons (.iff (.cmp .notin (.v 8) (.v 5)) (.cons (.asg 9 (.c (.int 1))) (.cons (.forr (.nm 10) (.ex (.v 5)) sgnB) (.cons (.app (.v 7) (.tup (.cons (.bin .add (.v 5) (.tup (.cons (.f 8) .nil))) (.cons (.bin .mul (.bin .mul (.v 6) (.v 9)) (.idx (.v 3) (.v 8))) .nil)))) .nil))) .nil) .nil)
theorem at_ok (t x2 x4 x9 x10 : Sl) (n : Int) (line : List Int) (u : List Nat) (a : Int) (lo : List (List Nat × Int)) (k : Nat) (hk : k < line.length) (hu : u.length ≤ 1000) (hlo : lo.length < szLine) (hm : mulOk a (sg u k) = true) (hm2 : mulOk (a * sg u k) line[k] = true) :
    ∃ y9 y10, exes fe atB (Dsv t n x2 (.ow (.fz (pl line))) x4 u a lo k x9 x10) = .nx (Dsv t n x2 (.ow (.fz (pl line))) x4 u a (if k ∈ u then lo else lo ++ [(u ++ [k], a * sg u k * line[k])]) k y9 y10) := by
  have ht : tstOf (ev fe (.cmp .notin (.v 8) (.v 5)) (Dsv t n x2 (.ow (.fz (pl line))) x4 u a lo k x9 x10)) = .ok (!decide (k ∈ u), Dsv t n x2 (.ow (.fz (pl line))) x4 u a lo k x9 x10) := by
    simp only [ev, tstOf, rd, List.getElem?_cons_zero, List.getElem?_cons_succ, Res.bind_ok, cmpop, SV.pv, uv, flat, flat_nat, pin_nat, Bool.true_and, Res.guard_true, Res.noex_ok]
  by_cases h : k ∈ u
  · rw [if_pos h]
    have e : (!decide (k ∈ u)) = false := by simp [h]
    rw [e] at ht
    exact ⟨x9, x10, exes_one ((exe_iff_f ht).trans rfl)⟩
  · rw [if_neg h]
    have e : (!decide (k ∈ u)) = true := by simp [h]
    rw [e] at ht
    have q1 : exe fe (.asg 9 (.c (.int 1))) (Dsv t n x2 (.ow (.fz (pl line))) x4 u a lo k x9 x10) = .nx (Dsv t n x2 (.ow (.fz (pl line))) x4 u a lo k (oi 1) x10) := by
      simp [exe, ev, valOf, isPath]
    obtain ⟨y, q2⟩ := sgn_ok (fe := fe) t x2 (.ow (.fz (pl line))) x4 x10 n u a lo k
    have g := atP_pl (l := line) (i := (k : Int)) rfl hk
    have len : decide ((u.map fun (k : Nat) => PV.int (k : Int)).length + [PV.int (k : Int)].length ≤ szLine) = true := decide_eq_true (by rw [List.length_map]; unfold szLine; simp; omega)
    have q3 : exe fe (.app (.v 7) (.tup (.cons (.bin .add (.v 5) (.tup (.cons (.f 8) .nil))) (.cons (.bin .mul (.bin .mul (.v 6) (.v 9)) (.idx (.v 3) (.v 8))) .nil)))) (Dsv t n x2 (.ow (.fz (pl line))) x4 u a lo k (oi (sg u k)) y) = .nx (Dsv t n x2 (.ow (.fz (pl line))) x4 u a (lo ++ [(u ++ [k], a * sg u k * line[k])]) k (oi (sg u k)) y) := by
      have hl2 : (lo.map fun p => SV.fz (wv p)).length < szLine := by rw [List.length_map]; exact hlo
      simp only [List.length_map] at hl2
      simp only [List.length_map, List.length_singleton] at len
      have len : decide (u.length + 1 ≤ szLine) = true := decide_eq_true (by unfold szLine; omega)
      have s2 : decide (2 ≤ szLine) = true := by decide +kernel
      have s1 : decide (1 ≤ szLine) = true := by decide +kernel
      simp [exe, evP, ev, evs, rd, getL, getO, getAt, asL, elemOf, valOf, isPath, isKeep, binop, addV, mulV, getIt, getN, g, hm, hm2, updS, updAt, gApp, hlo, SV.pv, SV.pvs, wl, wv, uv, len, s1, s2]
    exact ⟨oi (sg u k), y, exes_one ((exe_iff_t ht).trans ((exes_cons q1).trans ((exes_cons q2).trans (exes_one q3))))⟩
def grow (line : List Int) (p : List Nat × Int) : Nat → List (List Nat × Int)
  | 0 => []
  | k + 1 => grow line p k ++ (if k ∈ p.1 then [] else [(p.1 ++ [k], p.2 * sg p.1 k * line.getD k 0)])
theorem grow_len (line : List Int) (p : List Nat × Int) : ∀ k, (grow line p k).length ≤ k
  | 0 => Nat.le_refl _
  | k + 1 => by
    have := grow_len line p k
    unfold grow
    rw [List.length_append]
    split <;> simp <;> omega
theorem cols_ok (t x2 x4 x8 x9 x10 : Sl) (line : List Int) (u : List Nat) (a : Int) (lo : List (List Nat × Int)) (n : Nat) (hn : n = line.length) (hn2 : n ≤ 1000) (hu : u.length ≤ 1000) (hlo : lo.length + n < szLine) (hm : ∀ k, mulOk a (sg u k) = true) (hm2 : ∀ k (h : k < line.length), mulOk (a * sg u k) line[k] = true) :
    ∃ y8 y9 y10, exe fe (.forr (.nm 8) (.r1 (.v 1)) atB) [t, oi n, x2, .ow (.fz (pl line)), x4, .ow (.fz (uv u)), oi a, .ow (wl lo), x8, x9, x10] = .nx [t, oi n, x2, .ow (.fz (pl line)), x4, .ow (.fz (uv u)), oi a, .ow (wl (lo ++ grow line (u, a) n)), y8, y9, y10] := by
  have hI : evI fe (.r1 (.v 1)) [t, oi n, x2, .ow (.fz (pl line)), x4, .ow (.fz (uv u)), oi a, .ow (wl lo), x8, x9, x10] = .ok ((rangeL 0 n, []), [t, oi n, x2, .ow (.fz (pl line)), x4, .ow (.fz (uv u)), oi a, .ow (wl lo), x8, x9, x10]) := by
    have k1 : r62 (n : Int) = true := r62_of2 (by omega)
    simp [evI, ev, rd, asInt, SV.pv, k1]
  obtain ⟨S', h1, y8, y9, y10, h2⟩ := loopF_rel (tg := .nm 8) (body := exes fe atB) (its := rangeL 0 n) (S := [t, oi n, x2, .ow (.fz (pl line)), x4, .ow (.fz (uv u)), oi a, .ow (wl lo), x8, x9, x10])
    (fun i S => ∃ y8 y9 y10, S = [t, oi n, x2, .ow (.fz (pl line)), x4, .ow (.fz (uv u)), oi a, .ow (wl (lo ++ grow line (u, a) i)), y8, y9, y10]) ⟨x8, x9, x10, by simp [grow]⟩ (fun i S x hx ⟨y8, y9, y10, e1⟩ => by
      subst e1
      obtain ⟨e4, e5⟩ := rangeL_get hx
      subst e4
      have hi : i < n := by omega
      rw [Int.zero_add]
      have gl := grow_len line (u, a) i
      obtain ⟨z9, z10, k1⟩ := at_ok (fe := fe) t x2 x4 y9 y10 n line u a (lo ++ grow line (u, a) i) i (by omega) hu (by rw [List.length_append]; omega) (hm i) (hm2 i (by omega))
      refine ⟨_, rfl, _, .inl k1, oi i, z9, z10, ?_⟩
      have : (if i ∈ u then lo ++ grow line (u, a) i else lo ++ grow line (u, a) i ++ [(u ++ [i], a * sg u i * line[i]'(by omega))]) = lo ++ grow line (u, a) (i + 1) := by
        show _ = lo ++ (grow line (u, a) i ++ (if i ∈ u then [] else [(u ++ [i], a * sg u i * line.getD i 0)]))
        rw [getD_at (show i < line.length by omega)]
        by_cases h : i ∈ u
        · rw [if_pos h, if_pos h, List.append_nil]
        · rw [if_neg h, if_neg h, List.append_assoc]
      rw [this])
  rw [rangeL_len] at h2
  have e : ((n : Int) - 0).toNat = n := by omega
  rw [e] at h2
  subst h2
  exact ⟨y8, y9, y10, exe_forr hI h1⟩
theorem pvs_fz (l : List PV) : SV.pvs (l.map .fz) = l := by
  induction l with
  | nil => rfl
  | cons x xs ih => show SV.pv (.fz x) :: SV.pvs (xs.map .fz) = _; rw [ih]; rfl
def wayB : Ss := (.cons (.forr (.nm 8) (.r1 (.v 1)) atB) .nil)
def IsW (v : SV) (ws : List (List Nat × Int)) : Prop := listV v = .ok (.lst ((ws.map wv).map SV.fz))
abbrev Wsv (t : Sl) (n : Nat) (v : SV) (line : List Int) (x4 x5 x6 : Sl) (lo : List (List Nat × Int)) (x8 x9 x10 : Sl) : S := [t, oi n, .ow v, .ow (.fz (pl line)), x4, x5, x6, .ow (wl lo), x8, x9, x10]
theorem wl_fz (ws : List (List Nat × Int)) : wl ws = .lst ((ws.map wv).map SV.fz) := by unfold wl; rw [List.map_map]; rfl
/-- ways of so many numbers, so large -/
structure WOk (i b : Nat) (ws : List (List Nat × Int)) : Prop where
  u : ∀ p ∈ ws, p.1.length = i
  a : ∀ p ∈ ws, Bd b p.2
theorem sg_mulOk {a : Int} {b : Nat} (h : Bd b a) (hb : b ≤ 1000) (u : List Nat) (k : Nat) : mulOk a (sg u k) = true :=
  h.mulOk (b := 1) (by unfold Bd; rw [sg_abs]; decide) (by omega)
theorem sg_bd {a : Int} {b : Nat} (h : Bd b a) (u : List Nat) (k : Nat) : Bd b (a * sg u k) := by
  unfold Bd at *; rw [Int.natAbs_mul, sg_abs, Nat.mul_one]; exact h
theorem isW_wl (ws : List (List Nat × Int)) : IsW (wl ws) ws := by
  unfold IsW
  have e1 : allFz ((ws.map wv).map SV.fz) = some (ws.map wv) := allFz_map _
  rw [wl_fz]
  show lstO (allFz ((ws.map wv).map SV.fz)) = _
  rw [e1]; rfl
theorem isW_fz (ws : List (List Nat × Int)) : IsW (.fz (.lst (ws.map wv))) ws := rfl
theorem ways_it (S : PL.S) (v : SV) (ws : List (List Nat × Int)) (hv : IsW v ws) (h : rd S 2 = some v) : evI fe (.ex (.bi .list (.cons (.v 2) .nil))) S = .ok ((ws.map fun p => Itm.one (.ow (.fz (wv p))), []), S) := by
  have e2 := pvs_fz (ws.map wv)
  unfold IsW at hv
  simp only [evI, ev, evBs, h, Res.bind_ok, biop, hv, Res.noex_ok, srOf, valOf, isPath, SV.pv, e2, srcAt, srcP]
  rw [List.map_map, List.map_map]
  rfl
theorem growS_len (line : List Int) (n : Nat) : ∀ ws : List (List Nat × Int), (ws.flatMap fun p => grow line p n).length ≤ ws.length * n
  | [] => by simp
  | p :: ws => by
    rw [List.flatMap_cons, List.length_append, List.length_cons, Nat.add_mul]
    have := grow_len line p n
    have := growS_len line n ws
    omega
theorem ways_ok (t x4 x5 x6 x8 x9 x10 : Sl) (line : List Int) (v : SV) (ws : List (List Nat × Int)) (hv : IsW v ws) (n i b : Nat) (hn : n = line.length) (hn2 : n ≤ 5) (hi : i ≤ 5) (hb : b ≤ 1000) (W : WOk i b ws) (hl : ws.length ≤ 3125) (hm : ∀ x ∈ line, Bd 43 x) :
    ∃ y5 y6 y8 y9 y10, exe fe (.forr (.tp [5, 6]) (.ex (.bi .list (.cons (.v 2) .nil))) wayB) (Wsv t n v line x4 x5 x6 [] x8 x9 x10) = .nx (Wsv t n v line x4 y5 y6 (ws.flatMap fun p => grow line p n) y8 y9 y10) := by
  obtain ⟨S', h1, y5, y6, y8, y9, y10, h2⟩ := loopF_rel (tg := .tp [5, 6]) (body := exes fe wayB) (its := ws.map fun p => Itm.one (.ow (.fz (wv p)))) (S := Wsv t n v line x4 x5 x6 [] x8 x9 x10)
    (fun i S => ∃ y5 y6 y8 y9 y10, S = Wsv t n v line x4 y5 y6 ((ws.take i).flatMap fun p => grow line p n) y8 y9 y10) ⟨x5, x6, x8, x9, x10, by rw [List.take_zero]; rfl⟩ (fun j S x hx ⟨y5, y6, y8, y9, y10, e1⟩ => by
      subst e1
      have hj := (List.getElem?_eq_some_iff.mp hx).1
      have hx2 := (List.getElem?_eq_some_iff.mp hx).2
      rw [List.length_map] at hj
      rw [List.getElem_map] at hx2
      have wu := W.u _ (List.getElem_mem hj)
      have wa := W.a _ (List.getElem_mem hj)
      have gl := growS_len line n (ws.take j)
      have gl2 : (ws.take j).length * n ≤ 3125 * 5 := Nat.mul_le_mul (by rw [List.length_take]; omega) hn2
      obtain ⟨z8, z9, z10, k1⟩ := cols_ok (fe := fe) t (.ow v) x4 y8 y9 y10 line ws[j].1 ws[j].2 ((ws.take j).flatMap fun p => grow line p n) n hn (by omega) (by omega) (by unfold szLine; omega) (fun k => sg_mulOk wa hb _ k) (fun k h => (sg_bd wa _ k).mulOk (hm _ (List.getElem_mem h)) (by omega))
      refine ⟨Wsv t n v line x4 (.ow (.fz (uv ws[j].1))) (oi ws[j].2) ((ws.take j).flatMap fun p => grow line p n) y8 y9 y10, by rw [← hx2]; rfl, _, .inl (exes_one k1), .ow (.fz (uv ws[j].1)), oi ws[j].2, z8, z9, z10, ?_⟩
      rw [List.take_succ_eq_append_getElem hj, List.flatMap_append, List.flatMap_singleton])
  rw [List.length_map, List.take_length] at h2
  subst h2
  exact ⟨y5, y6, y8, y9, y10, exe_forr (ways_it _ v ws hv rfl) h1⟩
/-- the weighted sum -/
def wsum (n : Nat) (rest : List Vec) : List (List Nat × Int) → Int
  | [] => 0
  | p :: ws => p.2 * dets n rest p.1 + wsum n rest ws
theorem wsum_app (n : Nat) (rest : List Vec) : ∀ ws vs, wsum n rest (ws ++ vs) = wsum n rest ws + wsum n rest vs
  | [], vs => by simp [wsum]
  | p :: ws, vs => by
    show p.2 * dets n rest p.1 + wsum n rest (ws ++ vs) = p.2 * dets n rest p.1 + wsum n rest ws + wsum n rest vs
    rw [wsum_app n rest ws vs]; omega
theorem wsum_grow1 (n : Nat) (rest : List Vec) (line : List Int) (p : List Nat × Int) : ∀ k, wsum n rest (grow line p k) = p.2 * sm k fun a => if a ∈ p.1 then 0 else sg p.1 a * line.getD a 0 * dets n rest (p.1 ++ [a])
  | 0 => by simp [grow, wsum, sm_zero]
  | k + 1 => by
    show wsum n rest (grow line p k ++ (if k ∈ p.1 then [] else [(p.1 ++ [k], p.2 * sg p.1 k * line.getD k 0)])) = _
    rw [wsum_app, wsum_grow1 n rest line p k, sm_succ, Int.mul_add]
    by_cases h : k ∈ p.1
    · simp [h, wsum]
    · simp only [if_neg h]
      show _ + (p.2 * sg p.1 k * line.getD k 0 * dets n rest (p.1 ++ [k]) + 0) = _
      rw [Int.add_zero]
      congr 1
      rw [Int.mul_assoc, Int.mul_assoc, Int.mul_assoc]
theorem wsum_grow (n : Nat) (rest : List Vec) (line : List Int) : ∀ ws, wsum n rest (ws.flatMap fun p => grow line p n) = wsum n ((fun k => line.getD k 0) :: rest) ws
  | [] => rfl
  | p :: ws => by
    rw [List.flatMap_cons, wsum_app, wsum_grow n rest line ws, wsum_grow1]
    rfl
theorem grow_mem {line : List Int} {p q : List Nat × Int} : ∀ {k}, q ∈ grow line p k → ∃ a, q = (p.1 ++ [a], p.2 * sg p.1 a * line.getD a 0)
  | 0, h => by simp [grow] at h
  | k + 1, h => by
    have h : q ∈ grow line p k ++ (if k ∈ p.1 then [] else [(p.1 ++ [k], p.2 * sg p.1 k * line.getD k 0)]) := h
    rcases List.mem_append.mp h with h | h
    · exact grow_mem h
    · by_cases hk : k ∈ p.1
      · rw [if_pos hk] at h; exact nomatch h
      · rw [if_neg hk] at h; exact ⟨k, List.mem_singleton.mp h⟩
theorem WOk.grow {i b n : Nat} {ws : List (List Nat × Int)} {line : List Int} (W : WOk i b ws) (hm : ∀ x ∈ line, Bd 43 x) : WOk (i + 1) (b + 43) (ws.flatMap fun p => grow line p n) := by
  constructor
  · intro q hq
    obtain ⟨p, hp, hq⟩ := List.mem_flatMap.mp hq
    obtain ⟨a, rfl⟩ := grow_mem hq
    rw [List.length_append, W.u p hp]; rfl
  · intro q hq
    obtain ⟨p, hp, hq⟩ := List.mem_flatMap.mp hq
    obtain ⟨a, rfl⟩ := grow_mem hq
    exact (sg_bd (W.a p hp) _ a).mul (bd_at hm a)
def lineDB : Ss := (.cons (.asg 7 (.lst .nil)) (.cons (.forr (.tp [5, 6]) (.ex (.bi .list (.cons (.v 2) .nil))) wayB) (.cons (.asg 2 (.f 7)) .nil)))
abbrev Tsv (T : List (List Int)) (n : Nat) (v : SV) (x3 x4 x5 x6 x7 x8 x9 x10 : Sl) : S := [.bw (mt T), oi n, .ow v, x3, x4, x5, x6, x7, x8, x9, x10]
theorem pow5 {n i : Nat} (hn : n ≤ 5) (hi : i ≤ 4) : n ^ i ≤ 625 := by
  have h1 : n ^ i ≤ 5 ^ i := Nat.pow_le_pow_left hn i
  have h2 : (5 : Nat) ^ i ≤ 5 ^ 4 := Nat.pow_le_pow_right (by decide) hi
  have h3 : (5 : Nat) ^ 4 = 625 := by decide
  omega
theorem wl_pv (ws : List (List Nat × Int)) : SV.fz (wl ws).pv = SV.fz (.lst (ws.map wv)) := by
  rw [wl_fz]; show SV.fz (.lst (SV.pvs ((ws.map wv).map SV.fz))) = _; rw [pvs_fz]
theorem wayline_ok (T : List (List Int)) (n i b : Nat) (v : SV) (ws : List (List Nat × Int)) (hv : IsW v ws) (line : List Int) (x4 x5 x6 x7 x8 x9 x10 : Sl) (hn : n = line.length) (hn2 : n ≤ 5) (hi : i ≤ 5) (hb : b ≤ 1000) (W : WOk i b ws) (hl : ws.length ≤ 3125) (hm : ∀ x ∈ line, Bd 43 x) :
    ∃ v' y5 y6 y7 y8 y9 y10, exes fe lineDB (Tsv T n v (.ow (.fz (pl line))) x4 x5 x6 x7 x8 x9 x10) = .nx (Tsv T n v' (.ow (.fz (pl line))) x4 y5 y6 y7 y8 y9 y10) ∧ v' = .fz (.lst ((ws.flatMap fun p => grow line p n).map wv)) := by
  have q1 : exe fe (.asg 7 (.lst .nil)) (Tsv T n v (.ow (.fz (pl line))) x4 x5 x6 x7 x8 x9 x10) = .nx (Wsv (.bw (mt T)) n v line x4 x5 x6 [] x8 x9 x10) := by
    refine exe_asg (S' := Tsv T n v (.ow (.fz (pl line))) x4 x5 x6 x7 x8 x9 x10) (v := wl []) ?_
    simp [ev, evs, valOf, isPath, wl]
  obtain ⟨y5, y6, y8, y9, y10, q2⟩ := ways_ok (fe := fe) (.bw (mt T)) x4 x5 x6 x8 x9 x10 line v ws hv n i b hn hn2 hi hb W hl hm
  generalize hvs : (ws.flatMap fun p => grow line p n) = vs at q2 ⊢
  have q3 : exe fe (.asg 2 (.f 7)) (Wsv (.bw (mt T)) n v line x4 y5 y6 vs y8 y9 y10) = .nx [.bw (mt T), oi n, .ow (.fz (.lst (vs.map wv))), .ow (.fz (pl line)), x4, y5, y6, .ow (.fz (.lst (vs.map wv))), y8, y9, y10] := by
    refine exe_asg (S' := [.bw (mt T), oi n, .ow v, .ow (.fz (pl line)), x4, y5, y6, .ow (.fz (.lst (vs.map wv))), y8, y9, y10]) (v := .fz (.lst (vs.map wv))) ?_
    have : (wl vs).pv = .lst (vs.map wv) := by
      rw [wl_fz]; show PV.lst (SV.pvs _) = _; rw [pvs_fz]
    simp [ev, valOf, isPath, this]
  exact ⟨_, y5, y6, .ow (.fz (.lst (vs.map wv))), y8, y9, y10, (exes_cons q1).trans ((exes_cons q2).trans (exes_one q3)), rfl⟩
def sumB : Ss := (.cons (.asg 4 (.bin .add (.v 4) (.v 6))) .nil)
def asum (ws : List (List Nat × Int)) : Int := (ws.map Prod.snd).sum
theorem wsum_nil (n : Nat) : ∀ ws, wsum n [] ws = asum ws
  | [] => rfl
  | p :: ws => by
    show p.2 * dets n [] p.1 + wsum n [] ws = asum (p :: ws)
    rw [wsum_nil n ws]
    unfold asum dets
    rw [List.map_cons, List.sum_cons, Int.mul_one]
theorem det_ok (T : List (List Int)) (n : Nat) (hn : T.length = n) (hn1 : 1 ≤ n) (hn5 : n ≤ 5) (hw : ∀ r ∈ T, r.length = n) (hb : ∀ r ∈ T, ∀ x ∈ r, Bd 43 x) :
    fin (exes fe b__law_determinant (stS ⟨1, 11, b__law_determinant⟩ [.bw (mt T)])) = .ok (iv (dets n (sq T) [])) := by
  have st0 : stS ⟨1, 11, b__law_determinant⟩ [.bw (mt T)] = [.bw (mt T), .no, .no, .no, .no, .no, .no, .no, .no, .no, .no] := rfl
  rw [st0]
  have q1 : exe fe (.asg 1 (.bi .len (.cons (.v 0) .nil))) [.bw (mt T), .no, .no, .no, .no, .no, .no, .no, .no, .no, .no] = .nx [.bw (mt T), oi n, .no, .no, .no, .no, .no, .no, .no, .no, .no] := by
    refine exe_asg (S' := [.bw (mt T), .no, .no, .no, .no, .no, .no, .no, .no, .no, .no]) (v := iv n) ?_
    simp [ev, evBs, rd, valOf, isPath, biop, lenV, hn]
  have q2 : exe fe (.asg 2 (.lst (.cons (.tup (.cons (.tup .nil) (.cons (.c (.int 1)) .nil))) .nil))) [.bw (mt T), oi n, .no, .no, .no, .no, .no, .no, .no, .no, .no] = .nx (Tsv T n (wl [([], 1)]) .no .no .no .no .no .no .no .no) := by
    refine exe_asg (S' := [.bw (mt T), oi n, .no, .no, .no, .no, .no, .no, .no, .no, .no]) (v := wl [([], 1)]) ?_
    have s2 : decide (2 ≤ szLine) = true := by decide +kernel
    have s1 : decide (1 ≤ szLine) = true := by decide +kernel
    have s0 : decide (0 ≤ szLine) = true := by decide +kernel
    simp [ev, evs, valOf, isPath, elemOf, isKeep, wl, wv, uv, SV.pv, SV.pvs, s2, s1, s0]
  have hI : evI fe (.ex (.v 0)) (Tsv T n (wl [([], 1)]) .no .no .no .no .no .no .no .no) = .ok ((T.map fun r => Itm.one (.ow (.fz (pl r))), []), Tsv T n (wl [([], 1)]) .no .no .no .no .no .no .no .no) := by
    simp [evI, ev, rd, srOf, srcAt, srcV, lend]
  obtain ⟨S', h1, v, ws, y3, y5, y6, y7, y8, y9, y10, h2, hv, hW, hlen, hsum⟩ := loopF_rel (tg := .nm 3) (body := exes fe lineDB) (its := T.map fun r => Itm.one (.ow (.fz (pl r)))) (S := Tsv T n (wl [([], 1)]) .no .no .no .no .no .no .no .no)
    (fun i S => ∃ v ws y3 y5 y6 y7 y8 y9 y10, S = Tsv T n v y3 .no y5 y6 y7 y8 y9 y10 ∧ (IsW v ws ∧ (0 < i → v = .fz (.lst (ws.map wv)))) ∧ WOk i (1 + i * 43) ws ∧ ws.length ≤ n ^ i ∧ wsum n (sq (T.drop i)) ws = dets n (sq T) [])
    ⟨wl [([], 1)], [([], 1)], .no, .no, .no, .no, .no, .no, .no, rfl, ⟨isW_wl _, fun h => absurd h (by decide)⟩, ⟨fun p hp => by rw [List.mem_singleton.mp hp]; rfl, fun p hp => by rw [List.mem_singleton.mp hp]; show (1 : Int).natAbs < 2 ^ (1 + 0 * 43); decide⟩, by simp, by
      show 1 * dets n (sq (T.drop 0)) [] + 0 = _
      rw [List.drop_zero, Int.one_mul, Int.add_zero]⟩ (fun i S x hx ⟨v, ws, y3, y5, y6, y7, y8, y9, y10, e1, hv, hW, hlen, hsum⟩ => by
      subst e1
      have hi := (List.getElem?_eq_some_iff.mp hx).1
      have hx2 := (List.getElem?_eq_some_iff.mp hx).2
      rw [List.length_map] at hi
      rw [List.getElem_map] at hx2
      have hp := pow5 (n := n) (i := i) hn5 (by omega)
      obtain ⟨v', z5, z6, z7, z8, z9, z10, k1, k2⟩ := wayline_ok (fe := fe) T n i (1 + i * 43) v ws hv.1 T[i] .no y5 y6 y7 y8 y9 y10 (hw _ (List.getElem_mem hi)).symm hn5 (by omega) (by omega) hW (by omega) (hb _ (List.getElem_mem hi))
      refine ⟨Tsv T n v (.ow (.fz (pl T[i]))) .no y5 y6 y7 y8 y9 y10, by rw [← hx2]; rfl, _, .inl k1, v', ws.flatMap (fun p => grow T[i] p n), .ow (.fz (pl T[i])), z5, z6, z7, z8, z9, z10, rfl, ⟨by rw [k2]; exact isW_fz _, fun _ => k2⟩, ?_, ?_, ?_⟩
      · have := hW.grow (n := n) (hb _ (List.getElem_mem hi))
        have e : 1 + i * 43 + 43 = 1 + (i + 1) * 43 := by omega
        rw [e] at this
        exact this
      · have := growS_len T[i] n ws
        rw [Nat.pow_succ]
        exact Nat.le_trans this (Nat.mul_le_mul_right _ hlen)
      · rw [wsum_grow, ← hsum]
        have : sq (T.drop i) = (fun k => T[i].getD k 0) :: sq (T.drop (i + 1)) := by
          rw [List.drop_eq_getElem_cons hi]; rfl
        rw [this])
  rw [List.length_map, hn] at hv hW hlen hsum
  have hsum : asum ws = dets n (sq T) [] := by
    rw [← hsum, List.drop_of_length_le (by omega), ← wsum_nil n ws]; rfl
  subst h2
  have hv2 := hv.2 (by omega)
  have q3 := exe_forr hI h1
  have q4 : exe fe (.asg 4 (.c (.int 0))) (Tsv T n v y3 .no y5 y6 y7 y8 y9 y10) = .nx (Tsv T n v y3 (oi 0) y5 y6 y7 y8 y9 y10) := by
    refine exe_asg (S' := Tsv T n v y3 .no y5 y6 y7 y8 y9 y10) (v := iv 0) ?_
    simp [ev, valOf, isPath]
  have hI2 : evI fe (.ex (.v 2)) (Tsv T n v y3 (oi 0) y5 y6 y7 y8 y9 y10) = .ok ((ws.map fun p => Itm.one (.ow (.fz (wv p))), []), Tsv T n v y3 (oi 0) y5 y6 y7 y8 y9 y10) := by
    subst hv2
    simp [evI, ev, rd, srOf, srcAt, srcV, srcP, fzI]
  obtain ⟨S', h1, z5, z6, h2⟩ := loopF_rel (tg := .tp [5, 6]) (body := exes fe sumB) (its := ws.map fun p => Itm.one (.ow (.fz (wv p)))) (S := Tsv T n v y3 (oi 0) y5 y6 y7 y8 y9 y10)
    (fun i S => ∃ y5 y6, S = Tsv T n v y3 (oi (asum (ws.take i))) y5 y6 y7 y8 y9 y10) ⟨y5, y6, by rw [List.take_zero]; rfl⟩ (fun j S x hx ⟨y5, y6, e1⟩ => by
      subst e1
      have hj := (List.getElem?_eq_some_iff.mp hx).1
      have hx2 := (List.getElem?_eq_some_iff.mp hx).2
      rw [List.length_map] at hj
      rw [List.getElem_map] at hx2
      refine ⟨Tsv T n v y3 (oi (asum (ws.take j))) (.ow (.fz (uv ws[j].1))) (oi ws[j].2) y7 y8 y9 y10, by rw [← hx2]; rfl, Tsv T n v y3 (oi (asum (ws.take j) + ws[j].2)) (.ow (.fz (uv ws[j].1))) (oi ws[j].2) y7 y8 y9 y10, .inl (exes_one ?_), .ow (.fz (uv ws[j].1)), oi ws[j].2, ?_⟩
      · refine exe_asg (S' := Tsv T n v y3 (oi (asum (ws.take j))) (.ow (.fz (uv ws[j].1))) (oi ws[j].2) y7 y8 y9 y10) (v := iv (asum (ws.take j) + ws[j].2)) ?_
        simp [ev, rd, valOf, isPath, binop, addV]
      · have : asum (ws.take (j + 1)) = asum (ws.take j) + ws[j].2 := by
          unfold asum
          rw [List.take_succ_eq_append_getElem hj, List.map_append, List.map_singleton, List.sum_append]; simp
        rw [this])
  rw [List.length_map, List.take_length, hsum] at h2
  subst h2
  have q5 := exe_forr hI2 h1
  have q6 : exe fe (.retM 4) (Tsv T n v y3 (oi (dets n (sq T) [])) z5 z6 y7 y8 y9 y10) = .rt (iv (dets n (sq T) [])) := by simp [exe]
  exact congrArg fin ((exes_cons q1).trans ((exes_cons q2).trans ((exes_cons q3).trans ((exes_cons q4).trans ((exes_cons q5).trans (exes_rt q6))))))
theorem noBw1_f {t : Nat → Bool} {i : Nat} {x : Sl} (h : t i = false) : noBw1 t i x = x := by
  cases x <;> simp [noBw1, h]
def sgl (l : List Int) : List Int := if l.getD 0 0 < 0 then l.map fun x => -x else l
abbrev tpl (l : List Int) : PV := .tup (l.map PV.int)
theorem alf_il (l : List Int) : allFz (l.map iv) = some (l.map PV.int) := by
  have := allFz_map (l.map PV.int)
  rw [List.map_map] at this
  exact this
theorem low_len (l : List Int) : (low l).length = l.length := by unfold low; split <;> simp
theorem sgl_len (l : List Int) : (sgl l).length = l.length := by unfold sgl; split <;> simp
theorem cmp_lt_int (i j : Int) : cmpop .lt (.int i) (.int j) = .ok (.bl (decide (i < j))) := rfl
theorem getD_map {l : List Int} {f : Int → Int} (h : f 0 = 0) (k : Nat) : (l.map f).getD k 0 = f (l.getD k 0) := by
  by_cases hk : k < l.length
  · rw [getD_at (by rw [List.length_map]; exact hk), getD_at hk, List.getElem_map]
  · rw [getD_out (by rw [List.length_map]; omega), getD_out (by omega), h]
/-- in lowest terms -/
theorem low_spec (F : List Int) (h0 : F.getD 0 0 ≠ 0) : ∃ g : Int, 1 ≤ g ∧ (∀ k, F.getD k 0 = g * (low F).getD k 0) ∧ ∀ p : Int, (∀ x ∈ F, p ∣ x) → p ∣ g := by
  obtain ⟨k1, _, k3, k4⟩ := gcds_spec F 0 (Int.le_refl 0)
  have hl : 0 < F.length := Classical.byContradiction fun z => h0 (getD_out (by omega))
  have hm : F.getD 0 0 ∈ F := by rw [getD_at hl]; exact List.getElem_mem hl
  have hg : 1 ≤ gcds F 0 := by
    have : gcds F 0 ≠ 0 := fun z => by
      have := k3 _ hm
      rw [z] at this
      exact h0 (Int.zero_dvd.mp this)
    omega
  refine ⟨gcds F 0, hg, fun k => ?_, fun p hp => k4 p (Int.dvd_zero p) hp⟩
  unfold low
  by_cases h2 : gcds F 0 < 2
  · rw [if_pos h2]
    have : gcds F 0 = 1 := by omega
    rw [this, Int.one_mul]
  · rw [if_neg h2, getD_map (f := fun x => x.fdiv (gcds F 0)) (by simp)]
    by_cases hk : k < F.length
    · rw [getD_at hk]
      obtain ⟨y, hy⟩ := k3 _ (List.getElem_mem hk)
      show _ = gcds F 0 * (F[k]).fdiv (gcds F 0)
      rw [fdiv_of (by omega) hy.symm]
      exact hy
    · rw [getD_out (by omega)]; simp
structure Low (F R : List Int) (q : Int) : Prop where
  q0 : q ≠ 0
  len : R.length = F.length
  eq : ∀ k, F.getD k 0 = q * R.getD k 0
  pos : 1 ≤ R.getD 0 0
  g : gcds R 0 = 1
theorem low_ok (F : List Int) (h0 : F.getD 0 0 ≠ 0) : ∃ q, Low F (sgl (low F)) q := by
  obtain ⟨g, h1, h2, h3⟩ := low_spec F h0
  have e0 := h2 0
  have hl0 : (low F).getD 0 0 ≠ 0 := fun z => h0 (by rw [e0, z, Int.mul_zero])
  have key : ∃ q : Int, (q = g ∨ q = -g) ∧ (∀ k, F.getD k 0 = q * (sgl (low F)).getD k 0) ∧ 1 ≤ (sgl (low F)).getD 0 0 := by
    unfold sgl
    by_cases hs : (low F).getD 0 0 < 0
    · rw [if_pos hs]
      refine ⟨-g, .inr rfl, fun k => ?_, ?_⟩
      · rw [getD_map (f := fun x => -x) (by simp), h2 k]
        show _ = -g * -(low F).getD k 0
        rw [Int.neg_mul_neg]
      · rw [getD_map (f := fun x => -x) (by simp)]
        show 1 ≤ -(low F).getD 0 0
        omega
    · rw [if_neg hs]
      exact ⟨g, .inl rfl, h2, by omega⟩
  obtain ⟨q, hq, k1, k2⟩ := key
  have q0 : q ≠ 0 := by rcases hq with h | h <;> omega
  refine ⟨q, q0, by rw [sgl_len, low_len], k1, k2, ?_⟩
  obtain ⟨c1, _, c3, _⟩ := gcds_spec (sgl (low F)) 0 (Int.le_refl 0)
  have hlen : (sgl (low F)).length = F.length := by rw [sgl_len, low_len]
  generalize gcds (sgl (low F)) 0 = G at c1 c3
  have d1 : q * G ∣ g := h3 _ fun x hx => by
    obtain ⟨k, hk, e⟩ := List.getElem_of_mem hx
    have := k1 k
    rw [getD_at hk, e] at this
    rw [this]
    refine Int.mul_dvd_mul_left q ?_
    rw [getD_at (by omega)]
    exact c3 _ (List.getElem_mem _)
  have d2 : g * G ∣ g * 1 := by
    rw [Int.mul_one]
    rcases hq with h | h
    · rw [← h] at d1 ⊢; exact d1
    · have : g = -q := by omega
      rw [this] at d1 ⊢
      rw [Int.neg_mul]
      exact Int.neg_dvd.mpr d1
  have d3 : G ∣ 1 := Int.dvd_of_mul_dvd_mul_left (by omega) d2
  have := Int.le_of_dvd (by decide) d3
  have : G ≠ 0 := fun z => by rw [z] at d3; exact absurd (Int.zero_dvd.mp d3) (by decide)
  omega
theorem Low.bd {F R : List Int} {q : Int} (L : Low F R q) {b : Nat} (h : ∀ x ∈ F, Bd b x) : ∀ x ∈ R, Bd b x := fun x hx => by
  obtain ⟨k, hk, e⟩ := List.getElem_of_mem hx
  have := L.eq k
  rw [getD_at (l := R) hk, e] at this
  exact (bd_at h k).div L.q0 this.symm
theorem atP_iv {l : List Int} {k : Nat} {i : Int} (hi : i = k) (h : k < l.length) : atP (l.map iv) i = some (iv l[k]) := by
  rw [atP_of hi (by rw [List.length_map]; exact h), List.getElem_map]
theorem peqs_ints : ∀ l : List Int, peqs (l.map PV.int) (l.map PV.int) = true
  | [] => rfl
  | x :: xs => by
    show (((x == x) : Bool) && peqs (xs.map PV.int) (xs.map PV.int)) = true
    rw [peqs_ints xs]; simp
theorem peqs_pl : ∀ W : List (List Int), peqs (W.map pl) (W.map pl) = true
  | [] => rfl
  | r :: W => by
    show (peqs (r.map PV.int) (r.map PV.int) && peqs (W.map pl) (W.map pl)) = true
    rw [peqs_ints r, peqs_pl W]; rfl
theorem plains_ints : ∀ l : List Int, plains (l.map PV.int) = true
  | [] => rfl
  | x :: xs => by
    show (true && plains (xs.map PV.int)) = true
    rw [plains_ints xs]; rfl
theorem pdeps_ints : ∀ l : List Int, pdeps (l.map PV.int) = 0
  | [] => rfl
  | x :: xs => by
    show max 0 (pdeps (xs.map PV.int)) = 0
    rw [pdeps_ints xs]; rfl
theorem plains_pl : ∀ W : List (List Int), plains (W.map pl) = true
  | [] => rfl
  | r :: W => by
    show (plains (r.map PV.int) && plains (W.map pl)) = true
    rw [plains_ints r, plains_pl W]; rfl
theorem pdeps_pl : ∀ W : List (List Int), pdeps (W.map pl) ≤ 1
  | [] => by show (0 : Nat) ≤ 1; omega
  | r :: W => by
    show max (pdeps (r.map PV.int) + 1) (pdeps (W.map pl)) ≤ 1
    have := pdeps_pl W
    rw [pdeps_ints r]
    omega
theorem mt_pv (W : List (List Int)) : (mt W).pv = .lst (W.map pl) := by
  have := pvs_fz (W.map pl)
  rw [List.map_map] at this
  show PV.lst (SV.pvs _) = _
  exact congrArg PV.lst this
theorem ne_mt (W : List (List Int)) : cmpop .ne (mt W).pv (mt W).pv = .ok (.bl false) := by
  rw [mt_pv]
  have hs : shp (.lst (W.map pl)) = true := by
    unfold shp
    rw [Bool.and_eq_true]
    refine ⟨plains_pl W, decide_eq_true ?_⟩
    have := pdeps_pl W
    show pdeps (W.map pl) + 1 ≤ 64
    omega
  show Res.guard (shp (.lst (W.map pl)) && shp (.lst (W.map pl))) (Res.ok (PV.bl (!peqs (W.map pl) (W.map pl)))) = _
  rw [hs, peqs_pl]; rfl
def gid : Itm → SV
  | .one (.ow (.fz (.lst l))) => .fz (.lst l)
  | _ => iv 0
theorem row_it (S : PL.S) (i : Nat) (W : List (List Int)) (h : S[i]? = some (.ow (mt W))) : evI fe (.ex (.v i)) S = .ok ((W.map fun r => Itm.one (.ow (.fz (pl r))), [(i, mt W)]), S) := by
  have : rd S i = some (mt W) := by unfold rd; rw [h]
  simp only [evI, ev, this, Res.bind_ok, srOf, srcAt, srcV, h, List.map_map]
  rfl
end PL.T

namespace PL
/-- places of a row -/
def pk (S : List Nat) (x : Vec) : Vec := fun k => x (S.getD k 0)
theorem dets_zero (n : Nat) {l : List Vec} {p : Nat} (h : p < l.length) (us : List Nat) (z : Vec) (hz : ∀ k, z k = 0) : dets n (l.set p z) us = 0 := by
  have := det_lin n h 0 0 z z us
  have e : (fun k => 0 * z k + 0 * z k) = z := by funext k; rw [hz k]; simp
  rw [e] at this
  rw [this]; simp
theorem getV_app {A X : List Vec} {q : Nat} (h : q < A.length) : (A ++ X).getD q (fun _ => 0) = A.getD q fun _ => 0 := by
  rw [List.getD_eq_getElem?_getD, List.getD_eq_getElem?_getD, List.getElem?_append_left h]
theorem getV_mid {A X : List Vec} {v : Vec} : (A ++ v :: X).getD A.length (fun _ => 0) = v := by
  rw [List.getD_eq_getElem?_getD, List.getElem?_append_right (Nat.le_refl _), Nat.sub_self]; rfl
/-- a row that is, but for a factor, another one and multiples of the rows before it -/
theorem det_row (n : Nat) (A X : List Vec) (v b : Vec) (g a : Int) (c : Nat → Int) (h : ∀ k, g * b k = a * v k + sm A.length fun q => c q * (A.getD q fun _ => 0) k) (us : List Nat) : g * dets n (A ++ b :: X) us = a * dets n (A ++ v :: X) us := by
  have hl : A.length < (A ++ v :: X).length := by simp
  have e0 : ∀ z : Vec, (A ++ v :: X).set A.length z = A ++ z :: X := fun z => by simp
  have k1 := det_comb n hl us (fun q => if q = A.length then a else c q) (A.length + 1) (by simp)
  rw [if_pos (by omega), if_pos rfl, e0] at k1
  have k2 := det_lin n hl g 0 b b us
  rw [e0, e0] at k2
  have e1 : (fun k => sm (A.length + 1) fun q => (if q = A.length then a else c q) * ((A ++ v :: X).getD q fun _ => 0) k) = fun k => g * b k + 0 * b k := by
    funext k
    rw [h k, sm_succ, if_pos rfl, getV_mid, Int.zero_mul, Int.add_zero, Int.add_comm]
    congr 1
    refine sm_congr fun q hq => ?_
    rw [if_neg (by omega), getV_app hq]
  rw [e1, k2, Int.zero_mul, Int.add_zero] at k1
  exact k1
/-- the bases made of the rows vs -/
inductive Chain : List Vec → List Vec → Prop
  | nil : Chain [] []
  | snoc {vs bs : List Vec} {v b : Vec} (g a : Int) (c : Nat → Int) : Chain vs bs → g ≠ 0 → a ≠ 0 → (∀ k, g * b k = a * v k + sm bs.length fun q => c q * (bs.getD q fun _ => 0) k) → Chain (vs ++ [v]) (bs ++ [b])
theorem Chain.len {vs bs : List Vec} (h : Chain vs bs) : vs.length = bs.length := by
  induction h with
  | nil => rfl
  | snoc g a c _ _ _ _ ih => rw [List.length_append, List.length_append, ih]; rfl
theorem pk_getD {A : List Vec} {S : List Nat} {q : Nat} (h : q < A.length) : ((A.map (pk S)).getD q fun _ => 0) = pk S (A.getD q fun _ => 0) := by
  rw [List.getD_eq_getElem?_getD, List.getD_eq_getElem?_getD, List.getElem?_map, List.getElem?_eq_getElem h]
  rfl
theorem pk_row {A : List Vec} {v b : Vec} {g a : Int} {c : Nat → Int} (S : List Nat) (h : ∀ k, g * b k = a * v k + sm A.length fun q => c q * (A.getD q fun _ => 0) k) : ∀ k, g * pk S b k = a * pk S v k + sm (A.map (pk S)).length fun q => c q * ((A.map (pk S)).getD q fun _ => 0) k := fun k => by
  show g * b (S.getD k 0) = a * v (S.getD k 0) + _
  rw [h, List.length_map]
  congr 1
  refine sm_congr fun q hq => ?_
  rw [pk_getD hq]
  rfl
theorem Chain.det {vs bs : List Vec} (h : Chain vs bs) (n : Nat) (S : List Nat) : ∀ X : List Vec, dets n (bs.map (pk S) ++ X) [] = 0 ↔ dets n (vs.map (pk S) ++ X) [] = 0 := by
  induction h with
  | nil => exact fun X => Iff.rfl
  | @snoc vs bs v b g a c h hg ha e ih =>
    intro X
    rw [List.map_append, List.map_append, List.append_assoc, List.append_assoc]
    show dets n (bs.map (pk S) ++ pk S b :: X) [] = 0 ↔ dets n (vs.map (pk S) ++ pk S v :: X) [] = 0
    rw [← ih]
    have := det_row n (bs.map (pk S)) X (pk S v) (pk S b) g a c (pk_row S e) []
    constructor
    · intro z
      rw [z, Int.mul_zero] at this
      exact (Int.mul_eq_zero.mp this.symm).resolve_left ha
    · intro z
      rw [z, Int.mul_zero] at this
      exact (Int.mul_eq_zero.mp this).resolve_left hg
/-- a row that depends on the bases: no minor with it -/
theorem Chain.dep {vs bs : List Vec} (h : Chain vs bs) {v : Vec} {a : Int} {c : Nat → Int} (ha : a ≠ 0) (S : List Nat) (e : ∀ k, 0 = a * pk S v k + sm bs.length fun q => c q * pk S (bs.getD q fun _ => 0) k) (n : Nat) (X : List Vec) : dets n (vs.map (pk S) ++ pk S v :: X) [] = 0 := by
  rw [← h.det]
  have := det_row n (bs.map (pk S)) X (pk S v) (fun _ => 0) 1 a c (fun k => by
    refine (Int.mul_zero 1).trans ((e k).trans ?_)
    rw [List.length_map]
    congr 1
    refine sm_congr fun q hq => ?_
    rw [pk_getD hq]) []
  have z : dets n (bs.map (pk S) ++ (fun _ => (0 : Int)) :: X) [] = 0 := by
    have e0 : (bs.map (pk S) ++ pk S v :: X).set (bs.map (pk S)).length (fun _ => 0) = bs.map (pk S) ++ (fun _ => (0 : Int)) :: X := by
      rw [List.set_append_right _ _ (Nat.le_refl _), Nat.sub_self]; rfl
    rw [← e0]
    exact dets_zero n (by simp) [] _ fun _ => rfl
  rw [z, Int.mul_zero] at this
  exact (Int.mul_eq_zero.mp this.symm).resolve_left ha
theorem nodup_lt {us : List Nat} {n p : Nat} (h : us.Nodup) (hu : ∀ u ∈ us, u < n) (hp : p < n) (hn : p ∉ us) : us.length < n := by
  have pm : us.Perm ((List.range n).filter fun k => decide (k ∈ us)) := by
    rw [List.perm_ext_iff_of_nodup h (List.Nodup.sublist List.filter_sublist List.nodup_range)]
    intro a
    rw [List.mem_filter, List.mem_range, decide_eq_true_eq]
    exact ⟨fun q => ⟨hu a q, q⟩, fun q => q.2⟩
  rw [pm.length_eq]
  have : ((List.range n).filter fun k => decide (k ∈ us)).length < (List.range n).length := by
    rw [List.length_filter_lt_length_iff_exists]
    exact ⟨p, List.mem_range.mpr hp, by simpa using hn⟩
  rwa [List.length_range] at this
theorem nodup_snoc {us : List Nat} {a : Nat} (h : us.Nodup) (ha : a ∉ us) : (us ++ [a]).Nodup := by
  rw [List.nodup_append]
  exact ⟨h, by simp, fun x hx y hy e => ha (by rw [List.mem_singleton.mp hy] at e; rw [← e]; exact hx)⟩
theorem dets_gap (n p : Nat) (hp : p < n) : ∀ (rs : List Vec) (us : List Nat), (∀ r ∈ rs, r p = 0) → p ∉ us → us.Nodup → (∀ u ∈ us, u < n) → n ≤ us.length + rs.length → dets n rs us = 0
  | [], us, _, hn, hd, hu, hl => absurd (nodup_lt hd hu hp hn) (by simp at hl; omega)
  | r :: rs, us, hr, hn, hd, hu, hl => by
    unfold dets
    rw [sm_congr (g := fun _ => 0) fun a ha => ?_, sm_const0]
    by_cases h : a ∈ us
    · rw [if_pos h]
    · rw [if_neg h]
      by_cases e : a = p
      · rw [e, hr r List.mem_cons_self]; simp
      · rw [dets_gap n p hp rs (us ++ [a]) (fun q hq => hr q (List.mem_cons_of_mem _ hq)) (fun z => (List.mem_append.mp z).elim hn fun z => e (List.mem_singleton.mp z).symm) (nodup_snoc hd h)
          (fun u hu' => (List.mem_append.mp hu').elim (hu u) fun z => by rw [List.mem_singleton.mp z]; exact ha) (by rw [List.length_append, List.length_singleton]; rw [List.length_cons] at hl; omega), Int.mul_zero]
theorem dets_tri (n : Nat) : ∀ (rs : List Vec) (ps us : List Nat), rs.length = ps.length → us.length + rs.length = n → (us ++ ps).Nodup → (∀ u ∈ us ++ ps, u < n) →
    (∀ i (h : i < rs.length) (h' : i < ps.length), rs[i] ps[i] ≠ 0) → (∀ i j (h : i < rs.length) (h' : j < ps.length), j < i → rs[i] ps[j] = 0) → dets n rs us ≠ 0
  | [], _, us, _, _, _, _, _, _ => by unfold dets; decide
  | r :: rs, [], us, h, _, _, _, _, _ => nomatch h
  | r :: rs, p :: ps, us, hl, hn, hd, hu, h1, h2 => by
    rw [List.length_cons] at hn
    have hpu : p ∉ us := fun z => by
      rw [List.nodup_append] at hd
      exact hd.2.2 p z p List.mem_cons_self rfl
    have hdu : us.Nodup := by rw [List.nodup_append] at hd; exact hd.1
    have hp : p < n := hu p (by simp)
    have e : us ++ p :: ps = (us ++ [p]) ++ ps := by simp
    unfold dets
    rw [sm_single (k := p) hp (fun a ha hne => by
      by_cases h : a ∈ us
      · rw [if_pos h]
      · rw [if_neg h, dets_gap n p hp rs (us ++ [a]) (fun q hq => by
          obtain ⟨i, hi, eq⟩ := List.getElem_of_mem hq
          have := h2 (i + 1) 0 (by simpa using hi) (by simp) (by omega)
          rw [List.getElem_cons_succ, List.getElem_cons_zero, eq] at this
          exact this) (fun z => (List.mem_append.mp z).elim hpu fun z => hne (List.mem_singleton.mp z).symm) (nodup_snoc hdu h)
          (fun u hu' => (List.mem_append.mp hu').elim (fun z => hu u (List.mem_append_left _ z)) fun z => by rw [List.mem_singleton.mp z]; exact ha) (by rw [List.length_append, List.length_singleton]; omega), Int.mul_zero]), if_neg hpu]
    have ih := dets_tri n rs ps (us ++ [p]) (by simpa using hl) (by rw [List.length_append, List.length_singleton]; omega) (by rw [← e]; exact hd) (by rw [← e]; exact hu)
      (fun i h h' => h1 (i + 1) (by simpa using h) (by simpa using h')) (fun i j h h' hij => h2 (i + 1) (j + 1) (by simpa using h) (by simpa using h') (by omega))
    have hr := h1 0 (by simp) (by simp)
    rw [List.getElem_cons_zero, List.getElem_cons_zero] at hr
    have hs : sg us p ≠ 0 := fun z => by have := sg_abs p us; rw [z] at this; exact absurd this (by decide)
    exact Int.mul_ne_zero (Int.mul_ne_zero hs hr) ih
/-- leading columns -/
structure Ech (w : Nat) (cs : List Nat) (bs : List Vec) : Prop where
  len : cs.length = bs.length
  lt : ∀ c ∈ cs, c < w
  nz : ∀ i (h : i < bs.length) (h' : i < cs.length), bs[i] cs[i] ≠ 0
  z : ∀ i j (h : i < bs.length) (h' : j < cs.length), j < i → bs[i] cs[j] = 0
theorem Ech.nodup {w : Nat} {cs : List Nat} {bs : List Vec} (E : Ech w cs bs) : cs.Nodup := by
  rw [List.Nodup, List.pairwise_iff_getElem]
  intro i j hi hj hij e
  have h1 := E.nz j (by rw [← E.len]; exact hj) hj
  have h2 := E.z j i (by rw [← E.len]; exact hj) hi hij
  rw [e] at h2
  exact h1 h2
/-- the columns in order -/
def srt (w : Nat) (cs : List Nat) : List Nat := (List.range w).filter fun k => decide (k ∈ cs)
theorem mem_srt {w : Nat} {cs : List Nat} {c : Nat} : c ∈ srt w cs ↔ c < w ∧ c ∈ cs := by
  unfold srt; rw [List.mem_filter, List.mem_range, decide_eq_true_eq]
theorem srt_len {w : Nat} {cs : List Nat} (h : cs.Nodup) (hc : ∀ c ∈ cs, c < w) : (srt w cs).length = cs.length := by
  have hd : (srt w cs).Nodup := List.Nodup.sublist List.filter_sublist List.nodup_range
  have pm : cs.Perm (srt w cs) := (List.perm_ext_iff_of_nodup h hd).mpr fun a => by
    rw [mem_srt]
    exact ⟨fun q => ⟨hc a q, q⟩, fun q => q.2⟩
  exact pm.length_eq.symm
theorem pk_idx {S : List Nat} {c : Nat} (h : c ∈ S) (x : Vec) : pk S x (S.idxOf c) = x c := by
  unfold pk
  have hl := List.idxOf_lt_length_of_mem h
  rw [List.getD_eq_getElem?_getD, List.getElem?_eq_getElem hl, List.getElem_idxOf hl]
  rfl
theorem Ech.det {w : Nat} {cs : List Nat} {bs : List Vec} (E : Ech w cs bs) : dets bs.length (bs.map (pk (srt w cs))) [] ≠ 0 := by
  have hm : ∀ c ∈ cs, c ∈ srt w cs := fun c hc => mem_srt.mpr ⟨E.lt c hc, hc⟩
  have hl := srt_len E.nodup E.lt
  refine dets_tri bs.length _ (cs.map (srt w cs).idxOf) [] (by rw [List.length_map, List.length_map, E.len]) (by simp) ?_ (fun u hu => ?_) (fun i h h' => ?_) (fun i j h h' hij => ?_)
  · rw [List.nil_append, List.Nodup, List.pairwise_map]
    refine E.nodup.imp_of_mem fun {a b} ha hb hne e => hne ?_
    have h1 := List.getElem_idxOf (List.idxOf_lt_length_of_mem (hm a ha))
    have h2 := List.getElem_idxOf (List.idxOf_lt_length_of_mem (hm b hb))
    rw [← h1, ← h2]
    simp only [e]
  · rw [List.nil_append] at hu
    obtain ⟨c, hc, rfl⟩ := List.mem_map.mp hu
    have := List.idxOf_lt_length_of_mem (hm c hc)
    rw [hl, E.len] at this
    exact this
  · rw [List.length_map] at h h'
    rw [List.getElem_map, List.getElem_map, pk_idx (hm _ (List.getElem_mem h'))]
    exact E.nz i h h'
  · rw [List.length_map] at h h'
    rw [List.getElem_map, List.getElem_map, pk_idx (hm _ (List.getElem_mem h'))]
    exact E.z i j h h' hij
end PL

namespace PL
/-- a sum of multiples -/
def cmb : List (Int × Vec) → Vec
  | [] => fun _ => 0
  | p :: t => fun k => p.1 * p.2 k + cmb t k
theorem cmb_app (P Q : List (Int × Vec)) (k : Nat) : cmb (P ++ Q) k = cmb P k + cmb Q k := by
  induction P with
  | nil => show cmb Q k = 0 + cmb Q k; omega
  | cons p t ih => show p.1 * p.2 k + cmb (t ++ Q) k = p.1 * p.2 k + cmb t k + cmb Q k; rw [ih]; omega
def dsum (n : Nat) (l : List Vec) : List (Int × Vec) → Int
  | [] => 0
  | p :: t => p.1 * dets n (l ++ [p.2]) [] + dsum n l t
theorem dsum_app (n : Nat) (l : List Vec) (P Q : List (Int × Vec)) : dsum n l (P ++ Q) = dsum n l P + dsum n l Q := by
  induction P with
  | nil => show dsum n l Q = 0 + dsum n l Q; omega
  | cons p t ih => show _ + dsum n l (t ++ Q) = _ + dsum n l t + dsum n l Q; rw [ih]; omega
theorem dets_cmb (n : Nat) (l : List Vec) : ∀ P : List (Int × Vec), dets n (l ++ [cmb P]) [] = dsum n l P
  | [] => by
    have := dets_lin n 0 0 (fun _ => 0) (fun _ => 0) [] l []
    have e : (fun k : Nat => (0 : Int) * 0 + 0 * 0) = fun _ => 0 := rfl
    rw [show cmb [] = fun k : Nat => (0 : Int) * (fun _ => 0) k + 0 * (fun _ => 0) k from rfl, this]
    simp [dsum]
  | p :: t => by
    have := dets_lin n p.1 1 p.2 (cmb t) [] l []
    have e : cmb (p :: t) = fun k => p.1 * p.2 k + 1 * cmb t k := by funext k; show p.1 * p.2 k + cmb t k = _; rw [Int.one_mul]
    rw [e, this, dets_cmb n l t, Int.one_mul]
    rfl
theorem dsum_in (n : Nat) (l : List Vec) : ∀ P : List (Int × Vec), (∀ p ∈ P, p.2 ∈ l) → dsum n l P = 0
  | [], _ => rfl
  | p :: t, h => by
    obtain ⟨l1, l2, e⟩ := List.append_of_mem (h p List.mem_cons_self)
    show p.1 * dets n (l ++ [p.2]) [] + dsum n l t = 0
    rw [dsum_in n l t fun q hq => h q (List.mem_cons_of_mem _ hq)]
    have : l ++ [p.2] = l1 ++ p.2 :: (l2 ++ p.2 :: []) := by rw [e]; simp
    rw [this, dets_two]; simp
theorem dets_move (n : Nat) (x : Vec) : ∀ (l2 l1 : List Vec), dets n (l1 ++ (l2 ++ [x])) [] = (-1) ^ l2.length * dets n (l1 ++ x :: l2) []
  | [], l1 => by simp
  | y :: t, l1 => by
    have ih := dets_move n x t (l1 ++ [y])
    have e1 : l1 ++ (y :: t ++ [x]) = l1 ++ [y] ++ (t ++ [x]) := by simp
    have e2 : l1 ++ [y] ++ x :: t = l1 ++ y :: x :: t := by simp
    rw [e1, ih, e2, dets_swap, List.length_cons, Int.pow_succ]
    generalize (-1 : Int) ^ t.length = s
    generalize dets n (l1 ++ x :: y :: t) [] = d
    rw [Int.mul_neg, Int.mul_neg, Int.mul_one, Int.neg_mul]
theorem zip_mem {P : List Int} {l : List Vec} {p : Int × Vec} (h : p ∈ P.zip l) : p.2 ∈ l := (List.of_mem_zip h).2
/-- a relation between rows gives their minors -/
theorem rel_minors (n : Nat) (l1 l2 : List Vec) (x y : Vec) (p1 p2 : List Int) (a b : Int) (h1 : p1.length = l1.length) (h2 : p2.length = l2.length) (h : ∀ k, cmb ((p1 ++ a :: (p2 ++ [b])).zip (l1 ++ x :: (l2 ++ [y]))) k = 0) :
    b * ((-1) ^ l1.length * dets n (l1 ++ (l2 ++ [y])) []) = a * ((-1) ^ (l1.length + l2.length + 1) * dets n (l1 ++ x :: l2) []) := by
  have e : (p1 ++ a :: (p2 ++ [b])).zip (l1 ++ x :: (l2 ++ [y])) = p1.zip l1 ++ ((a, x) :: (p2.zip l2 ++ [(b, y)])) := by
    rw [List.zip_append h1, List.zip_cons_cons, List.zip_append h2]; rfl
  have k1 := dets_cmb n (l1 ++ l2) ((p1 ++ a :: (p2 ++ [b])).zip (l1 ++ x :: (l2 ++ [y])))
  have z : dets n (l1 ++ l2 ++ [cmb ((p1 ++ a :: (p2 ++ [b])).zip (l1 ++ x :: (l2 ++ [y])))]) [] = 0 := by
    have hl : (l1 ++ l2).length < (l1 ++ l2 ++ [x]).length := by simp
    have := dets_zero n hl [] _ h
    rw [List.set_append_right _ _ (Nat.le_refl _), Nat.sub_self] at this
    exact this
  rw [z, e, dsum_app] at k1
  have k2 : dsum n (l1 ++ l2) ((a, x) :: (p2.zip l2 ++ [(b, y)])) = a * dets n (l1 ++ l2 ++ [x]) [] + (dsum n (l1 ++ l2) (p2.zip l2) + (b * dets n (l1 ++ l2 ++ [y]) [] + 0)) := by
    show a * dets n (l1 ++ l2 ++ [x]) [] + dsum n (l1 ++ l2) (p2.zip l2 ++ [(b, y)]) = _
    rw [dsum_app]; rfl
  rw [k2, dsum_in n (l1 ++ l2) (p1.zip l1) (fun p hp => List.mem_append_left _ (zip_mem hp)), dsum_in n (l1 ++ l2) (p2.zip l2) (fun p hp => List.mem_append_right _ (zip_mem hp)), List.append_assoc, List.append_assoc, dets_move n x l2 l1] at k1
  generalize dets n (l1 ++ (l2 ++ [y])) [] = dy at k1 ⊢
  generalize dets n (l1 ++ x :: l2) [] = dx at k1 ⊢
  rw [Int.pow_succ, Int.pow_add]
  generalize (-1 : Int) ^ l1.length = s at k1 ⊢
  generalize (-1 : Int) ^ l2.length = t at k1 ⊢
  have : b * dy = -(a * (t * dx)) := by omega
  calc b * (s * dy) = s * (b * dy) := by rw [← Int.mul_assoc, Int.mul_comm b s, Int.mul_assoc]
    _ = s * -(a * (t * dx)) := by rw [this]
    _ = a * (s * t * -1 * dx) := by grind
/-- rows with a relation have no minor of their own size -/
theorem rel_dets (n : Nat) (V : List Vec) (m : Nat → Int) (j : Nat) (hj : j < V.length) (hm : m j ≠ 0) (h : ∀ k, k < n → (sm V.length fun q => m q * (V.getD q fun _ => 0) k) = 0) : dets n V [] = 0 := by
  have k1 := det_comb n hj [] m V.length (Nat.le_refl _)
  rw [if_pos hj] at k1
  have : dets n (V.set j fun k => sm V.length fun q => m q * (V.getD q fun _ => 0) k) [] = dets n (V.set j fun _ => 0) [] := by
    refine dets_congr n [] (by rw [List.length_set, List.length_set]) fun i h1 h2 k hk => ?_
    by_cases e : j = i
    · subst e; rw [List.getElem_set_self, List.getElem_set_self]; exact h k hk
    · rw [List.getElem_set_ne e, List.getElem_set_ne e]
  rw [this, dets_zero n hj [] _ fun _ => rfl] at k1
  exact (Int.mul_eq_zero.mp k1.symm).resolve_left hm
end PL
namespace PL.T
open PL
theorem gcds_mul (b : Int) : ∀ (l : List Int) (g : Int), 0 ≤ g → gcds (l.map fun x => b * x) (b.natAbs * g) = b.natAbs * gcds l g
  | [], g, _ => rfl
  | x :: xs, g, hg => by
    show gcds (xs.map fun x => b * x) ((Nat.gcd ((b.natAbs : Int) * g).natAbs (b * x).natAbs : Nat) : Int) = b.natAbs * gcds xs (Nat.gcd g.natAbs x.natAbs : Nat)
    rw [← gcds_mul b xs _ (by omega), Int.natAbs_mul, Int.natAbs_mul, Int.natAbs_natCast, Nat.gcd_mul_left]
    push_cast
    rfl
theorem gcds_mul0 (b : Int) (l : List Int) : gcds (l.map fun x => b * x) 0 = b.natAbs * gcds l 0 := by
  have := gcds_mul b l 0 (Int.le_refl 0)
  rw [Int.mul_zero] at this
  exact this
/-- in lowest terms, the last number above 0 -/
structure LowL (F R : List Int) (q : Int) : Prop where
  q0 : q ≠ 0
  len : R.length = F.length
  eq : ∀ k, F.getD k 0 = q * R.getD k 0
  g : gcds R 0 = 1
theorem low_spec' (F : List Int) (h0 : ∃ x ∈ F, x ≠ 0) : ∃ g : Int, 1 ≤ g ∧ (∀ k, F.getD k 0 = g * (low F).getD k 0) ∧ ∀ p : Int, (∀ x ∈ F, p ∣ x) → p ∣ g := by
  obtain ⟨k1, _, k3, k4⟩ := gcds_spec F 0 (Int.le_refl 0)
  obtain ⟨x, hm, hx⟩ := h0
  have hg : 1 ≤ gcds F 0 := by
    have : gcds F 0 ≠ 0 := fun z => by
      have := k3 _ hm
      rw [z] at this
      exact hx (Int.zero_dvd.mp this)
    omega
  refine ⟨gcds F 0, hg, fun k => ?_, fun p hp => k4 p (Int.dvd_zero p) hp⟩
  unfold low
  by_cases h2 : gcds F 0 < 2
  · rw [if_pos h2]
    have : gcds F 0 = 1 := by omega
    rw [this, Int.one_mul]
  · rw [if_neg h2, getD_map (f := fun x => x.fdiv (gcds F 0)) (by simp)]
    by_cases hk : k < F.length
    · rw [getD_at hk]
      obtain ⟨y, hy⟩ := k3 _ (List.getElem_mem hk)
      show _ = gcds F 0 * (F[k]).fdiv (gcds F 0)
      rw [fdiv_of (by omega) hy.symm]
      exact hy
    · rw [getD_out (by omega)]; simp
def sgL (l : List Int) : List Int := if l.getD (l.length - 1) 0 < 0 then l.map fun x => -x else l
theorem sgL_len (l : List Int) : (sgL l).length = l.length := by unfold sgL; split <;> simp
theorem lowL_ok (F : List Int) (h0 : ∃ x ∈ F, x ≠ 0) : ∃ q, LowL F (sgL (low F)) q ∧ 0 ≤ (sgL (low F)).getD (F.length - 1) 0 := by
  obtain ⟨g, h1, h2, h3⟩ := low_spec' F h0
  have key : ∃ q : Int, (q = g ∨ q = -g) ∧ (∀ k, F.getD k 0 = q * (sgL (low F)).getD k 0) ∧ 0 ≤ (sgL (low F)).getD (F.length - 1) 0 := by
    unfold sgL
    rw [low_len]
    by_cases hs : (low F).getD (F.length - 1) 0 < 0
    · rw [if_pos hs]
      refine ⟨-g, .inr rfl, fun k => ?_, ?_⟩
      · rw [getD_map (f := fun x => -x) (by simp), h2 k]
        show _ = -g * -(low F).getD k 0
        rw [Int.neg_mul_neg]
      · rw [getD_map (f := fun x => -x) (by simp)]
        show 0 ≤ -(low F).getD (F.length - 1) 0
        omega
    · rw [if_neg hs]
      exact ⟨g, .inl rfl, h2, by omega⟩
  obtain ⟨q, hq, k1, k2⟩ := key
  have q0 : q ≠ 0 := by rcases hq with h | h <;> omega
  refine ⟨q, ⟨q0, by rw [sgL_len, low_len], k1, ?_⟩, k2⟩
  obtain ⟨c1, _, c3, _⟩ := gcds_spec (sgL (low F)) 0 (Int.le_refl 0)
  have hlen : (sgL (low F)).length = F.length := by rw [sgL_len, low_len]
  generalize gcds (sgL (low F)) 0 = G at c1 c3
  have d1 : q * G ∣ g := h3 _ fun x hx => by
    obtain ⟨k, hk, e⟩ := List.getElem_of_mem hx
    have := k1 k
    rw [getD_at hk, e] at this
    rw [this]
    refine Int.mul_dvd_mul_left q ?_
    rw [getD_at (by omega)]
    exact c3 _ (List.getElem_mem _)
  have d2 : g * G ∣ g * 1 := by
    rw [Int.mul_one]
    rcases hq with h | h
    · rw [← h] at d1 ⊢; exact d1
    · have : g = -q := by omega
      rw [this] at d1 ⊢
      rw [Int.neg_mul]
      exact Int.neg_dvd.mpr d1
  have d3 : G ∣ 1 := Int.dvd_of_mul_dvd_mul_left (by omega) d2
  have := Int.le_of_dvd (by decide) d3
  have : G ≠ 0 := fun z => by rw [z] at d3; exact absurd (Int.zero_dvd.mp d3) (by decide)
  omega
/-- weights in the same proportion are a multiple of those in lowest terms -/
theorem prop_mul {F R : List Int} {q : Int} (L : LowL F R q) (m : Nat → Int) (j : Nat) (hj : F.getD j 0 ≠ 0) (h : ∀ i, i < R.length → F.getD j 0 * m i = F.getD i 0 * m j) : ∃ t, ∀ i, i < R.length → m i = t * R.getD i 0 := by
  have hR : ∀ i, i < R.length → R.getD j 0 * m i = R.getD i 0 * m j := fun i hi => by
    have := h i hi
    rw [L.eq, L.eq, Int.mul_assoc, Int.mul_assoc] at this
    exact Int.eq_of_mul_eq_mul_left L.q0 this
  have rj : R.getD j 0 ≠ 0 := fun z => hj (by rw [L.eq, z, Int.mul_zero])
  have dv : R.getD j 0 ∣ m j := by
    have e := gcds_mul0 (m j) R
    rw [L.g, Int.mul_one] at e
    obtain ⟨_, _, _, k4⟩ := gcds_spec (R.map fun x => m j * x) 0 (Int.le_refl 0)
    have := k4 (R.getD j 0) (Int.dvd_zero _) fun x hx => by
      obtain ⟨y, hy, rfl⟩ := List.mem_map.mp hx
      obtain ⟨i, hi, rfl⟩ := List.getElem_of_mem hy
      have := hR i hi
      rw [getD_at hi, Int.mul_comm R[i]] at this
      exact ⟨m i, this.symm⟩
    rw [e] at this
    exact Int.dvd_natAbs.mp this
  obtain ⟨t, ht⟩ := dv
  refine ⟨t, fun i hi => ?_⟩
  have := hR i hi
  rw [ht, ← Int.mul_assoc, Int.mul_comm (R.getD i 0), Int.mul_assoc] at this
  rw [Int.eq_of_mul_eq_mul_left rj this, Int.mul_comm]
end PL.T

namespace PL.T
open PL
/-- a list as a row -/
def vv (l : List Int) : Vec := fun k => l.getD k 0
def redstep (r : List Int) (p : Nat × List Int) : List Int := if r.getD p.1 0 = 0 then r else List.zipWith (fun x y => p.2.getD p.1 0 * x - r.getD p.1 0 * y) r p.2
def red (v : List Int) (kp : List (Nat × List Int)) : List Int := kp.foldl redstep v
theorem red_take (v : List Int) (kp : List (Nat × List Int)) {j : Nat} (h : j < kp.length) : red v (kp.take (j + 1)) = redstep (red v (kp.take j)) kp[j] := by
  unfold red
  rw [List.take_succ_eq_append_getElem h, List.foldl_append]; rfl
theorem redstep_len {W : Nat} {r : List Int} {p : Nat × List Int} (h1 : r.length = W) (h2 : p.2.length = W) : (redstep r p).length = W := by
  unfold redstep
  split
  · exact h1
  · rw [List.length_zipWith, h1, h2, Nat.min_self]
theorem redstep_at {W : Nat} {r : List Int} {p : Nat × List Int} (h1 : r.length = W) (h2 : p.2.length = W) (h : r.getD p.1 0 ≠ 0) (k : Nat) : (redstep r p).getD k 0 = p.2.getD p.1 0 * r.getD k 0 - r.getD p.1 0 * p.2.getD k 0 := by
  have hl := redstep_len h1 h2
  by_cases hk : k < W
  · rw [getD_at (by omega)]
    unfold redstep
    simp only [if_neg h]
    rw [List.getElem_zipWith, getD_at (l := r) (by omega : k < r.length), getD_at (l := p.2) (by omega : k < p.2.length)]
  · rw [getD_out (l := redstep r p) (by omega), getD_out (l := r) (by omega : r.length ≤ k), getD_out (l := p.2) (by omega : p.2.length ≤ k)]; simp
def be (j : Nat) : Nat := 44 * 2 ^ j - 1
theorem be_succ (j : Nat) : be (j + 1) = be j + be j + 1 := by
  unfold be
  have : 0 < 2 ^ j := Nat.pow_pos (by decide)
  rw [Nat.pow_succ]; omega
theorem be_le {j : Nat} (h : j ≤ 5) : be j ≤ 1500 := by
  unfold be
  have : 2 ^ j ≤ 2 ^ 5 := Nat.pow_le_pow_right (by decide) h
  omega
theorem redstep_bd {W j : Nat} {r : List Int} {p : Nat × List Int} (h1 : r.length = W) (h2 : p.2.length = W) (b1 : ∀ x ∈ r, Bd (be j) x) (b2 : ∀ x ∈ p.2, Bd (be j) x) : ∀ x ∈ redstep r p, Bd (be (j + 1)) x := fun x hx => by
  by_cases h : r.getD p.1 0 = 0
  · unfold redstep at hx
    rw [if_pos h] at hx
    exact (b1 x hx).mono (by rw [be_succ]; omega)
  · obtain ⟨k, hk, e⟩ := List.getElem_of_mem hx
    rw [← e, ← getD_at hk, redstep_at h1 h2 h, be_succ]
    exact ((bd_at b2 _).mul (bd_at b1 _)).sub ((bd_at b1 _).mul (bd_at b2 _))
/-- what is kept: leading columns (below w) and bases of W numbers, made of the rows vs -/
structure KS (w W : Nat) (vs : List (List Int)) (kp : List (Nat × List Int)) : Prop where
  ch : Chain (vs.map vv) (kp.map fun p => vv p.2)
  ech : Ech w (kp.map Prod.fst) (kp.map fun p => vv p.2)
  len : ∀ p ∈ kp, p.2.length = W
  bd : ∀ i (h : i < kp.length), ∀ x ∈ kp[i].2, Bd (be i) x
theorem KS.n {w W : Nat} {vs : List (List Int)} {kp : List (Nat × List Int)} (K : KS w W vs kp) : vs.length = kp.length := by
  have := K.ch.len
  rwa [List.length_map, List.length_map] at this
theorem kp_getD {kp : List (Nat × List Int)} {q : Nat} (h : q < kp.length) : ((kp.map fun p => vv p.2).getD q fun _ => 0) = vv kp[q].2 := by
  rw [List.getD_eq_getElem?_getD, List.getElem?_map, List.getElem?_eq_getElem h]; rfl
/-- the row with the kept columns cleared -/
structure Rest (kp : List (Nat × List Int)) (v r : List Int) (j : Nat) (a : Int) (c : Nat → Int) : Prop where
  a0 : a ≠ 0
  eq : ∀ k, vv r k = a * vv v k + sm j fun q => c q * ((kp.map fun p => vv p.2).getD q fun _ => 0) k
  z : ∀ i (h : i < kp.length), i < j → r.getD kp[i].1 0 = 0
theorem red_spec {w W : Nat} {vs : List (List Int)} {kp : List (Nat × List Int)} (K : KS w W vs kp) (v : List Int) (hv : v.length = W) (hb : ∀ x ∈ v, Bd 43 x) :
    ∀ j, j ≤ kp.length → (red v (kp.take j)).length = W ∧ (∀ x ∈ red v (kp.take j), Bd (be j) x) ∧ ∃ a c, Rest kp v (red v (kp.take j)) j a c
  | 0, _ => by
    refine ⟨hv, hb, 1, fun _ => 0, by decide, fun k => ?_, fun i _ h => absurd h (Nat.not_lt_zero i)⟩
    rw [sm_zero, Int.one_mul, Int.add_zero]; rfl
  | j + 1, h => by
    obtain ⟨hl, hbd, a, c, R⟩ := red_spec K v hv hb j (by omega)
    have hj : j < kp.length := h
    rw [red_take v kp hj]
    generalize red v (kp.take j) = r at hl hbd R
    have hp := K.len _ (List.getElem_mem hj)
    refine ⟨redstep_len hl hp, redstep_bd hl hp hbd (K.bd j hj), ?_⟩
    by_cases h0 : r.getD kp[j].1 0 = 0
    · have e : redstep r kp[j] = r := if_pos h0
      rw [e]
      refine ⟨a, fun q => if q = j then 0 else c q, R.a0, fun k => ?_, fun i hi hij => ?_⟩
      · rw [R.eq k, sm_succ, if_pos rfl, Int.zero_mul, Int.add_zero]
        congr 1
        refine sm_congr fun q hq => ?_
        rw [if_neg (by omega)]
      · by_cases e : i = j
        · subst e; exact h0
        · exact R.z i hi (by omega)
    · have nzb : kp[j].2.getD kp[j].1 0 ≠ 0 := by
        have := K.ech.nz j (by rw [List.length_map]; exact hj) (by rw [List.length_map]; exact hj)
        rw [List.getElem_map, List.getElem_map] at this
        exact this
      refine ⟨kp[j].2.getD kp[j].1 0 * a, fun q => if q = j then -(r.getD kp[j].1 0) else kp[j].2.getD kp[j].1 0 * c q, Int.mul_ne_zero nzb R.a0, fun k => ?_, fun i hi hij => ?_⟩
      · show (redstep r kp[j]).getD k 0 = _
        rw [redstep_at hl hp h0]
        have := R.eq k
        have e1 : r.getD k 0 = vv r k := rfl
        have e2 : kp[j].2.getD k 0 = vv kp[j].2 k := rfl
        rw [e1, e2, this, sm_succ, if_pos rfl, kp_getD hj]
        have e3 : (sm j fun q => (if q = j then -(r.getD kp[j].1 0) else kp[j].2.getD kp[j].1 0 * c q) * ((kp.map fun p => vv p.2).getD q fun _ => 0) k) = kp[j].2.getD kp[j].1 0 * sm j fun q => c q * ((kp.map fun p => vv p.2).getD q fun _ => 0) k := by
          rw [← sm_mul]
          refine sm_congr fun q hq => ?_
          rw [if_neg (by omega), Int.mul_assoc]
        rw [e3, Int.mul_add, Int.mul_assoc, Int.neg_mul]
        omega
      · rw [redstep_at hl hp h0]
        by_cases e : i = j
        · subst e; rw [Int.mul_comm]; omega
        · have z1 := R.z i hi (by omega)
          have z2 := K.ech.z j i (by rw [List.length_map]; exact hj) (by rw [List.length_map]; exact hi) (by omega)
          rw [List.getElem_map, List.getElem_map] at z2
          have z2 : kp[j].2.getD kp[i].1 0 = 0 := z2
          rw [z1, z2]; simp
/-- the row and its column are kept -/
theorem KS.snoc {w W : Nat} {vs : List (List Int)} {kp : List (Nat × List Int)} (K : KS w W vs kp) {v r b : List Int} {a g : Int} {c : Nat → Int} {col : Nat} (R : Rest kp v r kp.length a c) (hr : r.length = W) (hb : ∀ x ∈ r, Bd (be kp.length) x) (hc : col < w) (hn : r.getD col 0 ≠ 0)
    (hg : g ≠ 0) (hbl : b.length = W) (e : ∀ k, r.getD k 0 = g * b.getD k 0) : KS w W (vs ++ [v]) (kp ++ [(col, b)]) := by
  constructor
  · rw [List.map_append, List.map_append]
    refine Chain.snoc g a c K.ch hg R.a0 fun k => ?_
    rw [List.length_map, ← R.eq k]
    exact (e k).symm
  · have l1 : (kp.map Prod.fst).length = kp.length := List.length_map _
    have l2 : (kp.map fun p => vv p.2).length = kp.length := List.length_map _
    have zb : ∀ i (h : i < kp.length), b.getD kp[i].1 0 = 0 := fun i h => by
      have := e kp[i].1
      rw [R.z i h h] at this
      exact (Int.mul_eq_zero.mp this.symm).resolve_left hg
    have nb : b.getD col 0 ≠ 0 := fun z => hn (by rw [e, z, Int.mul_zero])
    rw [List.map_append, List.map_append]
    refine ⟨by simp, fun x hx => ?_, fun i h h' => ?_, fun i j h h' hij => ?_⟩
    · rcases List.mem_append.mp hx with hx | hx
      · exact K.ech.lt x hx
      · rw [List.mem_singleton.mp hx]; exact hc
    · by_cases hi : i < kp.length
      · rw [List.getElem_append_left (by omega), List.getElem_append_left (by omega)]
        exact K.ech.nz i (by omega) (by omega)
      · have hi : i = kp.length := by rw [List.length_append, l2] at h; simp at h; omega
        subst hi
        rw [List.getElem_append_right (by omega), List.getElem_append_right (by omega)]
        simpa [l1, l2, vv] using nb
    · have hj : j < kp.length := by rw [List.length_append, l2] at h; simp at h; omega
      rw [List.getElem_append_left (i := j) (by omega)]
      by_cases hi : i < kp.length
      · rw [List.getElem_append_left (i := i) (by omega)]
        exact K.ech.z i j (by omega) (by omega) hij
      · have hi : i = kp.length := by rw [List.length_append, l2] at h; simp at h; omega
        subst hi
        rw [List.getElem_append_right (by omega)]
        have := zb j hj
        simpa [l2, vv] using this
  · intro p hp
    rcases List.mem_append.mp hp with hp | hp
    · exact K.len p hp
    · rw [List.mem_singleton.mp hp]; exact hbl
  · intro i h x hx
    by_cases hi : i < kp.length
    · rw [List.getElem_append_left hi] at hx
      exact K.bd i hi x hx
    · have hi : i = kp.length := by simp at h; omega
      subst hi
      rw [List.getElem_append_right (by omega)] at hx
      have hx : x ∈ b := by simpa using hx
      obtain ⟨k, hk, ek⟩ := List.getElem_of_mem hx
      have := e k
      rw [getD_at hk, ek] at this
      exact (bd_at hb k).div hg this.symm
theorem KS.nil (w W : Nat) : KS w W [] [] := ⟨.nil, ⟨rfl, (fun _ h => nomatch h), (fun i h => absurd h (Nat.not_lt_zero i)), (fun i _ h => absurd h (Nat.not_lt_zero i))⟩, (fun _ h => nomatch h), (fun i h => absurd h (Nat.not_lt_zero i))⟩
end PL.T

namespace PL.T
open PL
variable {fe : FE}
theorem nez {x : Int} (h : x ≠ 0) : (!(x == 0)) = true := by simp [h]
theorem clr1_ok (line pivot : List Int) (st W b : Nat) (h1 : line.length = W) (h2 : pivot.length = W) (hs : st < W) (hz : W ≤ 1000) (hb : b ≤ 2000) (b1 : ∀ x ∈ line, Bd b x) (b2 : ∀ x ∈ pivot, Bd b x) :
    fin (exes fe b__cleared (stS ⟨4, 8, b__cleared⟩ [.bw (il line), .ow (.fz (tpl pivot)), oi st, oi 1])) = .ok (il (List.zipWith (fun one other => pivot.getD st 0 * one - line.getD st 0 * other) line pivot)) := by
  have hl1 : st < line.length := by omega
  have hl2 : st < pivot.length := by omega
  have a1 := atP_iv (l := line) (i := (st : Int)) rfl hl1
  have a2 := atP_pl (l := pivot) (i := (st : Int)) rfl hl2
  have e1 : line.getD st 0 = line[st] := getD_at hl1
  have e2 : pivot.getD st 0 = pivot[st] := getD_at hl2
  have hp : divOk 1 = true := by decide +kernel
  have hc := ev_comp (fe := fe) (tg := .tp [6, 7]) (it := .zip (.v 0) (.v 1)) (el := .bin .fdiv (.bin .sub (.bin .mul (.v 4) (.v 6)) (.bin .mul (.v 5) (.v 7))) (.v 3)) (ws := [6, 7])
    (S := [.bw (il line), .ow (.fz (tpl pivot)), oi st, oi 1, oi pivot[st], oi line[st], .no, .no]) (its := zipI line pivot) (g := g2 fun one other => pivot[st] * one - line[st] * other)
    (by simp [evI, ev, rd, srOf, srcAt, srcV, srcP, zipI, fzI, lend]) (by unfold zipI; rw [List.length_zipWith, List.length_map]; unfold szLine; omega) (fun x hx => by
      obtain ⟨p, q, k1, k2, rfl⟩ := zipI_mem hx
      have m1 : mulOk pivot[st] p = true := (b2 _ (List.getElem_mem hl2)).mulOk (b1 p k1) (by omega)
      have m2 : mulOk line[st] q = true := (b1 _ (List.getElem_mem hl1)).mulOk (b2 q k2) (by omega)
      refine ⟨[.bw (il line), .ow (.fz (tpl pivot)), oi st, oi 1, oi pivot[st], oi line[st], oi p, oi q], [.bw (il line), .ow (.fz (tpl pivot)), oi st, oi 1, oi pivot[st], oi line[st], oi p, oi q], rfl, ?_, ?_⟩
      · simp [ev, elemOf, valOf, isPath, isKeep, binop, mulV, subV, fdivV, rd, m1, m2, hp, SV.pv, g2]
      · refine ⟨rfl, fun j hj => ?_⟩
        simp only [List.mem_cons, List.not_mem_nil, or_false, not_or] at hj
        rcases j with _ | _ | _ | _ | _ | _ | _ | _ | j <;> first | rfl | omega)
  rw [zipI_map] at hc
  have st0 : stS ⟨4, 8, b__cleared⟩ [.bw (il line), .ow (.fz (tpl pivot)), oi st, oi 1] = [.bw (il line), .ow (.fz (tpl pivot)), oi st, oi 1, .no, .no, .no, .no] := rfl
  rw [st0, e1, e2]
  have g1 : exe fe (.asg 4 (.idx (.v 1) (.v 2))) [.bw (il line), .ow (.fz (tpl pivot)), oi st, oi 1, .no, .no, .no, .no] = .nx [.bw (il line), .ow (.fz (tpl pivot)), oi st, oi 1, oi pivot[st], .no, .no, .no] := by
    simp [exe, ev, rd, valOf, isPath, getIt, getN, a2]
  have g2 : exe fe (.asg 5 (.idx (.v 0) (.v 2))) [.bw (il line), .ow (.fz (tpl pivot)), oi st, oi 1, oi pivot[st], .no, .no, .no] = .nx [.bw (il line), .ow (.fz (tpl pivot)), oi st, oi 1, oi pivot[st], oi line[st], .no, .no] := by
    simp [exe, ev, rd, valOf, isPath, getIt, getN, a1]
  have g3 : exe fe (.ret (.comp (.tp [6, 7]) (.zip (.v 0) (.v 1)) .nil (.bin .fdiv (.bin .sub (.bin .mul (.v 4) (.v 6)) (.bin .mul (.v 5) (.v 7))) (.v 3)) [6, 7])) [.bw (il line), .ow (.fz (tpl pivot)), oi st, oi 1, oi pivot[st], oi line[st], .no, .no] = .rt (il (List.zipWith (fun one other => pivot[st] * one - line[st] * other) line pivot)) := by
    simp only [exe, hc, valOf, isPath, Res.bind_ok, Res.out_ok]
  simp only [b__cleared, exes, g1, g2, g3, seqOut_nx, seqOut_rt, fin]
def kv (p : Nat × List Int) : PV := .tup [.int (p.1 : Int), tpl p.2]
def kl (kp : List (Nat × List Int)) : SV := .lst (kp.map fun p => .fz (kv p))
def redB : Ss := (.cons (.iff (.cmp .ne (.idx (.v 2) (.v 3)) (.c (.int 0))) (.cons (.asg 2 (.call 1 (.cons (.v 2) (.cons (.v 4) (.cons (.v 3) (.cons (.c (.int 1)) .nil)))))) .nil) .nil) .nil)
theorem fe_clr (k : Nat) (a b c d : Sl) : FEn tbl (k + 1) 1 [a, b, c, d] = fin (exes (FEn tbl k) b__cleared (stS ⟨4, 8, b__cleared⟩ [a, b, c, d])) := rfl
theorem fe_red (k : Nat) (a b : Sl) : FEn tbl (k + 1) 2 [a, b] = fin (exes (FEn tbl k) b__reduced [a, b, .no, .no, .no]) := rfl
theorem redB_ok (k : Nat) (a0 a1 : Sl) (r : List Int) (p : Nat × List Int) (W b : Nat) (h1 : r.length = W) (h2 : p.2.length = W) (hs : p.1 < W) (hz : W ≤ 1000) (hb : b ≤ 2000) (b1 : ∀ x ∈ r, Bd b x) (b2 : ∀ x ∈ p.2, Bd b x) :
    exes (FEn tbl (k + 1)) redB [a0, a1, .ow (il r), oi p.1, .ow (.fz (tpl p.2))] = .nx [a0, a1, .ow (il (redstep r p)), oi p.1, .ow (.fz (tpl p.2))] := by
  have g := atP_iv (l := r) (i := (p.1 : Int)) rfl (by omega)
  have eg : r.getD p.1 0 = r[p.1]'(by omega) := getD_at (by omega)
  have tst : tstOf (ev (FEn tbl (k + 1)) (.cmp .ne (.idx (.v 2) (.v 3)) (.c (.int 0))) [a0, a1, .ow (il r), oi p.1, .ow (.fz (tpl p.2))]) = .ok (!(r.getD p.1 0 == 0), [a0, a1, .ow (il r), oi p.1, .ow (.fz (tpl p.2))]) := by
    rw [eg]
    simp only [ev, tstOf, rd, List.getElem?_cons_succ, List.getElem?_cons_zero, Res.bind_ok, getIt, getN, g, SV.pv, cmp_ne_int, Res.noex_ok]
  by_cases h0 : r.getD p.1 0 = 0
  · have e0 : (!(r.getD p.1 0 == 0)) = false := by rw [h0]; rfl
    rw [e0] at tst
    have e : redstep r p = r := if_pos h0
    rw [e]
    exact exes_one ((exe_iff_f tst).trans rfl)
  · have e0 : (!(r.getD p.1 0 == 0)) = true := nez h0
    rw [e0] at tst
    have e : redstep r p = List.zipWith (fun x y => p.2.getD p.1 0 * x - r.getD p.1 0 * y) r p.2 := if_neg h0
    have q := (fe_clr k _ _ _ _).trans (clr1_ok (fe := FEn tbl k) r p.2 p.1 W b h1 h2 hs hz hb b1 b2)
    rw [← e] at q
    have a : evA (FEn tbl (k + 1)) (.cons (.v 2) (.cons (.v 4) (.cons (.v 3) (.cons (.c (.int 1)) .nil)))) [a0, a1, .ow (il r), oi p.1, .ow (.fz (tpl p.2))] = .ok ([.bw (il r), .ow (.fz (tpl p.2)), oi p.1, oi 1], [a0, a1, .ow (il r), oi p.1, .ow (.fz (tpl p.2))]) := by
      simp [evA, ev, argOf, lend, rd, isPath]
    have c := ev_call a q
    refine exes_one ((exe_iff_t tst).trans (exes_one ?_))
    refine exe_asg (S' := [a0, a1, .ow (il r), oi p.1, .ow (.fz (tpl p.2))]) (v := il (redstep r p)) ?_
    rw [c]; rfl
theorem reduced_ok (k : Nat) (a0 : Sl) (x : SV) (v : List Int) (h0 : ∀ t, rd (a0 :: t) 0 = some x) (hx : listV x = .ok (il v)) {w W : Nat} {vs : List (List Int)} {kp : List (Nat × List Int)} (K : KS w W vs kp) (hw : w ≤ W) (hz : W ≤ 1000) (hk : kp.length ≤ 5) (hv : v.length = W) (hb : ∀ x ∈ v, Bd 43 x) :
    FEn tbl (k + 2) 2 [a0, .bw (kl kp)] = .ok (il (red v kp)) := by
  rw [fe_red]
  have q1 : exe (FEn tbl (k + 1)) (.asg 2 (.bi .list (.cons (.v 0) .nil))) [a0, .bw (kl kp), .no, .no, .no] = .nx [a0, .bw (kl kp), .ow (il v), .no, .no] := by
    refine exe_asg (S' := [a0, .bw (kl kp), .no, .no, .no]) (v := il v) ?_
    simp only [ev, evBs, h0, Res.bind_ok, biop, hx, Res.noex_ok, valOf, isPath]
  have hI : evI (FEn tbl (k + 1)) (.ex (.v 1)) [a0, .bw (kl kp), .ow (il v), .no, .no] = .ok ((kp.map fun p => Itm.one (.ow (.fz (kv p))), []), [a0, .bw (kl kp), .ow (il v), .no, .no]) := by
    simp [evI, ev, rd, srOf, srcAt, srcV, lend, kl]
  obtain ⟨S', h1, y3, y4, h2⟩ := loopF_rel (tg := .tp [3, 4]) (body := exes (FEn tbl (k + 1)) redB) (its := kp.map fun p => Itm.one (.ow (.fz (kv p)))) (S := [a0, .bw (kl kp), .ow (il v), .no, .no])
    (fun i S => ∃ y3 y4, S = [a0, .bw (kl kp), .ow (il (red v (kp.take i))), y3, y4]) ⟨.no, .no, by rw [List.take_zero]; rfl⟩ (fun i S x hx ⟨y3, y4, e1⟩ => by
      subst e1
      have hi := (List.getElem?_eq_some_iff.mp hx).1
      have hx2 := (List.getElem?_eq_some_iff.mp hx).2
      rw [List.length_map] at hi
      rw [List.getElem_map] at hx2
      obtain ⟨rl, rb, _⟩ := red_spec K v hv hb i (by omega)
      have hc : kp[i].1 < w := K.ech.lt _ (List.mem_map.mpr ⟨_, List.getElem_mem hi, rfl⟩)
      have hbe : be i ≤ 1500 := be_le (by omega)
      have q := redB_ok k a0 (.bw (kl kp)) (red v (kp.take i)) kp[i] W (be i) rl (K.len _ (List.getElem_mem hi)) (by omega) hz (by omega) rb (K.bd i hi)
      rw [← red_take v kp hi] at q
      exact ⟨[a0, .bw (kl kp), .ow (il (red v (kp.take i))), oi kp[i].1, .ow (.fz (tpl kp[i].2))], by rw [← hx2]; rfl, _, .inl q, _, _, rfl⟩)
  rw [List.length_map, List.take_length] at h2
  subst h2
  have q2 := exe_forr hI h1
  have q3 : exe (FEn tbl (k + 1)) (.retM 2) [a0, .bw (kl kp), .ow (il (red v kp)), y3, y4] = .rt (il (red v kp)) := by simp [exe]
  exact congrArg fin ((exes_cons q1).trans ((exes_cons q2).trans (exes_rt q3)))
def colB : Ss := (.cons (.iff (.cmp .ne (.idx (.v 0) (.v 2)) (.c (.int 0))) (.cons (.retM 2) .nil) .nil) .nil)
theorem col_ok (r : List Int) (w : Nat) (hw : w ≤ r.length) (hz : w ≤ 1000) : ∃ v, fin (exes fe b__first_column (stS ⟨2, 3, b__first_column⟩ [.bw (il r), oi w])) = .ok (.fz v) ∧ ((v = .non ∧ ∀ c, c < w → r.getD c 0 = 0) ∨ ∃ c : Nat, v = .int c ∧ c < w ∧ r.getD c 0 ≠ 0) := by
  have st0 : stS ⟨2, 3, b__first_column⟩ [.bw (il r), oi w] = [.bw (il r), oi w, .no] := rfl
  rw [st0]
  have hI : evI fe (.r1 (.v 1)) [.bw (il r), oi w, .no] = .ok ((rangeL 0 w, []), [.bw (il r), oi w, .no]) := by
    have k1 : r62 (w : Int) = true := r62_of2 (by omega)
    simp [evI, ev, rd, asInt, SV.pv, k1]
  have key := loopF_ret (tg := .nm 2) (body := exes fe colB) (its := rangeL 0 w) (S := [.bw (il r), oi w, .no])
    (fun i S => (∃ y, S = [.bw (il r), oi w, y]) ∧ ∀ c, c < i → r.getD c 0 = 0) (fun i v => ∃ c : Nat, v = .fz (.int c) ∧ c < w ∧ r.getD c 0 ≠ 0) ⟨⟨.no, rfl⟩, fun _ h => absurd h (Nat.not_lt_zero _)⟩ (fun i S it hx ⟨⟨y, e1⟩, hz0⟩ => by
      subst e1
      obtain ⟨e3, e4⟩ := rangeL_get hx
      subst e3
      rw [Int.zero_add]
      have hi : i < r.length := by omega
      refine ⟨[.bw (il r), oi w, oi i], rfl, ?_⟩
      have g := atP_iv (l := r) (i := (i : Int)) rfl hi
      have eg : r.getD i 0 = r[i] := getD_at hi
      have tst : tstOf (ev fe (.cmp .ne (.idx (.v 0) (.v 2)) (.c (.int 0))) [.bw (il r), oi w, oi i]) = .ok (!(r.getD i 0 == 0), [.bw (il r), oi w, oi i]) := by
        rw [eg]
        simp only [ev, tstOf, rd, List.getElem?_cons_succ, List.getElem?_cons_zero, Res.bind_ok, getIt, getN, g, SV.pv, cmp_ne_int, Res.noex_ok]
      by_cases h0 : r.getD i 0 = 0
      · have e0 : (!(r.getD i 0 == 0)) = false := by rw [h0]; rfl
        rw [e0] at tst
        refine .inl ⟨_, .inl (exes_one ((exe_iff_f tst).trans rfl)), ⟨_, rfl⟩, fun c hc => ?_⟩
        by_cases e : c = i
        · rw [e]; exact h0
        · exact hz0 c (by omega)
      · have e0 : (!(r.getD i 0 == 0)) = true := nez h0
        rw [e0] at tst
        exact .inr ⟨_, exes_rt ((exe_iff_t tst).trans (exes_rt rfl)), i, rfl, by omega, h0⟩)
  rcases key with ⟨S', h1, ⟨y, h2⟩, h3⟩ | ⟨i, v, h1, h2, c, h3, h4, h5⟩
  · rw [rangeL_len] at h3
    have en : ((w : Int) - 0).toNat = w := by omega
    rw [en] at h3
    subst h2
    exact ⟨.non, congrArg fin ((exes_cons (exe_forr hI h1)).trans (exes_rt rfl)), .inl ⟨rfl, h3⟩⟩
  · subst h3
    exact ⟨_, congrArg fin (exes_rt (exe_forr_rt hI h2)), .inr ⟨c, rfl, h4, h5⟩⟩
end PL.T

namespace PL.T
open PL
theorem exe_app1 {fe : FE} {j : Nat} {e : Ex} {S S' : PL.S} {l0 l : List SV} {x : SV} (h0 : S[j]? = some (.ow (.lst l0))) (he : elemOf e (ev fe e S) = .ok (x, S')) (hj : S'[j]? = some (.ow (.lst l))) (hl : l.length < szLine) : exe fe (.app (.v j) e) S = .nx (S'.set j (.ow (.lst (l ++ [x])))) := by
  have h1 : evP fe (.v j) S = .ok ((j, []), S) := by
    show (Res.ofOpt (getL S[j]? [])).bind _ = _
    rw [h0]; rfl
  have h2 : updS S' j [] (gApp x) = .ok (S'.set j (.ow (.lst (l ++ [x])))) := by
    unfold updS
    rw [hj]
    have : updAt (gApp x) [] (.lst l) = some (.lst (l ++ [x])) := by
      show gApp x (.lst l) = _
      unfold gApp
      simp only [hl, if_true]
    simp only [this]
  simp only [exe, h1, Res.out_ok, he, h2]
/-- the reduced row is kept -/
theorem keep_step {w W : Nat} {vs : List (List Int)} {kp : List (Nat × List Int)} (K : KS w W vs kp) (v : List Int) (hv : v.length = W) (hb : ∀ x ∈ v, Bd 43 x) {c : Nat} (hc : c < w) (h : (red v kp).getD c 0 ≠ 0) : KS w W (vs ++ [v]) (kp ++ [(c, low (red v kp))]) := by
  obtain ⟨rl, rb, a, cc, R⟩ := red_spec K v hv hb kp.length (Nat.le_refl _)
  rw [List.take_length] at rl rb R
  have hx : ∃ x ∈ red v kp, x ≠ 0 := by
    have hk : c < (red v kp).length := Classical.byContradiction fun z => h (getD_out (by omega))
    exact ⟨_, List.getElem_mem hk, by rw [← getD_at hk]; exact h⟩
  obtain ⟨g, g1, g2, _⟩ := low_spec' (red v kp) hx
  exact K.snoc R rl rb hc h (g := g) (by omega) (by rw [low_len]; exact rl) g2
theorem red_len {w W : Nat} {vs : List (List Int)} {kp : List (Nat × List Int)} (K : KS w W vs kp) (v : List Int) (hv : v.length = W) (hb : ∀ x ∈ v, Bd 43 x) : (red v kp).length = W ∧ (∀ x ∈ red v kp, Bd (be kp.length) x) ∧ ∃ a c, Rest kp v (red v kp) kp.length a c := by
  have := red_spec K v hv hb kp.length (Nat.le_refl _)
  rwa [List.take_length] at this
theorem fe_col (k : Nat) (a b : Sl) : FEn tbl (k + 1) 3 [a, b] = fin (exes (FEn tbl k) b__first_column (stS ⟨2, 3, b__first_column⟩ [a, b])) := rfl
theorem fe_low (k : Nat) (a : Sl) : FEn tbl (k + 1) 0 [a] = fin (exes (FEn tbl k) b_lowest (stS ⟨1, 3, b_lowest⟩ [a])) := rfl
theorem fe_fd (k : Nat) (a : Sl) : FEn tbl (k + 1) 4 [a] = fin (exes (FEn tbl k) b_first_dependent [a, .no, .no, .no, .no, .no]) := rfl
def enI (V : List (List Int)) : List Itm := (V.map fun r => Sl.ow (.fz (pl r))).zipIdx.map fun x => Itm.two (fzI (.int x.2)) x.1
theorem enI_len (V : List (List Int)) : (enI V).length = V.length := by unfold enI; rw [List.length_map, List.length_zipIdx, List.length_map]
theorem enI_get {V : List (List Int)} {i : Nat} {x : Itm} (h : (enI V)[i]? = some x) : ∃ hi : i < V.length, x = .two (oi i) (.ow (.fz (pl V[i]))) := by
  obtain ⟨h1, h2⟩ := List.getElem?_eq_some_iff.mp h
  have hi : i < V.length := by rw [enI_len] at h1; exact h1
  refine ⟨hi, ?_⟩
  rw [← h2]
  unfold enI
  simp [fzI]
theorem en_it {fe : FE} (S : PL.S) (V : List (List Int)) (i : Nat) (h : S[i]? = some (.bw (mt V))) : evI fe (.enum (.v i)) S = .ok ((enI V, []), S) := by
  have r : rd S i = some (mt V) := by unfold rd; rw [h]
  simp only [evI, ev, r, Res.bind_ok, srOf, srcAt, srcV, h, List.map_map]
  rfl
def fdB : Ss := (.cons (.asg 4 (.call 2 (.cons (.v 3) (.cons (.v 1) .nil)))) (.cons (.asg 5 (.call 3 (.cons (.v 4) (.cons (.bi .len (.cons (.v 4) .nil)) .nil)))) (.cons (.iff (.isn true (.v 5)) (.cons (.retM 2) .nil) .nil) (.cons (.app (.v 1) (.tup (.cons (.f 5) (.cons (.call 0 (.cons (.v 4) .nil)) .nil)))) .nil))))
abbrev Fds (V : List (List Int)) (kp : List (Nat × List Int)) (x2 x3 x4 x5 : Sl) : S := [.bw (mt V), .ow (kl kp), x2, x3, x4, x5]
/-- row a depends on the rows before it, these are kept -/
def Dep (w W : Nat) (V : List (List Int)) (a : Nat) (r : List Int) : Prop := ∃ (h : a < V.length) (kp : List (Nat × List Int)), KS w W (V.take a) kp ∧ r = red V[a] kp ∧ ∀ c, c < w → r.getD c 0 = 0
theorem fdB_ok (k : Nat) (V : List (List Int)) (W : Nat) (hz : W ≤ 1000) (hV : V.length ≤ 5) (hw : ∀ r ∈ V, r.length = W) (hb : ∀ r ∈ V, ∀ x ∈ r, Bd 43 x) (i : Nat) (hi : i < V.length) (kp : List (Nat × List Int)) (K : KS W W (V.take i) kp) (x4 x5 : Sl) :
    (exes (FEn tbl (k + 3)) fdB (Fds V kp (oi i) (.ow (.fz (pl V[i]))) x4 x5) = .rt (iv i) ∧ Dep W W V i (red V[i] kp)) ∨ ∃ kp' y4 y5, exes (FEn tbl (k + 3)) fdB (Fds V kp (oi i) (.ow (.fz (pl V[i]))) x4 x5) = .nx (Fds V kp' (oi i) (.ow (.fz (pl V[i]))) y4 y5) ∧ KS W W (V.take (i + 1)) kp' := by
  have hk : kp.length = i := by rw [← K.n, List.length_take]; omega
  have hvl := hw _ (List.getElem_mem hi)
  have hvb := hb _ (List.getElem_mem hi)
  obtain ⟨rl, rb, _⟩ := red_len K V[i] hvl hvb
  have q1 := reduced_ok (k + 1) (.ow (.fz (pl V[i]))) (.fz (pl V[i])) V[i] (fun t => rfl) (by show Res.ok (SV.lst ((V[i].map PV.int).map SV.fz)) = _; rw [List.map_map]; rfl) K (Nat.le_refl _) hz (by omega) hvl hvb
  have ks : ∀ c, c < W → (red V[i] kp).getD c 0 ≠ 0 → KS W W (V.take i ++ [V[i]]) (kp ++ [(c, low (red V[i] kp))]) := fun c hc h => keep_step K V[i] hvl hvb hc h
  have dp : (∀ c, c < W → (red V[i] kp).getD c 0 = 0) → Dep W W V i (red V[i] kp) := fun h => ⟨hi, kp, K, rfl, h⟩
  generalize red V[i] kp = r at rl rb q1 ks dp ⊢
  have a1 : evA (FEn tbl (k + 3)) (.cons (.v 3) (.cons (.v 1) .nil)) (Fds V kp (oi i) (.ow (.fz (pl V[i]))) x4 x5) = .ok ([.ow (.fz (pl V[i])), .bw (kl kp)], Fds V kp (oi i) (.ow (.fz (pl V[i]))) x4 x5) := by
    simp [evA, ev, argOf, lend, rd, isPath, kl]
  have c1 := ev_call a1 q1
  have p1 := exe_asg (i := 4) (e := .call 2 (.cons (.v 3) (.cons (.v 1) .nil))) (S' := Fds V kp (oi i) (.ow (.fz (pl V[i]))) x4 x5) (v := il r) (by rw [c1]; rfl)
  obtain ⟨v, q2, hv⟩ := col_ok (fe := FEn tbl (k + 2)) r W (by omega) hz
  have q2 := (fe_col (k + 2) _ _).trans q2
  have a2 : evA (FEn tbl (k + 3)) (.cons (.v 4) (.cons (.bi .len (.cons (.v 4) .nil)) .nil)) (Fds V kp (oi i) (.ow (.fz (pl V[i]))) (.ow (il r)) x5) = .ok ([.bw (il r), oi W], Fds V kp (oi i) (.ow (.fz (pl V[i]))) (.ow (il r)) x5) := by
    simp [evA, ev, evBs, argOf, lend, rd, isPath, biop, lenV, rl]
  have c2 := ev_call a2 q2
  have p2 := exe_asg (i := 5) (e := .call 3 (.cons (.v 4) (.cons (.bi .len (.cons (.v 4) .nil)) .nil))) (S' := Fds V kp (oi i) (.ow (.fz (pl V[i]))) (.ow (il r)) x5) (v := .fz v) (by rw [c2]; rfl)
  rcases hv with ⟨hv, h0⟩ | ⟨c, hv, hc, hn⟩
  · subst hv
    refine .inl ⟨(exes_cons p1).trans ((exes_cons p2).trans (exes_rt ?_)), dp h0⟩
    refine (exe_iff_t (S' := Fds V kp (oi i) (.ow (.fz (pl V[i]))) (.ow (il r)) (.ow (.fz .non))) ?_).trans (exes_rt ?_)
    · simp [ev, tstOf, rd, isNon]
    · simp [exe]
  · subst hv
    have p3 : exe (FEn tbl (k + 3)) (.iff (.isn true (.v 5)) (.cons (.retM 2) .nil) .nil) (Fds V kp (oi i) (.ow (.fz (pl V[i]))) (.ow (il r)) (oi c)) = .nx (Fds V kp (oi i) (.ow (.fz (pl V[i]))) (.ow (il r)) (oi c)) := by
      refine (exe_iff_f (S' := Fds V kp (oi i) (.ow (.fz (pl V[i]))) (.ow (il r)) (oi c)) ?_).trans rfl
      simp [ev, tstOf, rd, isNon]
    have hbe : be kp.length ≤ 1500 := be_le (by omega)
    have q3 := (fe_low (k + 2) _).trans (lowest_ok (fe := FEn tbl (k + 2)) r (by omega) fun x hx => (rb x hx).mono (by omega))
    have a3 : evA (FEn tbl (k + 3)) (.cons (.v 4) .nil) (Fds V kp (oi i) (.ow (.fz (pl V[i]))) (.ow (il r)) (oi c)) = .ok ([.bw (il r)], Fds V kp (oi i) (.ow (.fz (pl V[i]))) (.ow (il r)) (oi c)) := by
      simp [evA, ev, argOf, lend, rd, isPath]
    have c3 := ev_call a3 q3
    have he : elemOf (.tup (.cons (.f 5) (.cons (.call 0 (.cons (.v 4) .nil)) .nil))) (ev (FEn tbl (k + 3)) (.tup (.cons (.f 5) (.cons (.call 0 (.cons (.v 4) .nil)) .nil))) (Fds V kp (oi i) (.ow (.fz (pl V[i]))) (.ow (il r)) (oi c))) = .ok (.fz (kv (c, low r)), Fds V kp (oi i) (.ow (.fz (pl V[i]))) (.ow (il r)) (oi c)) := by
      have s2 : decide (2 ≤ szLine) = true := by decide +kernel
      have f5 : ev (FEn tbl (k + 3)) (.f 5) (Fds V kp (oi i) (.ow (.fz (pl V[i]))) (.ow (il r)) (oi c)) = .ok (iv c, Fds V kp (oi i) (.ow (.fz (pl V[i]))) (.ow (il r)) (oi c)) := by
        simp [ev, SV.pv]
      have e1 : ev (FEn tbl (k + 3)) (.tup (.cons (.f 5) (.cons (.call 0 (.cons (.v 4) .nil)) .nil))) (Fds V kp (oi i) (.ow (.fz (pl V[i]))) (.ow (il r)) (oi c)) = .ok (.fz (kv (c, low r)), Fds V kp (oi i) (.ow (.fz (pl V[i]))) (.ow (il r)) (oi c)) := by
        show (evs (FEn tbl (k + 3)) (.cons (.f 5) (.cons (.call 0 (.cons (.v 4) .nil)) .nil)) _).bind _ = _
        have e2 : evs (FEn tbl (k + 3)) (.cons (.f 5) (.cons (.call 0 (.cons (.v 4) .nil)) .nil)) (Fds V kp (oi i) (.ow (.fz (pl V[i]))) (.ow (il r)) (oi c)) = .ok ([iv c, .fz (tpl (low r))], Fds V kp (oi i) (.ow (.fz (pl V[i]))) (.ow (il r)) (oi c)) := by
          simp only [evs, f5, c3, elemOf, valOf, isPath, isKeep, Res.bind_ok, SV.pv]
        rw [e2]
        rfl
      rw [e1]
      rfl
    have p4 := exe_app1 (j := 1) (l0 := kp.map fun p => .fz (kv p)) (l := kp.map fun p => .fz (kv p)) rfl he rfl (by rw [List.length_map]; unfold szLine; omega)
    refine .inr ⟨kp ++ [(c, low r)], .ow (il r), oi c, ?_, ?_⟩
    · refine (exes_cons p1).trans ((exes_cons p2).trans ((exes_cons p3).trans (exes_one (p4.trans ?_))))
      show Out.nx (Fds V kp _ _ _ _ |>.set 1 _) = _
      unfold Fds kl
      rw [List.map_append]; rfl
    · have := ks c hc hn
      rw [List.take_succ_eq_append_getElem hi]
      exact this
/-- first_dependent -/
theorem fd_ok (k : Nat) (V : List (List Int)) (W : Nat) (hz : W ≤ 1000) (hV : V.length ≤ 5) (hw : ∀ r ∈ V, r.length = W) (hb : ∀ r ∈ V, ∀ x ∈ r, Bd 43 x) :
    (∃ i r, FEn tbl (k + 4) 4 [.bw (mt V)] = .ok (iv (i : Nat)) ∧ Dep W W V i r) ∨ ∃ kp, FEn tbl (k + 4) 4 [.bw (mt V)] = .ok (.fz .non) ∧ KS W W V kp := by
  rw [fe_fd]
  have q1 : exe (FEn tbl (k + 3)) (.asg 1 (.lst .nil)) [.bw (mt V), .no, .no, .no, .no, .no] = .nx (Fds V [] .no .no .no .no) := by
    refine exe_asg (S' := [.bw (mt V), .no, .no, .no, .no, .no]) (v := kl []) ?_
    simp [ev, evs, valOf, isPath, kl]
  have hI := en_it (fe := FEn tbl (k + 3)) (Fds V [] .no .no .no .no) V 0 rfl
  have key := loopF_ret (tg := .tp [2, 3]) (body := exes (FEn tbl (k + 3)) fdB) (its := enI V) (S := Fds V [] .no .no .no .no)
    (fun i S => ∃ kp x2 x3 x4 x5, S = Fds V kp x2 x3 x4 x5 ∧ KS W W (V.take i) kp) (fun i v => v = iv (i : Nat) ∧ ∃ r, Dep W W V i r) ⟨[], .no, .no, .no, .no, rfl, by rw [List.take_zero]; exact KS.nil W W⟩ (fun i S it hx ⟨kp, x2, x3, x4, x5, e1, K⟩ => by
      subst e1
      obtain ⟨hi, e2⟩ := enI_get hx
      subst e2
      refine ⟨Fds V kp (oi i) (.ow (.fz (pl V[i]))) x4 x5, rfl, ?_⟩
      rcases fdB_ok k V W hz hV hw hb i hi kp K x4 x5 with ⟨h1, h2⟩ | ⟨kp', y4, y5, h1, h2⟩
      · exact .inr ⟨_, h1, rfl, _, h2⟩
      · exact .inl ⟨_, .inl h1, kp', _, _, y4, y5, rfl, h2⟩)
  rcases key with ⟨S', h1, kp, x2, x3, x4, x5, h2, h3⟩ | ⟨i, v, h1, h2, h3, r, h4⟩
  · rw [enI_len, List.take_length] at h3
    subst h2
    exact .inr ⟨kp, congrArg fin ((exes_cons q1).trans ((exes_cons (exe_forr hI h1)).trans (exes_rt rfl))), h3⟩
  · subst h3
    exact .inl ⟨i, r, congrArg fin ((exes_cons q1).trans (exes_rt (exe_forr_rt hI h2))), h4⟩
end PL.T

namespace PL.T
open PL
theorem fe_pos (k : Nat) (a : Sl) : FEn tbl (k + 1) 6 [a] = fin (exes (FEn tbl k) b__positive [a, .no, .no]) := rfl
def posS : Sx := .iff (.cmp .lt (.idx (.v 1) (.neg (.c (.int 1)))) (.c (.int 0))) (.cons (.asg 1 (.bi .tuple (.cons (.comp (.nm 2) (.ex (.v 1)) .nil (.neg (.v 2)) [2]) .nil))) .nil) .nil
def posB : Ss := (.cons (.iff (.cmp .le (.v 2) (.c (.int 0))) (.cons (.ret (.c .non)) .nil) .nil) .nil)
theorem posS_ok {fe : FE} (a0 : Sl) (L : List Int) (hL : 0 < L.length) (hz : L.length ≤ 6000) : exe fe posS [a0, .ow (.fz (tpl L)), .no] = .nx [a0, .ow (.fz (tpl (sgL L))), .no] := by
  have g : atP (L.map PV.int) (-1) = some (.int (L[L.length - 1]'(by omega))) := by
    unfold atP ixP
    rw [if_neg (by decide), List.length_map, if_pos (by omega)]
    have : (-1 + (L.length : Int)).toNat = L.length - 1 := by omega
    rw [this]
    show (L.map PV.int)[L.length - 1]? = _
    rw [List.getElem?_map, List.getElem?_eq_getElem (by omega)]; rfl
  have g0 : L.getD (L.length - 1) 0 = L[L.length - 1]'(by omega) := getD_at (by omega)
  have tst : tstOf (ev fe (.cmp .lt (.idx (.v 1) (.neg (.c (.int 1)))) (.c (.int 0))) [a0, .ow (.fz (tpl L)), .no]) = .ok (decide (L.getD (L.length - 1) 0 < 0), [a0, .ow (.fz (tpl L)), .no]) := by
    rw [g0]
    simp only [ev, tstOf, rd, List.getElem?_cons_succ, List.getElem?_cons_zero, Res.bind_ok, getIt, getN, g, Option.map_some, SV.pv, cmp_lt_int, Res.noex_ok]
  by_cases hs : L.getD (L.length - 1) 0 < 0
  · rw [decide_eq_true hs] at tst
    have e : sgL L = L.map fun x => -x := if_pos hs
    rw [e]
    refine (exe_iff_t tst).trans (exes_one ?_)
    have hc := ev_comp (fe := fe) (tg := .nm 2) (it := .ex (.v 1)) (el := .neg (.v 2)) (ws := [2]) (S := [a0, .ow (.fz (tpl L)), .no]) (its := L.map fun a => Itm.one (oi a)) (g := gm fun x => -x)
      (by simp [evI, ev, rd, srOf, srcAt, srcV, srcP, fzI]) (by rw [List.length_map]; unfold szLine; omega) (fun x hx => by
        obtain ⟨a, _, rfl⟩ := List.mem_map.mp hx
        refine ⟨[a0, .ow (.fz (tpl L)), oi a], [a0, .ow (.fz (tpl L)), oi a], rfl, ?_, ?_⟩
        · simp [ev, elemOf, valOf, isPath, isKeep, rd, SV.pv, gm]
        · refine ⟨rfl, fun j hj => ?_⟩
          rcases j with _ | _ | _ | j <;> first | rfl | simp at hj)
    rw [gm_map] at hc
    have alf := alf_il (L.map fun x => -x)
    refine exe_asg (S' := [a0, .ow (.fz (tpl L)), .no]) (v := .fz (tpl (L.map fun x => -x))) ?_
    simp only [ev, evBs] at hc ⊢
    rw [hc]
    simp only [Res.bind_ok, biop, tupleV, alf, tupO, Res.noex_ok, valOf, isPath]
  · rw [decide_eq_false hs] at tst
    have e : sgL L = L := if_neg hs
    rw [e]
    exact (exe_iff_f tst).trans rfl
theorem pos_ok (k : Nat) (l : List Int) (hl : 0 < l.length) (hz : l.length ≤ 1000) (hb : ∀ x ∈ l, Bd 8000 x) : ∃ v, FEn tbl (k + 2) 6 [.ow (il l)] = .ok (.fz v) ∧ ((v = tpl (sgL (low l)) ∧ ∀ x ∈ sgL (low l), 0 < x) ∨ (v = .non ∧ ∃ x ∈ sgL (low l), x ≤ 0)) := by
  rw [fe_pos]
  have q3 := (fe_low k _).trans (lowest_ok (fe := FEn tbl k) l hz hb)
  have a3 : evA (FEn tbl (k + 1)) (.cons (.v 0) .nil) [.ow (il l), .no, .no] = .ok ([.bw (il l)], [.ow (il l), .no, .no]) := by
    simp [evA, ev, argOf, lend, rd, isPath]
  have c3 := ev_call a3 q3
  have p1 := exe_asg (i := 1) (e := .call 0 (.cons (.v 0) .nil)) (S' := [.ow (il l), .no, .no]) (v := .fz (tpl (low l))) (by rw [c3]; rfl)
  have p2 := posS_ok (fe := FEn tbl (k + 1)) (.ow (il l)) (low l) (by rw [low_len]; exact hl) (by rw [low_len]; omega)
  generalize sgL (low l) = R at p2 ⊢
  have hI : evI (FEn tbl (k + 1)) (.ex (.v 1)) [.ow (il l), .ow (.fz (tpl R)), .no] = .ok ((R.map fun a => Itm.one (oi a), []), [.ow (il l), .ow (.fz (tpl R)), .no]) := by
    simp [evI, ev, rd, srOf, srcAt, srcV, srcP, fzI]
  have key := loopF_ret (tg := .nm 2) (body := exes (FEn tbl (k + 1)) posB) (its := R.map fun a => Itm.one (oi a)) (S := [.ow (il l), .ow (.fz (tpl R)), .no])
    (fun i S => (∃ y, S = [.ow (il l), .ow (.fz (tpl R)), y]) ∧ ∀ j (h : j < R.length), j < i → 0 < R[j]) (fun i v => v = .fz .non ∧ ∃ x ∈ R, x ≤ 0) ⟨⟨.no, rfl⟩, fun _ _ h => absurd h (Nat.not_lt_zero _)⟩ (fun i S it hx ⟨⟨y, e1⟩, hp⟩ => by
      subst e1
      have hi := (List.getElem?_eq_some_iff.mp hx).1
      have hx2 := (List.getElem?_eq_some_iff.mp hx).2
      rw [List.length_map] at hi
      rw [List.getElem_map] at hx2
      refine ⟨[.ow (il l), .ow (.fz (tpl R)), oi R[i]], by rw [← hx2]; rfl, ?_⟩
      have tst : tstOf (ev (FEn tbl (k + 1)) (.cmp .le (.v 2) (.c (.int 0))) [.ow (il l), .ow (.fz (tpl R)), oi R[i]]) = .ok (decide (R[i] ≤ 0), [.ow (il l), .ow (.fz (tpl R)), oi R[i]]) := by
        simp only [ev, tstOf, rd, List.getElem?_cons_succ, List.getElem?_cons_zero, Res.bind_ok, SV.pv, cmpop, Res.noex_ok]
      by_cases h : R[i] ≤ 0
      · rw [decide_eq_true h] at tst
        exact .inr ⟨_, exes_rt ((exe_iff_t tst).trans (exes_rt rfl)), rfl, _, List.getElem_mem hi, h⟩
      · rw [decide_eq_false h] at tst
        refine .inl ⟨_, .inl (exes_one ((exe_iff_f tst).trans rfl)), ⟨_, rfl⟩, fun j hj hji => ?_⟩
        by_cases e : j = i
        · subst e; omega
        · exact hp j hj (by omega))
  rcases key with ⟨S', h1, ⟨y, h2⟩, h3⟩ | ⟨i, v, h1, h2, h3, h4⟩
  · rw [List.length_map] at h3
    subst h2
    refine ⟨tpl R, congrArg fin ((exes_cons p1).trans ((exes_cons p2).trans ((exes_cons (exe_forr hI h1)).trans (exes_rt rfl)))), .inl ⟨rfl, fun x hx => ?_⟩⟩
    obtain ⟨j, hj, e⟩ := List.getElem_of_mem hx
    rw [← e]; exact h3 j hj hj
  · subst h3
    exact ⟨.non, congrArg fin ((exes_cons p1).trans ((exes_cons p2).trans (exes_rt (exe_forr_rt hI h2)))), .inr ⟨rfl, h4⟩⟩
end PL.T

namespace PL.T
open PL
theorem fe_can (k : Nat) (a : Sl) : FEn tbl (k + 1) 5 [a] = fin (exes (FEn tbl k) b_cancelling [a, .no, .no, .no, .no, .no, .no, .no]) := rfl
def unit (n i : Nat) : List Int := (List.replicate n 0).set i 1
def EV (V : List (List Int)) : List (List Int) := (List.range V.length).map fun i => V.getD i [] ++ unit V.length i
theorem EV_len (V : List (List Int)) : (EV V).length = V.length := by unfold EV; rw [List.length_map, List.length_range]
theorem EV_get {V : List (List Int)} {i : Nat} (h : i < V.length) : (EV V)[i]'(by rw [EV_len]; exact h) = V[i] ++ unit V.length i := by
  have d1 : V.getD i [] = V[i] := by rw [List.getD_eq_getElem?_getD, List.getElem?_eq_getElem h]; rfl
  unfold EV
  rw [List.getElem_map, List.getElem_range, d1]
theorem unit_len (n i : Nat) : (unit n i).length = n := by unfold unit; rw [List.length_set, List.length_replicate]
theorem unit_at {n i : Nat} (h : i < n) (k : Nat) : (unit n i).getD k 0 = if k = i then 1 else 0 := by
  unfold unit
  by_cases hk : k < n
  · rw [getD_at (by rw [List.length_set, List.length_replicate]; exact hk), List.getElem_set]
    by_cases e : i = k
    · rw [if_pos e, if_pos e.symm]
    · rw [if_neg e, if_neg (Ne.symm e), List.getElem_replicate]
  · rw [getD_out (by rw [List.length_set, List.length_replicate]; omega), if_neg (by omega)]
theorem unit_bd {n i : Nat} {x : Int} (h : x ∈ unit n i) : Bd 43 x := by
  unfold unit at h
  rcases List.mem_or_eq_of_mem_set h with h | h
  · rw [List.eq_of_mem_replicate h]; unfold Bd; decide
  · rw [h]; unfold Bd; decide
theorem EV_row {V : List (List Int)} {w : Nat} (hw : ∀ r ∈ V, r.length = w) {i : Nat} (h : i < V.length) : (V[i] ++ unit V.length i).length = w + V.length := by
  rw [List.length_append, unit_len, hw _ (List.getElem_mem h)]
theorem EV_bd {V : List (List Int)} (hb : ∀ r ∈ V, ∀ x ∈ r, Bd 43 x) {i : Nat} (h : i < V.length) : ∀ x ∈ V[i] ++ unit V.length i, Bd 43 x := fun x hx => by
  rcases List.mem_append.mp hx with hx | hx
  · exact hb _ (List.getElem_mem h) x hx
  · exact unit_bd hx
def caB : Ss := (.cons (.asg 5 (.bin .mul (.lst (.cons (.c (.int 0)) .nil)) (.v 1))) (.cons (.setI (.v 5) (.v 3) (.c (.int 1))) (.cons (.asg 6 (.call 2 (.cons (.bin .add (.bi .list (.cons (.v 4) .nil)) (.v 5)) (.cons (.v 2) .nil)))) (.cons (.asg 7 (.call 3 (.cons (.v 6) (.cons (.bi .len (.cons (.v 4) .nil)) .nil)))) (.cons (.iff (.isn true (.v 7)) (.cons (.iff (.cmp .lt (.v 3) (.bin .sub (.v 1) (.c (.int 1)))) (.cons (.ret (.c .non)) .nil) .nil) (.cons (.ret (.call 6 (.cons (.sl (.v 6) (.bi .len (.cons (.v 4) .nil)) (.c .non)) .nil))) .nil)) .nil) (.cons (.app (.v 2) (.tup (.cons (.f 7) (.cons (.call 0 (.cons (.v 6) .nil)) .nil)))) .nil))))))
abbrev Cas (V : List (List Int)) (kp : List (Nat × List Int)) (x3 x4 x5 x6 x7 : Sl) : S := [.bw (mt V), oi V.length, .ow (kl kp), x3, x4, x5, x6, x7]
theorem cut_dropI {l : List SV} {n : Nat} (h : n ≤ l.length) : cut l (some (n : Int)) none = l.drop n := by
  unfold cut sIxP
  have h0 : ¬ ((n : Int) < 0) := by omega
  simp only [if_neg h0, Int.toNat_natCast, Nat.min_eq_left h]
  rw [← List.length_drop, List.take_length]
/-- what cancelling gives at its end -/
def Can (w : Nat) (V : List (List Int)) (v : PV) : Prop :=
  (v = .non ∧ ∃ i r, i + 1 < V.length ∧ Dep w (w + V.length) (EV V) i r) ∨
  (∃ r, Dep w (w + V.length) (EV V) (V.length - 1) r ∧ ((v = tpl (sgL (low (r.drop w))) ∧ ∀ x ∈ sgL (low (r.drop w)), 0 < x) ∨ (v = .non ∧ ∃ x ∈ sgL (low (r.drop w)), x ≤ 0))) ∨
  (v = .non ∧ ∃ kp, KS w (w + V.length) (EV V) kp)
theorem caB_ok (k : Nat) (V : List (List Int)) (w : Nat) (hz : w ≤ 900) (hV : V.length ≤ 5) (hw : ∀ r ∈ V, r.length = w) (hb : ∀ r ∈ V, ∀ x ∈ r, Bd 43 x) (i : Nat) (hi : i < V.length) (kp : List (Nat × List Int)) (K : KS w (w + V.length) ((EV V).take i) kp) (x5 x6 x7 : Sl) :
    (∃ v, exes (FEn tbl (k + 3)) caB (Cas V kp (oi i) (.ow (.fz (pl V[i]))) x5 x6 x7) = .rt (.fz v) ∧ Can w V v) ∨ ∃ kp' y5 y6 y7, exes (FEn tbl (k + 3)) caB (Cas V kp (oi i) (.ow (.fz (pl V[i]))) x5 x6 x7) = .nx (Cas V kp' (oi i) (.ow (.fz (pl V[i]))) y5 y6 y7) ∧ KS w (w + V.length) ((EV V).take (i + 1)) kp' := by
  have hiE : i < (EV V).length := by rw [EV_len]; exact hi
  have hk : kp.length = i := by rw [← K.n, List.length_take, EV_len]; omega
  have hvl := EV_row hw hi
  have hvb := EV_bd hb hi
  have hwi := hw _ (List.getElem_mem hi)
  obtain ⟨rl, rb, _⟩ := red_len K (V[i] ++ unit V.length i) hvl hvb
  have q1 := fun (x : Sl) (hx : x = .ow (il (V[i] ++ unit V.length i))) => reduced_ok (k + 1) x (il (V[i] ++ unit V.length i)) (V[i] ++ unit V.length i) (fun t => by rw [hx]; rfl) (by show lstO (allFz _) = _; rw [alf_il]; show Res.ok (SV.lst (((V[i] ++ unit V.length i).map PV.int).map SV.fz)) = _; rw [List.map_map]; rfl) K (by omega) (by omega) (by omega) hvl hvb
  have q1 := q1 _ rfl
  have ks : ∀ c, c < w → (red (V[i] ++ unit V.length i) kp).getD c 0 ≠ 0 → KS w (w + V.length) ((EV V).take i ++ [V[i] ++ unit V.length i]) (kp ++ [(c, low (red (V[i] ++ unit V.length i) kp))]) := fun c hc h => keep_step K _ hvl hvb hc h
  have dp : (∀ c, c < w → (red (V[i] ++ unit V.length i) kp).getD c 0 = 0) → Dep w (w + V.length) (EV V) i (red (V[i] ++ unit V.length i) kp) := fun h => ⟨hiE, kp, K, by rw [EV_get hi], h⟩
  generalize hE : V[i] ++ unit V.length i = e at rl rb q1 ks dp hvl hvb
  generalize red e kp = r at rl rb q1 ks dp ⊢
  have p0 : exe (FEn tbl (k + 3)) (.asg 5 (.bin .mul (.lst (.cons (.c (.int 0)) .nil)) (.v 1))) (Cas V kp (oi i) (.ow (.fz (pl V[i]))) x5 x6 x7) = .nx (Cas V kp (oi i) (.ow (.fz (pl V[i]))) (.ow (il (List.replicate V.length 0))) x6 x7) := by
    refine exe_asg (S' := Cas V kp (oi i) (.ow (.fz (pl V[i]))) x5 x6 x7) (v := il (List.replicate V.length 0)) ?_
    have s1 : decide (1 ≤ szLine) = true := by decide +kernel
    have g1 : (decide ((V.length : Int).natAbs < 2 ^ 63) && decide (1 * (V.length : Int).toNat ≤ szLine)) = true := by
      rw [Bool.and_eq_true]
      refine ⟨decide_eq_true ?_, decide_eq_true (by unfold szLine; omega)⟩
      have : (5 : Nat) < 2 ^ 63 := by decide
      omega
    have e1 : ((List.replicate (V.length : Int).toNat [PV.int 0]).flatten).map SV.fz = (List.replicate V.length (0 : Int)).map iv := by
      rw [Int.toNat_natCast]
      generalize V.length = n
      induction n with
      | zero => rfl
      | succ n ih => rw [List.replicate_succ, List.replicate_succ, List.flatten_cons, List.map_append, List.map_cons, ih]; rfl
    have e2 : mulV (.lst [iv 0]) (iv V.length) = .ok (il (List.replicate V.length 0)) := by
      show Res.guard (decide ((V.length : Int).natAbs < 2 ^ 63) && decide (1 * (V.length : Int).toNat ≤ szLine)) (Res.ok (SV.lst (((List.replicate (V.length : Int).toNat [PV.int 0]).flatten).map SV.fz))) = _
      rw [g1, e1]; rfl
    simp only [ev, evs, elemOf, valOf, isPath, isKeep, Res.bind_ok, SV.pv, List.length_cons, List.length_nil, s1, Res.guard_true, rd, List.getElem?_cons_succ, List.getElem?_cons_zero, binop, e2, Res.noex_ok]
  have p1 : exe (FEn tbl (k + 3)) (.setI (.v 5) (.v 3) (.c (.int 1))) (Cas V kp (oi i) (.ow (.fz (pl V[i]))) (.ow (il (List.replicate V.length 0))) x6 x7) = .nx (Cas V kp (oi i) (.ow (.fz (pl V[i]))) (.ow (il (unit V.length i))) x6 x7) := by
    have q := exe_setI1 (fe := FEn tbl (k + 3)) (j := 5) (k := i) (i := .v 3) (e := .c (.int 1)) (S := Cas V kp (oi i) (.ow (.fz (pl V[i]))) (.ow (il (List.replicate V.length 0))) x6 x7) (x := iv 1) (n := i) (l := (List.replicate V.length (0 : Int)).map iv) rfl rfl rfl (ixP_nat (by rw [List.length_map, List.length_replicate]; exact hi))
    have e1 : ((List.replicate V.length (0 : Int)).map iv).set i (iv 1) = (unit V.length i).map iv := by unfold unit; rw [List.map_set]
    rw [e1] at q
    exact q
  have a1 : evA (FEn tbl (k + 3)) (.cons (.bin .add (.bi .list (.cons (.v 4) .nil)) (.v 5)) (.cons (.v 2) .nil)) (Cas V kp (oi i) (.ow (.fz (pl V[i]))) (.ow (il (unit V.length i))) x6 x7) = .ok ([.ow (il e), .bw (kl kp)], Cas V kp (oi i) (.ow (.fz (pl V[i]))) (.ow (il (unit V.length i))) x6 x7) := by
    have l1 : listV (.fz (pl V[i])) = .ok (il V[i]) := by show Res.ok (SV.lst ((V[i].map PV.int).map SV.fz)) = _; rw [List.map_map]; rfl
    have ad := add_il V[i] (unit V.length i) (by rw [unit_len]; unfold szLine; omega)
    rw [hE] at ad
    simp only [evA, ev, evBs, rd, List.getElem?_cons_succ, List.getElem?_cons_zero, Res.bind_ok, biop, l1, Res.noex_ok, binop, ad, argOf, isPath, lend, kl]
  have c1 := ev_call a1 q1
  have p2 := exe_asg (i := 6) (e := .call 2 (.cons (.bin .add (.bi .list (.cons (.v 4) .nil)) (.v 5)) (.cons (.v 2) .nil))) (S' := Cas V kp (oi i) (.ow (.fz (pl V[i]))) (.ow (il (unit V.length i))) x6 x7) (v := il r) (by rw [c1]; rfl)
  obtain ⟨v, q2, hv⟩ := col_ok (fe := FEn tbl (k + 2)) r w (by omega) (by omega)
  have q2 := (fe_col (k + 2) _ _).trans q2
  have a2 : evA (FEn tbl (k + 3)) (.cons (.v 6) (.cons (.bi .len (.cons (.v 4) .nil)) .nil)) (Cas V kp (oi i) (.ow (.fz (pl V[i]))) (.ow (il (unit V.length i))) (.ow (il r)) x7) = .ok ([.bw (il r), oi w], Cas V kp (oi i) (.ow (.fz (pl V[i]))) (.ow (il (unit V.length i))) (.ow (il r)) x7) := by
    simp [evA, ev, evBs, argOf, lend, rd, isPath, biop, lenV, hwi]
  have c2 := ev_call a2 q2
  have p3 := exe_asg (i := 7) (e := .call 3 (.cons (.v 6) (.cons (.bi .len (.cons (.v 4) .nil)) .nil))) (S' := Cas V kp (oi i) (.ow (.fz (pl V[i]))) (.ow (il (unit V.length i))) (.ow (il r)) x7) (v := .fz v) (by rw [c2]; rfl)
  have pre := fun rest => (exes_cons (ss := rest) p0)
  rcases hv with ⟨hv, h0⟩ | ⟨c, hv, hc, hn⟩
  · subst hv
    have t7 : tstOf (ev (FEn tbl (k + 3)) (.isn true (.v 7)) (Cas V kp (oi i) (.ow (.fz (pl V[i]))) (.ow (il (unit V.length i))) (.ow (il r)) (.ow (.fz .non)))) = .ok (true, Cas V kp (oi i) (.ow (.fz (pl V[i]))) (.ow (il (unit V.length i))) (.ow (il r)) (.ow (.fz .non))) := by
      simp [ev, tstOf, rd, isNon]
    have t8 : tstOf (ev (FEn tbl (k + 3)) (.cmp .lt (.v 3) (.bin .sub (.v 1) (.c (.int 1)))) (Cas V kp (oi i) (.ow (.fz (pl V[i]))) (.ow (il (unit V.length i))) (.ow (il r)) (.ow (.fz .non)))) = .ok (decide ((i : Int) < (V.length : Int) - 1), Cas V kp (oi i) (.ow (.fz (pl V[i]))) (.ow (il (unit V.length i))) (.ow (il r)) (.ow (.fz .non))) := by
      simp only [ev, tstOf, rd, List.getElem?_cons_succ, List.getElem?_cons_zero, Res.bind_ok, binop, subV, Res.noex_ok, SV.pv, cmp_lt_int]
    by_cases hl : i + 1 < V.length
    · rw [decide_eq_true (by omega)] at t8
      refine .inl ⟨.non, (exes_cons p0).trans ((exes_cons p1).trans ((exes_cons p2).trans ((exes_cons p3).trans (exes_rt ((exe_iff_t t7).trans (exes_rt ((exe_iff_t t8).trans (exes_rt rfl)))))))), .inl ⟨rfl, i, r, hl, dp h0⟩⟩
    · rw [decide_eq_false (by omega)] at t8
      have hi' : i = V.length - 1 := by omega
      have ld : (r.drop w).length = V.length := by rw [List.length_drop, rl]; omega
      have hbe : be kp.length ≤ 1500 := be_le (by omega)
      obtain ⟨u, u1, u2⟩ := pos_ok (k + 1) (r.drop w) (by omega) (by omega) fun x hx => (rb x (List.mem_of_mem_drop hx)).mono (by omega)
      have p8 : exe (FEn tbl (k + 3)) (.iff (.cmp .lt (.v 3) (.bin .sub (.v 1) (.c (.int 1)))) (.cons (.ret (.c .non)) .nil) .nil) (Cas V kp (oi i) (.ow (.fz (pl V[i]))) (.ow (il (unit V.length i))) (.ow (il r)) (.ow (.fz .non))) = .nx (Cas V kp (oi i) (.ow (.fz (pl V[i]))) (.ow (il (unit V.length i))) (.ow (il r)) (.ow (.fz .non))) := (exe_iff_f t8).trans rfl
      have a9 : evA (FEn tbl (k + 3)) (.cons (.sl (.v 6) (.bi .len (.cons (.v 4) .nil)) (.c .non)) .nil) (Cas V kp (oi i) (.ow (.fz (pl V[i]))) (.ow (il (unit V.length i))) (.ow (il r)) (.ow (.fz .non))) = .ok ([.ow (il (r.drop w))], Cas V kp (oi i) (.ow (.fz (pl V[i]))) (.ow (il (unit V.length i))) (.ow (il r)) (.ow (.fz .non))) := by
        have cd : cut (r.map iv) (some (w : Int)) none = (r.drop w).map iv := by rw [cut_dropI (by rw [List.length_map]; omega), List.map_drop]
        have al := alf_il (r.drop w)
        have e3 : ((r.drop w).map PV.int).map SV.fz = (r.drop w).map iv := by rw [List.map_map]; rfl
        have l1 : (V[i].map PV.int).length = w := by rw [List.length_map, hwi]
        simp only [evA, ev, evBs, rd, List.getElem?_cons_succ, List.getElem?_cons_zero, Res.bind_ok, biop, lenV, l1, Res.noex_ok, optOf, isNonE, SV.pv, asInt, cutIt, cd, al, Option.map_some, e3, argOf, isPath]
      have c9 := ev_call a9 u1
      have p9 : exe (FEn tbl (k + 3)) (.ret (.call 6 (.cons (.sl (.v 6) (.bi .len (.cons (.v 4) .nil)) (.c .non)) .nil))) (Cas V kp (oi i) (.ow (.fz (pl V[i]))) (.ow (il (unit V.length i))) (.ow (il r)) (.ow (.fz .non))) = .rt (.fz u) := by
        show (valOf _ (ev _ _ _)).out _ _ = _
        rw [c9]; rfl
      refine .inl ⟨u, (exes_cons p0).trans ((exes_cons p1).trans ((exes_cons p2).trans ((exes_cons p3).trans (exes_rt ((exe_iff_t t7).trans ((exes_cons p8).trans (exes_rt p9))))))), .inr (.inl ⟨r, ?_, u2⟩)⟩
      rw [← hi']; exact dp h0
  · subst hv
    have p4 : exe (FEn tbl (k + 3)) (.iff (.isn true (.v 7)) (.cons (.iff (.cmp .lt (.v 3) (.bin .sub (.v 1) (.c (.int 1)))) (.cons (.ret (.c .non)) .nil) .nil) (.cons (.ret (.call 6 (.cons (.sl (.v 6) (.bi .len (.cons (.v 4) .nil)) (.c .non)) .nil))) .nil)) .nil) (Cas V kp (oi i) (.ow (.fz (pl V[i]))) (.ow (il (unit V.length i))) (.ow (il r)) (oi c)) = .nx (Cas V kp (oi i) (.ow (.fz (pl V[i]))) (.ow (il (unit V.length i))) (.ow (il r)) (oi c)) := by
      refine (exe_iff_f (S' := Cas V kp (oi i) (.ow (.fz (pl V[i]))) (.ow (il (unit V.length i))) (.ow (il r)) (oi c)) ?_).trans rfl
      simp [ev, tstOf, rd, isNon]
    have hbe : be kp.length ≤ 1500 := be_le (by omega)
    have q3 := (fe_low (k + 2) _).trans (lowest_ok (fe := FEn tbl (k + 2)) r (by omega) fun x hx => (rb x hx).mono (by omega))
    have a3 : evA (FEn tbl (k + 3)) (.cons (.v 6) .nil) (Cas V kp (oi i) (.ow (.fz (pl V[i]))) (.ow (il (unit V.length i))) (.ow (il r)) (oi c)) = .ok ([.bw (il r)], Cas V kp (oi i) (.ow (.fz (pl V[i]))) (.ow (il (unit V.length i))) (.ow (il r)) (oi c)) := by
      simp [evA, ev, argOf, lend, rd, isPath]
    have c3 := ev_call a3 q3
    have he : elemOf (.tup (.cons (.f 7) (.cons (.call 0 (.cons (.v 6) .nil)) .nil))) (ev (FEn tbl (k + 3)) (.tup (.cons (.f 7) (.cons (.call 0 (.cons (.v 6) .nil)) .nil))) (Cas V kp (oi i) (.ow (.fz (pl V[i]))) (.ow (il (unit V.length i))) (.ow (il r)) (oi c))) = .ok (.fz (kv (c, low r)), Cas V kp (oi i) (.ow (.fz (pl V[i]))) (.ow (il (unit V.length i))) (.ow (il r)) (oi c)) := by
      have f5 : ev (FEn tbl (k + 3)) (.f 7) (Cas V kp (oi i) (.ow (.fz (pl V[i]))) (.ow (il (unit V.length i))) (.ow (il r)) (oi c)) = .ok (iv c, Cas V kp (oi i) (.ow (.fz (pl V[i]))) (.ow (il (unit V.length i))) (.ow (il r)) (oi c)) := by
        simp [ev, SV.pv]
      have e1 : ev (FEn tbl (k + 3)) (.tup (.cons (.f 7) (.cons (.call 0 (.cons (.v 6) .nil)) .nil))) (Cas V kp (oi i) (.ow (.fz (pl V[i]))) (.ow (il (unit V.length i))) (.ow (il r)) (oi c)) = .ok (.fz (kv (c, low r)), Cas V kp (oi i) (.ow (.fz (pl V[i]))) (.ow (il (unit V.length i))) (.ow (il r)) (oi c)) := by
        show (evs (FEn tbl (k + 3)) (.cons (.f 7) (.cons (.call 0 (.cons (.v 6) .nil)) .nil)) _).bind _ = _
        have e2 : evs (FEn tbl (k + 3)) (.cons (.f 7) (.cons (.call 0 (.cons (.v 6) .nil)) .nil)) (Cas V kp (oi i) (.ow (.fz (pl V[i]))) (.ow (il (unit V.length i))) (.ow (il r)) (oi c)) = .ok ([iv c, .fz (tpl (low r))], Cas V kp (oi i) (.ow (.fz (pl V[i]))) (.ow (il (unit V.length i))) (.ow (il r)) (oi c)) := by
          simp only [evs, f5, c3, elemOf, valOf, isPath, isKeep, Res.bind_ok, SV.pv]
        rw [e2]
        rfl
      rw [e1]
      rfl
    have p5 := exe_app1 (j := 2) (l0 := kp.map fun p => .fz (kv p)) (l := kp.map fun p => .fz (kv p)) rfl he rfl (by rw [List.length_map]; unfold szLine; omega)
    refine .inr ⟨kp ++ [(c, low r)], .ow (il (unit V.length i)), .ow (il r), oi c, ?_, ?_⟩
    · refine (exes_cons p0).trans ((exes_cons p1).trans ((exes_cons p2).trans ((exes_cons p3).trans ((exes_cons p4).trans (exes_one (p5.trans ?_))))))
      show Out.nx (Cas V kp _ _ _ _ _ |>.set 2 _) = _
      unfold Cas kl
      rw [List.map_append]; rfl
    · have := ks c hc hn
      rw [List.take_succ_eq_append_getElem hiE, EV_get hi, hE]
      exact this
/-- cancelling -/
theorem can_ok (k : Nat) (V : List (List Int)) (w : Nat) (hz : w ≤ 900) (hV : V.length ≤ 5) (hw : ∀ r ∈ V, r.length = w) (hb : ∀ r ∈ V, ∀ x ∈ r, Bd 43 x) : ∃ v, FEn tbl (k + 4) 5 [.bw (mt V)] = .ok (.fz v) ∧ Can w V v := by
  rw [fe_can]
  have q0 : exe (FEn tbl (k + 3)) (.asg 1 (.bi .len (.cons (.v 0) .nil))) [.bw (mt V), .no, .no, .no, .no, .no, .no, .no] = .nx [.bw (mt V), oi V.length, .no, .no, .no, .no, .no, .no] := by
    refine exe_asg (S' := [.bw (mt V), .no, .no, .no, .no, .no, .no, .no]) (v := iv V.length) ?_
    simp [ev, evBs, rd, valOf, isPath, biop, lenV]
  have q1 : exe (FEn tbl (k + 3)) (.asg 2 (.lst .nil)) [.bw (mt V), oi V.length, .no, .no, .no, .no, .no, .no] = .nx (Cas V [] .no .no .no .no .no) := by
    refine exe_asg (S' := [.bw (mt V), oi V.length, .no, .no, .no, .no, .no, .no]) (v := kl []) ?_
    simp [ev, evs, valOf, isPath, kl]
  have hI := en_it (fe := FEn tbl (k + 3)) (Cas V [] .no .no .no .no .no) V 0 rfl
  have key := loopF_ret (tg := .tp [3, 4]) (body := exes (FEn tbl (k + 3)) caB) (its := enI V) (S := Cas V [] .no .no .no .no .no)
    (fun i S => ∃ kp x3 x4 x5 x6 x7, S = Cas V kp x3 x4 x5 x6 x7 ∧ KS w (w + V.length) ((EV V).take i) kp) (fun i v => ∃ u, v = .fz u ∧ Can w V u) ⟨[], .no, .no, .no, .no, .no, rfl, by rw [List.take_zero]; exact KS.nil w _⟩ (fun i S it hx ⟨kp, x3, x4, x5, x6, x7, e1, K⟩ => by
      subst e1
      obtain ⟨hi, e2⟩ := enI_get hx
      subst e2
      refine ⟨Cas V kp (oi i) (.ow (.fz (pl V[i]))) x5 x6 x7, rfl, ?_⟩
      rcases caB_ok k V w hz hV hw hb i hi kp K x5 x6 x7 with ⟨v, h1, h2⟩ | ⟨kp', y5, y6, y7, h1, h2⟩
      · exact .inr ⟨_, h1, v, rfl, h2⟩
      · exact .inl ⟨_, .inl h1, kp', _, _, y5, y6, y7, rfl, h2⟩)
  rcases key with ⟨S', h1, kp, x3, x4, x5, x6, x7, h2, h3⟩ | ⟨i, v, h1, h2, u, h3, h4⟩
  · rw [enI_len, List.take_of_length_le (by rw [EV_len]; exact Nat.le_refl _)] at h3
    subst h2
    exact ⟨.non, congrArg fin ((exes_cons q0).trans ((exes_cons q1).trans ((exes_cons (exe_forr hI h1)).trans (exes_rt rfl)))), .inr (.inr ⟨rfl, kp, h3⟩)⟩
  · subst h3
    exact ⟨u, congrArg fin ((exes_cons q0).trans ((exes_cons q1).trans (exes_rt (exe_forr_rt hI h2)))), h4⟩
end PL.T

namespace PL
/-- a comprehension with a test -/
theorem loopC_filt {tg : Tg} {ws : List Nat} {test : S → Res (Bool × S)} {el : S → Res (SV × S)} {p : Itm → Bool} {g : Itm → SV} {S0 : S} : ∀ {its : List Itm} {S : S} {acc : List SV}, Off ws S0 S → acc.length + its.length ≤ szLine →
    (∀ x ∈ its, ∃ S1 S2, setTg (wipS S0 ws) tg x = .ok S1 ∧ test S1 = .ok (p x, S1) ∧ Off ws S0 S1 ∧ (p x = true → el S1 = .ok (g x, S2)) ∧ Off ws S0 S2) → ∃ S', loopC tg ws test el its S acc = .ok (acc ++ (its.filter p).map g, S') ∧ Off ws S0 S'
  | [], S, acc, h, _, _ => ⟨S, by rw [List.filter_nil, List.map_nil, List.append_nil]; rfl, h⟩
  | x :: xs, S, acc, h, hl, hx => by
    obtain ⟨S1, S2, e1, e2, o1, e3, o⟩ := hx x List.mem_cons_self
    rw [List.length_cons] at hl
    have red : loopC tg ws test el (x :: xs) S acc = ((setTg (wipS S ws) tg x).noex.bind fun S1 => (test S1).bind fun p => match p.1 with
      | false => loopC tg ws test el xs p.2 acc
      | true => (el p.2).bind fun q => Res.guard (decide (acc.length < szLine)) (loopC tg ws test el xs q.2 (acc ++ [q.1]))) := rfl
    cases hp : p x with
    | false =>
      obtain ⟨S', e4, o'⟩ := loopC_filt (p := p) (g := g) (its := xs) (acc := acc) o1 (by omega) fun y hy => hx y (List.mem_cons_of_mem _ hy)
      refine ⟨S', ?_, o'⟩
      rw [red, h.wip, e1, Res.noex_ok, Res.bind_ok, e2, Res.bind_ok, hp]
      rw [List.filter_cons_of_neg (by rw [hp]; decide)]
      exact e4
    | true =>
      obtain ⟨S', e4, o'⟩ := loopC_filt (p := p) (g := g) (its := xs) (acc := acc ++ [g x]) o (by rw [List.length_append, List.length_singleton]; omega) fun y hy => hx y (List.mem_cons_of_mem _ hy)
      refine ⟨S', ?_, o'⟩
      rw [red, h.wip, e1, Res.noex_ok, Res.bind_ok, e2, Res.bind_ok, hp]
      show ((el S1).bind fun q => Res.guard (decide (acc.length < szLine)) (loopC tg ws test el xs q.2 (acc ++ [q.1]))) = _
      rw [e3 hp, Res.bind_ok, show decide (acc.length < szLine) = true from decide_eq_true (by omega), Res.guard_true, e4, List.filter_cons_of_pos hp, List.map_cons, List.append_assoc]
      rfl
/-- over an own list, with a test -/
theorem ev_comp1F {fe : FE} {tg : Tg} {it : It} {cnd : Exs} {el : Ex} {ws : List Nat} {S : S} {its : List Itm} {p : Itm → Bool} {g : Itm → SV} {i : Nat} {s : SV} (h : evI fe it S = .ok ((its, [(i, s)]), S)) (hi : S[i]? = some (.ow s)) (hl : its.length ≤ szLine)
    (hx : ∀ x ∈ its, ∃ S1 S2, setTg (wipS (S.set i (.bw s)) ws) tg x = .ok S1 ∧ tstC (evC fe cnd S1) = .ok (p x, S1) ∧ Off ws (S.set i (.bw s)) S1 ∧ (p x = true → elemOf el (ev fe el S1) = .ok (g x, S2)) ∧ Off ws (S.set i (.bw s)) S2) : ev fe (.comp tg it cnd el ws) S = .ok (.lst ((its.filter p).map g), S) := by
  obtain ⟨S', e, o⟩ := loopC_filt (tg := tg) (test := fun T => tstC (evC fe cnd T)) (el := fun T => elemOf el (ev fe el T)) (p := p) (g := g) (its := its) (acc := []) (S0 := S.set i (.bw s)) (S := S.set i (.bw s)) .refl (by simpa using hl) fun x hm => hx x hm
  show (evI fe it S).bind _ = _
  rw [h]
  show ((loopC tg ws (fun T => tstC (evC fe cnd T)) (fun T => elemOf el (ev fe el T)) its (S.set i (.bw s)) []).noex.bind fun q => Res.ok (SV.lst q.1, takeS (back S ws q.2) [(i, s)])) = _
  rw [e, Res.noex_ok, Res.bind_ok, List.nil_append]
  have hl' : S'.length = S.length := by rw [o.1, List.length_set]
  have : takeS (back S ws S') [(i, s)] = S := by
    show (back S ws S').set i (.ow s) = S
    refine List.ext_getElem? fun j => ?_
    by_cases hj : j = i
    · subst hj
      rw [List.getElem?_set_self (by
        have := (List.getElem?_eq_some_iff.mp hi).1
        have e2 : (back S ws S').length = S.length := by
          have : ∀ (ws : List Nat) (T : PL.S), (back S ws T).length = T.length := fun ws => by
            induction ws with
            | nil => intro T; rfl
            | cons v vs ih => intro T; show (back S vs (T.set v (S.getD v .no))).length = _; rw [ih, List.length_set]
          rw [this, hl']
        omega), hi]
    · rw [List.getElem?_set_ne (Ne.symm hj), back_get hl']
      by_cases hw : j ∈ ws
      · rw [if_pos hw]
      · rw [if_neg hw, o.2 j hw, List.getElem?_set_ne (Ne.symm hj)]
  rw [this]
/-- one name is set for a turn -/
theorem wip1 (S : S) {b : Nat} (hl : b < S.length) (x : Sl) : ∃ S1, setTg (wipS S [b]) (.nm b) (.one x) = .ok S1 ∧ S1[b]? = some x ∧ Off [b] S S1 ∧ ∀ j, j ≠ b → S1[j]? = S[j]? := by
  refine ⟨(wipS S [b]).set b x, rfl, ?_, Off.set Off.wiped (by simp), fun j hj => ?_⟩
  · rw [List.getElem?_set_self (by rw [wipS_length]; exact hl)]
  · rw [List.getElem?_set_ne (Ne.symm hj), wipS_get, if_neg (by simp; intro z; exact absurd z hj)]
end PL
namespace PL.T
open PL
variable {fe : FE}
/-- the numbers of a row at the places u -/
def sel (u : List Nat) (row : List Int) : List Int := u.map fun c => row.getD c 0
theorem tab_el (S : PL.S) (a b s : Nat) (row : List Int) (u : List Nat) (hab : a ≠ b) (hb : b < S.length) (ha : rd S a = some (.fz (pl row))) (hs : S[s]? = some (.ow (.fz (uv u)))) (hz : u.length ≤ 1000) (hu : ∀ c ∈ u, c < row.length) :
    ev fe (.comp (.nm b) (.ex (.v s)) .nil (.idx (.v a) (.v b)) [b]) S = .ok (il (sel u row), S) := by
  have r : rd S s = some (.fz (uv u)) := by unfold rd; rw [hs]
  have hI : evI fe (.ex (.v s)) S = .ok ((u.map fun (c : Nat) => Itm.one (oi c), []), S) := by
    simp only [evI, ev, r, Res.bind_ok, srOf, srcAt, srcV, hs, uv, srcP, List.map_map]
    rfl
  have hc := ev_comp (fe := fe) (tg := .nm b) (it := .ex (.v s)) (el := .idx (.v a) (.v b)) (ws := [b]) (S := S) (its := u.map fun (c : Nat) => Itm.one (oi c)) (g := gm fun c => row.getD c.toNat 0) hI (by rw [List.length_map]; unfold szLine; omega) (fun x hx => by
    obtain ⟨c, hcu, rfl⟩ := List.mem_map.mp hx
    obtain ⟨S1, k1, k2, k3, k4⟩ := wip1 S hb (oi c)
    refine ⟨S1, S1, k1, ?_, k3⟩
    have hcl := hu c hcu
    have g := atP_pl (l := row) (i := (c : Int)) rfl hcl
    have r1 : rd S1 a = some (.fz (pl row)) := by unfold rd at ha ⊢; rw [k4 a hab]; exact ha
    have r2 : rd S1 b = some (iv c) := by unfold rd; rw [k2]
    have e : row.getD c 0 = row[c] := getD_at hcl
    simp only [ev, r1, r2, Res.bind_ok, getIt, getN, g, Option.map_some, elemOf, valOf, isPath, isKeep, SV.pv, gm, Int.toNat_natCast, e])
  have e : (u.map fun (c : Nat) => Itm.one (oi c)).map (gm fun c => row.getD c.toNat 0) = (sel u row).map iv := by
    unfold sel
    rw [List.map_map, List.map_map]
    refine List.map_congr_left fun c _ => ?_
    simp [gm]
  rw [e] at hc
  exact hc
theorem ints_pl : ∀ l : List Int, ints? (l.map PV.int) = some l
  | [] => rfl
  | x :: xs => by show (ints? (xs.map PV.int)).map (x :: ·) = _; rw [ints_pl xs]; rfl
def gtb (u : List Nat) : Itm → SV
  | .one (.ow (.fz (.lst l))) => match ints? l with
    | some row => .fz (pl (sel u row))
    | none => iv 0
  | _ => iv 0
theorem gtb_map (u : List Nat) (W : List (List Int)) : (W.map fun r => Itm.one (.ow (.fz (pl r)))).map (gtb u) = (W.map (sel u)).map fun r => SV.fz (pl r) := by
  rw [List.map_map, List.map_map]
  refine List.map_congr_left fun r _ => ?_
  show (match ints? (r.map PV.int) with | some row => SV.fz (pl (sel u row)) | none => iv 0) = _
  rw [ints_pl]; rfl
/-- the elements of a table's comprehension -/
theorem tab_body (S : PL.S) (a b s : Nat) (u : List Nat) (W : List (List Int)) (hab : a ≠ b) (hsa : s ≠ a) (ha : a < S.length) (hb : b < S.length) (hs : S[s]? = some (.ow (.fz (uv u)))) (hz : u.length ≤ 1000) (hu : ∀ r ∈ W, ∀ c ∈ u, c < r.length) :
    ∀ x ∈ W.map fun r => Itm.one (.ow (.fz (pl r))), ∃ S1 S2, setTg (wipS S [a]) (.nm a) x = .ok S1 ∧ elemOf (.comp (.nm b) (.ex (.v s)) .nil (.idx (.v a) (.v b)) [b]) (ev fe (.comp (.nm b) (.ex (.v s)) .nil (.idx (.v a) (.v b)) [b]) S1) = .ok (gtb u x, S2) ∧ Off [a] S S2 := fun x hx => by
  obtain ⟨r, hr, rfl⟩ := List.mem_map.mp hx
  obtain ⟨S1, k1, k2, k3, k4⟩ := wip1 S ha (.ow (.fz (pl r)))
  have e := tab_el (fe := fe) S1 a b s r u hab (by rw [k3.1]; exact hb) (by unfold rd; rw [k2]) (by rw [k4 s hsa]; exact hs) hz (hu r hr)
  refine ⟨S1, S1, k1, ?_, k3⟩
  rw [e]
  have p := pvs_ints (sel u r)
  show Res.ok (SV.fz (.lst (SV.pvs ((sel u r).map iv))), S1) = Res.ok ((match ints? (r.map PV.int) with | some row => SV.fz (pl (sel u row)) | none => iv 0), S1)
  rw [p, ints_pl]
/-- a table over an own list of rows -/
theorem tab_own (S : PL.S) (i a b s : Nat) (u : List Nat) (W : List (List Int)) (hi : S[i]? = some (.ow (mt W))) (hab : a ≠ b) (hsa : s ≠ a) (his : s ≠ i) (ha : a < S.length) (hb : b < S.length) (hs : S[s]? = some (.ow (.fz (uv u)))) (hz : u.length ≤ 1000) (hW : W.length ≤ 1000) (hu : ∀ r ∈ W, ∀ c ∈ u, c < r.length) :
    ev fe (.comp (.nm a) (.ex (.v i)) .nil (.comp (.nm b) (.ex (.v s)) .nil (.idx (.v a) (.v b)) [b]) [a]) S = .ok (mt (W.map (sel u)), S) := by
  have hc := ev_comp1 (fe := fe) (tg := .nm a) (it := .ex (.v i)) (el := .comp (.nm b) (.ex (.v s)) .nil (.idx (.v a) (.v b)) [b]) (ws := [a]) (S := S) (its := W.map fun r => Itm.one (.ow (.fz (pl r)))) (g := gtb u) (i := i) (s := mt W) (row_it S i W hi) hi (by rw [List.length_map]; unfold szLine; omega)
    (tab_body (S.set i (.bw (mt W))) a b s u W hab hsa (by rw [List.length_set]; exact ha) (by rw [List.length_set]; exact hb) (by rw [List.getElem?_set_ne (Ne.symm his)]; exact hs) hz hu)
  rw [gtb_map] at hc
  exact hc
/-- a table over rows that are told -/
theorem tab_val (S : PL.S) (it : It) (a b s : Nat) (u : List Nat) (W : List (List Int)) (hI : evI fe it S = .ok ((W.map fun r => Itm.one (.ow (.fz (pl r))), []), S)) (hab : a ≠ b) (hsa : s ≠ a) (ha : a < S.length) (hb : b < S.length) (hs : S[s]? = some (.ow (.fz (uv u)))) (hz : u.length ≤ 1000) (hW : W.length ≤ 1000) (hu : ∀ r ∈ W, ∀ c ∈ u, c < r.length) :
    ev fe (.comp (.nm a) it .nil (.comp (.nm b) (.ex (.v s)) .nil (.idx (.v a) (.v b)) [b]) [a]) S = .ok (mt (W.map (sel u)), S) := by
  have hc := ev_comp (fe := fe) (tg := .nm a) (it := it) (el := .comp (.nm b) (.ex (.v s)) .nil (.idx (.v a) (.v b)) [b]) (ws := [a]) (S := S) (its := W.map fun r => Itm.one (.ow (.fz (pl r)))) (g := gtb u) hI (by rw [List.length_map]; unfold szLine; omega) (tab_body S a b s u W hab hsa ha hb hs hz hu)
  rw [gtb_map] at hc
  exact hc
def ch : Nat → List (List Nat)
  | 0 => [[]]
  | k + 1 => ch k ++ (ch k).map fun u => u ++ [k]
theorem ch_len : ∀ k, (ch k).length = 2 ^ k
  | 0 => rfl
  | k + 1 => by unfold ch; rw [List.length_append, List.length_map, ch_len k, Nat.pow_succ]; omega
theorem ch_lt {u : List Nat} : ∀ {k}, u ∈ ch k → ∀ c ∈ u, c < k
  | 0, h, c, hc => by rw [List.mem_singleton.mp h] at hc; exact nomatch hc
  | k + 1, h, c, hc => by
    rcases List.mem_append.mp h with h | h
    · exact Nat.lt_succ_of_lt (ch_lt h c hc)
    · obtain ⟨v, hv, rfl⟩ := List.mem_map.mp h
      rcases List.mem_append.mp hc with hc | hc
      · exact Nat.lt_succ_of_lt (ch_lt hv c hc)
      · rw [List.mem_singleton.mp hc]; exact Nat.lt_succ_self k
theorem ch_ulen {u : List Nat} : ∀ {k}, u ∈ ch k → u.length ≤ k
  | 0, h => by rw [List.mem_singleton.mp h]; exact Nat.le_refl _
  | k + 1, h => by
    rcases List.mem_append.mp h with h | h
    · exact Nat.le_succ_of_le (ch_ulen h)
    · obtain ⟨v, hv, rfl⟩ := List.mem_map.mp h
      rw [List.length_append]; exact Nat.succ_le_succ (ch_ulen hv)
theorem ch_filter (p : Nat → Bool) : ∀ k, (List.range k).filter p ∈ ch k
  | 0 => List.mem_singleton.mpr rfl
  | k + 1 => by
    have ih := ch_filter p k
    rw [List.range_succ, List.filter_append]
    unfold ch
    cases hp : p k with
    | true =>
      refine List.mem_append_right _ (List.mem_map.mpr ⟨_, ih, ?_⟩)
      simp [hp]
    | false =>
      have : [k].filter p = [] := by simp [hp]
      rw [this, List.append_nil]
      exact List.mem_append_left _ ih
def cho (w n : Nat) : List (List Nat) := (ch w).filter fun u => u.length == n
theorem mem_cho {w n : Nat} {u : List Nat} : u ∈ cho w n ↔ u ∈ ch w ∧ u.length = n := by
  unfold cho; rw [List.mem_filter, beq_iff_eq]
def cl (L : List (List Nat)) : SV := .lst (L.map fun u => .fz (uv u))
theorem cl_fz (L : List (List Nat)) : cl L = .lst ((L.map uv).map SV.fz) := by unfold cl; rw [List.map_map]; rfl
theorem cl_pv (L : List (List Nat)) : (cl L).pv = .lst (L.map uv) := by
  rw [cl_fz]; show PV.lst (SV.pvs ((L.map uv).map SV.fz)) = _; rw [pvs_fz]
theorem cl_it (S : PL.S) (i : Nat) (L : List (List Nat)) (h : S[i]? = some (.ow (cl L))) : evI fe (.ex (.v i)) S = .ok ((L.map fun u => Itm.one (.ow (.fz (uv u))), [(i, cl L)]), S) := by
  have : rd S i = some (cl L) := by unfold rd; rw [h]
  have h' : S[i]? = some (.ow (.lst (L.map fun u => .fz (uv u)))) := h
  simp only [evI, ev, this, Res.bind_ok, srOf, srcAt, srcV, h', List.map_map]
  rfl
/-- u with one more place -/
def gsn (k : Nat) : Itm → SV
  | .one (.ow (.fz (.tup l))) => .fz (.tup (l ++ [.int (k : Int)]))
  | _ => iv 0
def gidT : Itm → SV
  | .one (.ow (.fz v)) => .fz v
  | _ => iv 0
def pln (n : Nat) : Itm → Bool
  | .one (.ow (.fz (.tup l))) => (l.length : Int) == (n : Int)
  | _ => false
theorem fe_cho (k : Nat) (a b : Sl) : FEn tbl (k + 1) 11 [a, b] = fin (exes (FEn tbl k) b__law_choices [a, b, .no, .no, .no]) := rfl
def choB : Ss := (.cons (.asg 2 (.bin .add (.v 2) (.comp (.nm 4) (.ex (.v 2)) .nil (.bin .add (.v 4) (.tup (.cons (.f 3) .nil))) [4]))) .nil)
theorem choB_ok (a0 a1 : Sl) (k : Nat) (hk : k ≤ 3) : exes fe choB [a0, a1, .ow (cl (ch k)), oi k, .no] = .nx [a0, a1, .ow (cl (ch (k + 1))), oi k, .no] := by
  have hl : (ch k).length ≤ 8 := by
    rw [ch_len]
    have : 2 ^ k ≤ 2 ^ 3 := Nat.pow_le_pow_right (by decide) hk
    exact this
  have hc := ev_comp1 (fe := fe) (tg := .nm 4) (it := .ex (.v 2)) (el := .bin .add (.v 4) (.tup (.cons (.f 3) .nil))) (ws := [4]) (S := [a0, a1, .ow (cl (ch k)), oi k, .no]) (its := (ch k).map fun u => Itm.one (.ow (.fz (uv u)))) (g := gsn k) (i := 2) (s := cl (ch k))
    (cl_it _ 2 (ch k) rfl) rfl (by rw [List.length_map]; unfold szLine; omega) (fun x hx => by
      obtain ⟨u, hu, rfl⟩ := List.mem_map.mp hx
      refine ⟨[a0, a1, .bw (cl (ch k)), oi k, .ow (.fz (uv u))], [a0, a1, .bw (cl (ch k)), oi k, .ow (.fz (uv u))], rfl, ?_, ?_⟩
      · have s1 : decide (1 ≤ szLine) = true := by decide +kernel
        have ul := ch_ulen hu
        have s2 : decide ((u.map fun (k : Nat) => PV.int (k : Int)).length + 1 ≤ szLine) = true := decide_eq_true (by rw [List.length_map]; unfold szLine; omega)
        have e3 : evs fe (.cons (.f 3) .nil) [a0, a1, .bw (cl (ch k)), oi k, .ow (.fz (uv u))] = .ok ([iv k], [a0, a1, .bw (cl (ch k)), oi k, .ow (.fz (uv u))]) := by
          simp [evs, ev, elemOf, valOf, isPath, isKeep, SV.pv]
        have e4 : ev fe (.tup (.cons (.f 3) .nil)) [a0, a1, .bw (cl (ch k)), oi k, .ow (.fz (uv u))] = .ok (.fz (.tup [.int (k : Int)]), [a0, a1, .bw (cl (ch k)), oi k, .ow (.fz (uv u))]) := by
          show (evs fe (.cons (.f 3) .nil) _).bind _ = _
          rw [e3]; rfl
        have e5 : addV (.fz (uv u)) (.fz (.tup [.int (k : Int)])) = .ok (.fz (.tup ((u.map fun (k : Nat) => PV.int (k : Int)) ++ [.int (k : Int)]))) := by
          show Res.guard (decide ((u.map fun (k : Nat) => PV.int (k : Int)).length + 1 ≤ szLine)) _ = _
          rw [s2]; rfl
        have e6 : ev fe (.bin .add (.v 4) (.tup (.cons (.f 3) .nil))) [a0, a1, .bw (cl (ch k)), oi k, .ow (.fz (uv u))] = .ok (.fz (.tup ((u.map fun (k : Nat) => PV.int (k : Int)) ++ [.int (k : Int)])), [a0, a1, .bw (cl (ch k)), oi k, .ow (.fz (uv u))]) := by
          show (ev fe (.v 4) _).bind _ = _
          have : ev fe (.v 4) [a0, a1, .bw (cl (ch k)), oi k, .ow (.fz (uv u))] = .ok (.fz (uv u), [a0, a1, .bw (cl (ch k)), oi k, .ow (.fz (uv u))]) := by simp [ev, rd]
          rw [this]
          simp only [Res.bind_ok, e4, binop, e5, Res.noex_ok]
        rw [e6]; rfl
      · refine ⟨rfl, fun j hj => ?_⟩
        have hj : j ≠ 4 := by simpa using hj
        rcases j with _ | _ | _ | _ | _ | j <;> first | rfl | exact absurd rfl hj)
  have e1 : ((ch k).map fun u => Itm.one (.ow (.fz (uv u)))).map (gsn k) = (((ch k).map fun u => u ++ [k]).map uv).map SV.fz := by
    rw [List.map_map, List.map_map, List.map_map]
    refine List.map_congr_left fun u _ => ?_
    show SV.fz (.tup ((u.map fun (k : Nat) => PV.int (k : Int)) ++ [.int (k : Int)])) = SV.fz (.tup ((u ++ [k]).map fun (k : Nat) => PV.int (k : Int)))
    rw [List.map_append]; rfl
  rw [e1] at hc
  have ad : addV (cl (ch k)) (.lst ((((ch k).map fun u => u ++ [k]).map uv).map SV.fz)) = .ok (cl (ch (k + 1))) := by
    rw [cl_fz (ch k)]
    have f1 : allFz (((ch k).map uv).map SV.fz) = some ((ch k).map uv) := allFz_map _
    have f2 : allFz ((((ch k).map fun u => u ++ [k]).map uv).map SV.fz) = some (((ch k).map fun u => u ++ [k]).map uv) := allFz_map _
    show catL (allFz _) (allFz _) = _
    rw [f1, f2]
    show Res.guard (decide (((ch k).map uv).length + (((ch k).map fun u => u ++ [k]).map uv).length ≤ szLine)) (Res.ok (SV.lst ((((ch k).map uv) ++ (((ch k).map fun u => u ++ [k]).map uv)).map SV.fz))) = _
    rw [decide_eq_true (by rw [List.length_map, List.length_map, List.length_map]; unfold szLine; omega), Res.guard_true, cl_fz (ch (k + 1)), ← List.map_append]
    rfl
  refine exes_one (exe_asg (S' := [a0, a1, .ow (cl (ch k)), oi k, .no]) (v := cl (ch (k + 1))) ?_)
  have v2 : ev fe (.v 2) [a0, a1, .ow (cl (ch k)), oi k, .no] = .ok (cl (ch k), [a0, a1, .ow (cl (ch k)), oi k, .no]) := by simp [ev, rd]
  have : ev fe (.bin .add (.v 2) (.comp (.nm 4) (.ex (.v 2)) .nil (.bin .add (.v 4) (.tup (.cons (.f 3) .nil))) [4])) [a0, a1, .ow (cl (ch k)), oi k, .no] = .ok (cl (ch (k + 1)), [a0, a1, .ow (cl (ch k)), oi k, .no]) := by
    show (ev fe (.v 2) _).bind _ = _
    rw [v2]
    simp only [Res.bind_ok, hc, binop, ad, Res.noex_ok]
  rw [this]; rfl
end PL.T

namespace PL.T
open PL
variable {fe : FE}
def choF : Ex := .comp (.nm 4) (.ex (.v 2)) (.cons (.cmp .eq (.bi .len (.cons (.v 4) .nil)) (.v 1)) .nil) (.f 4) [4]
theorem choices_ok (k : Nat) (w : Nat) (n : Int) (hw : w ≤ 3) : ∃ L : List (List Nat), FEn tbl (k + 1) 11 [oi w, oi n] = .ok (cl L) ∧ ∀ m : Nat, n = m → L = cho w m := by
  rw [fe_cho]
  have q1 : exe (FEn tbl k) (.asg 2 (.lst (.cons (.tup .nil) .nil))) [oi w, oi n, .no, .no, .no] = .nx [oi w, oi n, .ow (cl (ch 0)), .no, .no] := by
    refine exe_asg (S' := [oi w, oi n, .no, .no, .no]) (v := cl (ch 0)) ?_
    have s1 : decide (1 ≤ szLine) = true := by decide +kernel
    have s0 : decide (0 ≤ szLine) = true := by decide +kernel
    simp [ev, evs, valOf, isPath, elemOf, isKeep, cl, ch, uv, SV.pv, SV.pvs, s1, s0]
  have hI : evI (FEn tbl k) (.r1 (.v 0)) [oi w, oi n, .ow (cl (ch 0)), .no, .no] = .ok ((rangeL 0 w, []), [oi w, oi n, .ow (cl (ch 0)), .no, .no]) := by
    have k1 : r62 (w : Int) = true := r62_of2 (by omega)
    simp [evI, ev, rd, asInt, SV.pv, k1]
  obtain ⟨S', h1, x3, h2⟩ := loopF_rel (tg := .nm 3) (body := exes (FEn tbl k) choB) (its := rangeL 0 w) (S := [oi w, oi n, .ow (cl (ch 0)), .no, .no])
    (fun i S => ∃ x3, S = [oi w, oi n, .ow (cl (ch i)), x3, .no]) ⟨.no, rfl⟩ (fun i S x hx ⟨x3, e1⟩ => by
      subst e1
      obtain ⟨e4, e5⟩ := rangeL_get hx
      subst e4
      rw [Int.zero_add]
      exact ⟨[oi w, oi n, .ow (cl (ch i)), oi i, .no], rfl, _, .inl (choB_ok (oi w) (oi n) i (by omega)), oi i, rfl⟩)
  rw [rangeL_len] at h2
  have en : ((w : Int) - 0).toNat = w := by omega
  rw [en] at h2
  subst h2
  have q2 := exe_forr hI h1
  have hl : (ch w).length ≤ 8 := by
    rw [ch_len]
    have : 2 ^ w ≤ 2 ^ 3 := Nat.pow_le_pow_right (by decide) hw
    exact this
  have hc := ev_comp1F (fe := FEn tbl k) (tg := .nm 4) (it := .ex (.v 2)) (cnd := .cons (.cmp .eq (.bi .len (.cons (.v 4) .nil)) (.v 1)) .nil) (el := .f 4) (ws := [4]) (S := [oi w, oi n, .ow (cl (ch w)), x3, .no]) (its := (ch w).map fun u => Itm.one (.ow (.fz (uv u))))
    (p := fun x => match x with | .one (.ow (.fz (.tup l))) => (l.length : Int) == n | _ => false) (g := gidT) (i := 2) (s := cl (ch w))
    (cl_it _ 2 (ch w) rfl) rfl (by rw [List.length_map]; unfold szLine; omega) (fun x hx => by
      obtain ⟨u, hu, rfl⟩ := List.mem_map.mp hx
      refine ⟨[oi w, oi n, .bw (cl (ch w)), x3, .ow (.fz (uv u))], [oi w, oi n, .bw (cl (ch w)), x3, .ow (.fz (uv u))], rfl, ?_, ?_, fun _ => ?_, ?_⟩
      · simp [evC, ev, evBs, tstC, tstOf, rd, biop, lenV, uv, SV.pv, cmp_eq_int]
      · refine ⟨rfl, fun j hj => ?_⟩
        have hj : j ≠ 4 := by simpa using hj
        rcases j with _ | _ | _ | _ | _ | j <;> first | rfl | exact absurd rfl hj
      · simp [ev, elemOf, valOf, isPath, isKeep, SV.pv, gidT]
      · refine ⟨rfl, fun j hj => ?_⟩
        have hj : j ≠ 4 := by simpa using hj
        rcases j with _ | _ | _ | _ | _ | j <;> first | rfl | exact absurd rfl hj)
  have key : ∀ (L : List (List Nat)), (((L.map fun u => Itm.one (.ow (.fz (uv u)))).filter fun x => match x with | .one (.ow (.fz (.tup l))) => (l.length : Int) == n | _ => false).map gidT) = (L.filter fun u => (u.length : Int) == n).map fun u => SV.fz (uv u) := fun L => by
    rw [List.filter_map, List.map_map]
    have : ((fun x : Itm => match x with | .one (.ow (.fz (.tup l))) => (l.length : Int) == n | _ => false) ∘ fun u => Itm.one (.ow (.fz (uv u)))) = fun u : List Nat => (u.length : Int) == n := by
      funext u
      show (((u.map fun (k : Nat) => PV.int (k : Int)).length : Int) == n) = _
      rw [List.length_map]
    rw [this]
    rfl
  rw [key] at hc
  have q3 : exe (FEn tbl k) (.ret choF) [oi w, oi n, .ow (cl (ch w)), x3, .no] = .rt (cl ((ch w).filter fun u => (u.length : Int) == n)) := by
    show (valOf choF (ev (FEn tbl k) choF _)).out _ _ = _
    unfold choF
    rw [hc]; rfl
  refine ⟨_, congrArg fin ((exes_cons q1).trans ((exes_cons q2).trans (exes_rt q3))), fun m e => ?_⟩
  unfold cho
  refine List.filter_congr fun u _ => ?_
  rw [e]
  by_cases h : u.length = m
  · rw [h]; simp
  · have h1 : (u.length == m) = false := by simp [h]
    have h2 : ((u.length : Int) == (m : Int)) = false := by simp; omega
    rw [h1, h2]
theorem fe_det (k : Nat) (a : Sl) : FEn tbl (k + 1) 10 [a] = fin (exes (FEn tbl k) b__law_determinant (stS ⟨1, 11, b__law_determinant⟩ [a])) := rfl
theorem sum_loop (t x1 z y3 y5 y6 y7 y8 y9 y10 : Sl) (ws : List (List Nat × Int)) : ∃ z5 z6, loopF (.tp [5, 6]) (exes fe sumB) (ws.map fun p => Itm.one (.ow (.fz (wv p)))) [t, x1, z, y3, oi 0, y5, y6, y7, y8, y9, y10] = .nx [t, x1, z, y3, oi (asum ws), z5, z6, y7, y8, y9, y10] := by
  obtain ⟨S', h1, z5, z6, h2⟩ := loopF_rel (tg := .tp [5, 6]) (body := exes fe sumB) (its := ws.map fun p => Itm.one (.ow (.fz (wv p)))) (S := [t, x1, z, y3, oi 0, y5, y6, y7, y8, y9, y10])
    (fun i S => ∃ y5 y6, S = [t, x1, z, y3, oi (asum (ws.take i)), y5, y6, y7, y8, y9, y10]) ⟨y5, y6, by rw [List.take_zero]; rfl⟩ (fun j S x hx ⟨y5, y6, e1⟩ => by
      subst e1
      have hj := (List.getElem?_eq_some_iff.mp hx).1
      have hx2 := (List.getElem?_eq_some_iff.mp hx).2
      rw [List.length_map] at hj
      rw [List.getElem_map] at hx2
      refine ⟨[t, x1, z, y3, oi (asum (ws.take j)), .ow (.fz (uv ws[j].1)), oi ws[j].2, y7, y8, y9, y10], by rw [← hx2]; rfl, [t, x1, z, y3, oi (asum (ws.take j) + ws[j].2), .ow (.fz (uv ws[j].1)), oi ws[j].2, y7, y8, y9, y10], .inl (exes_one ?_), .ow (.fz (uv ws[j].1)), oi ws[j].2, ?_⟩
      · refine exe_asg (S' := [t, x1, z, y3, oi (asum (ws.take j)), .ow (.fz (uv ws[j].1)), oi ws[j].2, y7, y8, y9, y10]) (v := iv (asum (ws.take j) + ws[j].2)) ?_
        simp [ev, rd, valOf, isPath, binop, addV]
      · have : asum (ws.take (j + 1)) = asum (ws.take j) + ws[j].2 := by
          unfold asum
          rw [List.take_succ_eq_append_getElem hj, List.map_append, List.map_singleton, List.sum_append]; simp
        rw [this])
  rw [List.length_map, List.take_length] at h2
  subst h2
  exact ⟨z5, z6, h1⟩
/-- the determinant of no rows -/
theorem det_zero (t0 : Sl) (h : t0 = .bw (mt []) ∨ t0 = .ow (mt [])) : fin (exes fe b__law_determinant (stS ⟨1, 11, b__law_determinant⟩ [t0])) = .ok (iv 1) := by
  have st0 : stS ⟨1, 11, b__law_determinant⟩ [t0] = [t0, .no, .no, .no, .no, .no, .no, .no, .no, .no, .no] := rfl
  rw [st0]
  have q1 : exe fe (.asg 1 (.bi .len (.cons (.v 0) .nil))) [t0, .no, .no, .no, .no, .no, .no, .no, .no, .no, .no] = .nx [t0, oi 0, .no, .no, .no, .no, .no, .no, .no, .no, .no] := by
    refine exe_asg (S' := [t0, .no, .no, .no, .no, .no, .no, .no, .no, .no, .no]) (v := iv 0) ?_
    rcases h with h | h <;> subst h <;> simp [ev, evBs, rd, valOf, isPath, biop, lenV]
  have q2 : exe fe (.asg 2 (.lst (.cons (.tup (.cons (.tup .nil) (.cons (.c (.int 1)) .nil))) .nil))) [t0, oi 0, .no, .no, .no, .no, .no, .no, .no, .no, .no] = .nx [t0, oi 0, .ow (wl [([], 1)]), .no, .no, .no, .no, .no, .no, .no, .no] := by
    refine exe_asg (S' := [t0, oi 0, .no, .no, .no, .no, .no, .no, .no, .no, .no]) (v := wl [([], 1)]) ?_
    have s2 : decide (2 ≤ szLine) = true := by decide +kernel
    have s1 : decide (1 ≤ szLine) = true := by decide +kernel
    have s0 : decide (0 ≤ szLine) = true := by decide +kernel
    simp [ev, evs, valOf, isPath, elemOf, isKeep, wl, wv, uv, SV.pv, SV.pvs, s2, s1, s0]
  have q3 : exe fe (.forr (.nm 3) (.ex (.v 0)) lineDB) [t0, oi 0, .ow (wl [([], 1)]), .no, .no, .no, .no, .no, .no, .no, .no] = .nx [t0, oi 0, .ow (wl [([], 1)]), .no, .no, .no, .no, .no, .no, .no, .no] := by
    rcases h with h | h <;> subst h
    · refine exe_forr (its := []) ?_ rfl
      simp [evI, ev, rd, srOf, srcAt, srcV]
    · refine (exe_forr1 (its := []) (i := 0) (s := mt []) ?_ rfl rfl).trans ?_
      · simp [evI, ev, rd, srOf, srcAt, srcV]
      · rfl
  have q4 : exe fe (.asg 4 (.c (.int 0))) [t0, oi 0, .ow (wl [([], 1)]), .no, .no, .no, .no, .no, .no, .no, .no] = .nx [t0, oi 0, .ow (wl [([], 1)]), .no, oi 0, .no, .no, .no, .no, .no, .no] := by
    refine exe_asg (S' := [t0, oi 0, .ow (wl [([], 1)]), .no, .no, .no, .no, .no, .no, .no, .no]) (v := iv 0) ?_
    simp [ev, valOf, isPath]
  obtain ⟨z5, z6, k1⟩ := sum_loop (fe := fe) t0 (oi 0) (.bw (wl [([], 1)])) .no .no .no .no .no .no .no [([], 1)]
  have q5 := exe_forr1 (fe := fe) (tg := .tp [5, 6]) (it := .ex (.v 2)) (b := sumB) (S := [t0, oi 0, .ow (wl [([], 1)]), .no, oi 0, .no, .no, .no, .no, .no, .no]) (i := 2) (s := wl [([], 1)]) (its := [(([], 1) : List Nat × Int)].map fun p => Itm.one (.ow (.fz (wv p)))) (by
    simp [evI, ev, rd, srOf, srcAt, srcV, wl, lend]) rfl k1
  refine congrArg fin ((exes_cons q1).trans ((exes_cons q2).trans ((exes_cons q3).trans ((exes_cons q4).trans ((exes_cons q5).trans (exes_rt ?_))))))
  rfl
theorem det_loop (T : List (List Int)) (n : Nat) (hn : T.length = n) (hn1 : 1 ≤ n) (hn5 : n ≤ 5) (hw : ∀ r ∈ T, r.length = n) (hb : ∀ r ∈ T, ∀ x ∈ r, Bd 43 x) :
    ∃ v ws y3 y5 y6 y7 y8 y9 y10, loopF (.nm 3) (exes fe lineDB) (T.map fun r => Itm.one (.ow (.fz (pl r)))) (Tsv T n (wl [([], 1)]) .no .no .no .no .no .no .no .no) = .nx (Tsv T n v y3 .no y5 y6 y7 y8 y9 y10) ∧ v = .fz (.lst (ws.map wv)) ∧ asum ws = dets n (sq T) [] := by
  obtain ⟨S', h1, v, ws, y3, y5, y6, y7, y8, y9, y10, h2, hv, hW, hlen, hsum⟩ := loopF_rel (tg := .nm 3) (body := exes fe lineDB) (its := T.map fun r => Itm.one (.ow (.fz (pl r)))) (S := Tsv T n (wl [([], 1)]) .no .no .no .no .no .no .no .no)
    (fun i S => ∃ v ws y3 y5 y6 y7 y8 y9 y10, S = Tsv T n v y3 .no y5 y6 y7 y8 y9 y10 ∧ (IsW v ws ∧ (0 < i → v = .fz (.lst (ws.map wv)))) ∧ WOk i (1 + i * 43) ws ∧ ws.length ≤ n ^ i ∧ wsum n (sq (T.drop i)) ws = dets n (sq T) [])
    ⟨wl [([], 1)], [([], 1)], .no, .no, .no, .no, .no, .no, .no, rfl, ⟨isW_wl _, fun h => absurd h (by decide)⟩, ⟨fun p hp => by rw [List.mem_singleton.mp hp]; rfl, fun p hp => by rw [List.mem_singleton.mp hp]; show (1 : Int).natAbs < 2 ^ (1 + 0 * 43); decide⟩, by simp, by
      show 1 * dets n (sq (T.drop 0)) [] + 0 = _
      rw [List.drop_zero, Int.one_mul, Int.add_zero]⟩ (fun i S x hx ⟨v, ws, y3, y5, y6, y7, y8, y9, y10, e1, hv, hW, hlen, hsum⟩ => by
      subst e1
      have hi := (List.getElem?_eq_some_iff.mp hx).1
      have hx2 := (List.getElem?_eq_some_iff.mp hx).2
      rw [List.length_map] at hi
      rw [List.getElem_map] at hx2
      have hp := pow5 (n := n) (i := i) hn5 (by omega)
      obtain ⟨v', z5, z6, z7, z8, z9, z10, k1, k2⟩ := wayline_ok (fe := fe) T n i (1 + i * 43) v ws hv.1 T[i] .no y5 y6 y7 y8 y9 y10 (hw _ (List.getElem_mem hi)).symm hn5 (by omega) (by omega) hW (by omega) (hb _ (List.getElem_mem hi))
      refine ⟨Tsv T n v (.ow (.fz (pl T[i]))) .no y5 y6 y7 y8 y9 y10, by rw [← hx2]; rfl, _, .inl k1, v', ws.flatMap (fun p => grow T[i] p n), .ow (.fz (pl T[i])), z5, z6, z7, z8, z9, z10, rfl, ⟨by rw [k2]; exact isW_fz _, fun _ => k2⟩, ?_, ?_, ?_⟩
      · have := hW.grow (n := n) (hb _ (List.getElem_mem hi))
        have e : 1 + i * 43 + 43 = 1 + (i + 1) * 43 := by omega
        rw [e] at this
        exact this
      · have := growS_len T[i] n ws
        rw [Nat.pow_succ]
        exact Nat.le_trans this (Nat.mul_le_mul_right _ hlen)
      · rw [wsum_grow, ← hsum]
        have : sq (T.drop i) = (fun k => T[i].getD k 0) :: sq (T.drop (i + 1)) := by
          rw [List.drop_eq_getElem_cons hi]; rfl
        rw [this])
  rw [List.length_map, hn] at hv hW hlen hsum
  have hsum : asum ws = dets n (sq T) [] := by
    rw [← hsum, List.drop_of_length_le (by omega), ← wsum_nil n ws]; rfl
  subst h2
  exact ⟨v, ws, y3, y5, y6, y7, y8, y9, y10, h1, hv.2 (by omega), hsum⟩
/-- the law's determinant, the table lent or handed over -/
theorem det_ok2 (t0 : Sl) (T : List (List Int)) (n : Nat) (h0 : t0 = .bw (mt T) ∨ t0 = .ow (mt T)) (hn : T.length = n) (hn5 : n ≤ 5) (hw : ∀ r ∈ T, r.length = n) (hb : ∀ r ∈ T, ∀ x ∈ r, Bd 43 x) :
    fin (exes fe b__law_determinant (stS ⟨1, 11, b__law_determinant⟩ [t0])) = .ok (iv (dets n (sq T) [])) := by
  by_cases hn1 : 1 ≤ n
  · rcases h0 with h0 | h0
    · subst h0
      exact det_ok T n hn hn1 hn5 hw hb
    · subst h0
      have st0 : stS ⟨1, 11, b__law_determinant⟩ [.ow (mt T)] = [.ow (mt T), .no, .no, .no, .no, .no, .no, .no, .no, .no, .no] := rfl
      rw [st0]
      have q1 : exe fe (.asg 1 (.bi .len (.cons (.v 0) .nil))) [.ow (mt T), .no, .no, .no, .no, .no, .no, .no, .no, .no, .no] = .nx [.ow (mt T), oi n, .no, .no, .no, .no, .no, .no, .no, .no, .no] := by
        refine exe_asg (S' := [.ow (mt T), .no, .no, .no, .no, .no, .no, .no, .no, .no, .no]) (v := iv n) ?_
        simp [ev, evBs, rd, valOf, isPath, biop, lenV, hn]
      have q2 : exe fe (.asg 2 (.lst (.cons (.tup (.cons (.tup .nil) (.cons (.c (.int 1)) .nil))) .nil))) [.ow (mt T), oi n, .no, .no, .no, .no, .no, .no, .no, .no, .no] = .nx [.ow (mt T), oi n, .ow (wl [([], 1)]), .no, .no, .no, .no, .no, .no, .no, .no] := by
        refine exe_asg (S' := [.ow (mt T), oi n, .no, .no, .no, .no, .no, .no, .no, .no, .no]) (v := wl [([], 1)]) ?_
        have s2 : decide (2 ≤ szLine) = true := by decide +kernel
        have s1 : decide (1 ≤ szLine) = true := by decide +kernel
        have s0 : decide (0 ≤ szLine) = true := by decide +kernel
        simp [ev, evs, valOf, isPath, elemOf, isKeep, wl, wv, uv, SV.pv, SV.pvs, s2, s1, s0]
      obtain ⟨v, ws, y3, y5, y6, y7, y8, y9, y10, h1, hv, hsum⟩ := det_loop (fe := fe) T n hn hn1 hn5 hw hb
      have q3 := exe_forr1 (fe := fe) (tg := .nm 3) (it := .ex (.v 0)) (b := lineDB) (S := [.ow (mt T), oi n, .ow (wl [([], 1)]), .no, .no, .no, .no, .no, .no, .no, .no]) (i := 0) (s := mt T) (its := T.map fun r => Itm.one (.ow (.fz (pl r)))) (by
        simp [evI, ev, rd, srOf, srcAt, srcV, lend]) rfl h1
      generalize ht : (fun i => inTg i (.nm 3) || asgs i lineDB) = t at q3
      have e3 : (noBw t (Tsv T n v y3 .no y5 y6 y7 y8 y9 y10)).set 0 (.ow (mt T)) = [.ow (mt T), oi n, .ow v, noBw1 t 3 y3, .no, noBw1 t 5 y5, noBw1 t 6 y6, noBw1 t 7 y7, noBw1 t 8 y8, noBw1 t 9 y9, noBw1 t 10 y10] := rfl
      rw [e3] at q3
      generalize noBw1 t 3 y3 = y3' at q3
      generalize noBw1 t 5 y5 = y5' at q3
      generalize noBw1 t 6 y6 = y6' at q3
      generalize noBw1 t 7 y7 = y7' at q3
      generalize noBw1 t 8 y8 = y8' at q3
      generalize noBw1 t 9 y9 = y9' at q3
      generalize noBw1 t 10 y10 = y10' at q3
      have q4 : exe fe (.asg 4 (.c (.int 0))) [.ow (mt T), oi n, .ow v, y3', .no, y5', y6', y7', y8', y9', y10'] = .nx [.ow (mt T), oi n, .ow v, y3', oi 0, y5', y6', y7', y8', y9', y10'] := by
        refine exe_asg (S' := [.ow (mt T), oi n, .ow v, y3', .no, y5', y6', y7', y8', y9', y10']) (v := iv 0) ?_
        simp [ev, valOf, isPath]
      have hI2 : evI fe (.ex (.v 2)) [.ow (mt T), oi n, .ow v, y3', oi 0, y5', y6', y7', y8', y9', y10'] = .ok ((ws.map fun p => Itm.one (.ow (.fz (wv p))), []), [.ow (mt T), oi n, .ow v, y3', oi 0, y5', y6', y7', y8', y9', y10']) := by
        subst hv
        simp [evI, ev, rd, srOf, srcAt, srcV, srcP, fzI]
      obtain ⟨z5, z6, k1⟩ := sum_loop (fe := fe) (.ow (mt T)) (oi n) (.ow v) y3' y5' y6' y7' y8' y9' y10' ws
      rw [hsum] at k1
      have q5 := exe_forr hI2 k1
      exact congrArg fin ((exes_cons q1).trans ((exes_cons q2).trans ((exes_cons q3).trans ((exes_cons q4).trans ((exes_cons q5).trans (exes_rt rfl))))))
  · have hT : T = [] := List.eq_nil_of_length_eq_zero (by omega)
    have hn0 : n = 0 := by omega
    subst hT
    subst hn0
    exact det_zero t0 h0
end PL.T

namespace PL.T
open PL
theorem sel_len (u : List Nat) (r : List Int) : (sel u r).length = u.length := List.length_map _
theorem sel_bd {u : List Nat} {r : List Int} {b : Nat} (h : ∀ x ∈ r, Bd b x) : ∀ x ∈ sel u r, Bd b x := fun x hx => by
  obtain ⟨c, _, rfl⟩ := List.mem_map.mp hx
  exact bd_at h c
theorem sel_at {u : List Nat} {r : List Int} {k : Nat} (h : k < u.length) : (sel u r).getD k 0 = pk u (vv r) k := by
  rw [getD_at (by rw [sel_len]; exact h)]
  unfold sel pk vv
  rw [List.getElem_map, List.getD_eq_getElem?_getD (l := u), List.getElem?_eq_getElem h]
  rfl
theorem sq_sel (V : List (List Int)) (u : List Nat) : dets u.length (sq (V.map (sel u))) [] = dets u.length ((V.map vv).map (pk u)) [] := by
  refine dets_congr u.length [] (by rw [sq_len, List.length_map, List.length_map, List.length_map]) fun i h h' k hk => ?_
  rw [sq_len] at h
  rw [List.length_map] at h
  rw [sq_get (by rw [List.length_map]; exact h), List.getElem_map, List.getElem_map, List.getElem_map]
  exact sel_at hk
theorem fe_ind (k : Nat) (a b : Sl) : FEn tbl (k + 1) 12 [a, b] = fin (exes (FEn tbl k) b__law_independent [a, b, .no, .no, .no]) := rfl
def tabX : Ex := .comp (.nm 3) (.ex (.v 0)) .nil (.comp (.nm 4) (.ex (.v 2)) .nil (.idx (.v 3) (.v 4)) [4]) [3]
def indB : Ss := (.cons (.iff (.cmp .ne (.call 10 (.cons tabX .nil)) (.c (.int 0))) (.cons (.ret (.c (.bl true))) .nil) .nil) .nil)
theorem choice_it {fe : FE} (S : PL.S) (f : Nat) (es : Exs) (L : List (List Nat)) (h : ev fe (.call f es) S = .ok (cl L, S)) : evI fe (.ex (.call f es)) S = .ok ((L.map fun u => Itm.one (.ow (.fz (uv u))), []), S) := by
  show (srOf (.call f es) (ev fe (.call f es) S)).bind _ = _
  rw [h]
  have e : srOf (.call f es) (Res.ok (cl L, S)) = .ok (.val (.lst (L.map uv)), S) := by
    show Res.ok (Sr.val (cl L).pv, S) = _
    rw [cl_pv]
  rw [e]
  show Res.ok ((((L.map uv).map fzI).map Itm.one, []), S) = _
  rw [List.map_map, List.map_map]
  rfl
theorem ind_ok (k : Nat) (V : List (List Int)) (w : Nat) (hw3 : w ≤ 3) (hV : V.length ≤ 5) (hw : ∀ r ∈ V, r.length = w) (hb : ∀ r ∈ V, ∀ x ∈ r, Bd 43 x) :
    ∃ b, FEn tbl (k + 2) 12 [.ow (mt V), oi w] = .ok (.fz (.bl b)) ∧ ((b = true ∧ ∃ u ∈ cho w V.length, dets V.length ((V.map vv).map (pk u)) [] ≠ 0) ∨ (b = false ∧ ∀ u ∈ cho w V.length, dets V.length ((V.map vv).map (pk u)) [] = 0)) := by
  rw [fe_ind]
  obtain ⟨L, c1, hL⟩ := choices_ok k w (V.length : Nat) hw3
  have hL := hL _ rfl
  have a1 : evA (FEn tbl (k + 1)) (.cons (.v 1) (.cons (.bi .len (.cons (.v 0) .nil)) .nil)) [.ow (mt V), oi w, .no, .no, .no] = .ok ([oi w, oi V.length], [.ow (mt V), oi w, .no, .no, .no]) := by
    simp [evA, ev, evBs, argOf, lend, rd, isPath, biop, lenV]
  have hI := choice_it _ _ _ L (ev_call a1 c1)
  have key := loopF_ret (tg := .nm 2) (body := exes (FEn tbl (k + 1)) indB) (its := L.map fun u => Itm.one (.ow (.fz (uv u)))) (S := [.ow (mt V), oi w, .no, .no, .no])
    (fun i S => (∃ y, S = [.ow (mt V), oi w, y, .no, .no]) ∧ ∀ j (h : j < L.length), j < i → dets V.length ((V.map vv).map (pk L[j])) [] = 0) (fun i v => v = .fz (.bl true) ∧ ∃ u ∈ L, dets V.length ((V.map vv).map (pk u)) [] ≠ 0) ⟨⟨.no, rfl⟩, fun _ _ h => absurd h (Nat.not_lt_zero _)⟩ (fun i S it hx ⟨⟨y, e1⟩, hp⟩ => by
      subst e1
      have hi := (List.getElem?_eq_some_iff.mp hx).1
      have hx2 := (List.getElem?_eq_some_iff.mp hx).2
      rw [List.length_map] at hi
      rw [List.getElem_map] at hx2
      have hm : L[i] ∈ cho w V.length := by rw [← hL]; exact List.getElem_mem hi
      obtain ⟨hc, hul⟩ := mem_cho.mp hm
      refine ⟨[.ow (mt V), oi w, .ow (.fz (uv L[i])), .no, .no], by rw [← hx2]; rfl, ?_⟩
      have tb := tab_own (fe := FEn tbl (k + 1)) [.ow (mt V), oi w, .ow (.fz (uv L[i])), .no, .no] 0 3 4 2 L[i] V rfl (by decide) (by decide) (by decide) (by simp) (by simp) rfl (by omega) (by omega) (fun r hr c hcu => by rw [hw r hr]; exact ch_lt hc c hcu)
      have dt := (fe_det k _).trans (det_ok2 (fe := FEn tbl k) (.ow (mt (V.map (sel L[i])))) (V.map (sel L[i])) V.length (.inr rfl) (List.length_map _) hV (fun r hr => by
        obtain ⟨q, hq, rfl⟩ := List.mem_map.mp hr
        rw [sel_len, hul]) (fun r hr => by
        obtain ⟨q, hq, rfl⟩ := List.mem_map.mp hr
        exact sel_bd (hb q hq)))
      have sqe := sq_sel V L[i]
      rw [hul] at sqe
      rw [sqe] at dt
      have ad : evA (FEn tbl (k + 1)) (.cons tabX .nil) [.ow (mt V), oi w, .ow (.fz (uv L[i])), .no, .no] = .ok ([.ow (mt (V.map (sel L[i])))], [.ow (mt V), oi w, .ow (.fz (uv L[i])), .no, .no]) := by
        show (argOf tabX (ev _ tabX _)).bind _ = _
        unfold tabX
        rw [tb]; rfl
      have cd := ev_call ad dt
      have tst : tstOf (ev (FEn tbl (k + 1)) (.cmp .ne (.call 10 (.cons tabX .nil)) (.c (.int 0))) [.ow (mt V), oi w, .ow (.fz (uv L[i])), .no, .no]) = .ok (!(dets V.length ((V.map vv).map (pk L[i])) [] == 0), [.ow (mt V), oi w, .ow (.fz (uv L[i])), .no, .no]) := by
        show tstOf ((ev _ (.call 10 (.cons tabX .nil)) _).bind _) = _
        rw [cd]; rfl
      by_cases h0 : dets V.length ((V.map vv).map (pk L[i])) [] = 0
      · have e0 : (!(dets V.length ((V.map vv).map (pk L[i])) [] == 0)) = false := by rw [h0]; rfl
        rw [e0] at tst
        refine .inl ⟨_, .inl (exes_one ((exe_iff_f tst).trans rfl)), ⟨_, rfl⟩, fun j hj hji => ?_⟩
        by_cases e : j = i
        · subst e; exact h0
        · exact hp j hj (by omega)
      · rw [nez h0] at tst
        exact .inr ⟨_, exes_rt ((exe_iff_t tst).trans (exes_rt rfl)), rfl, _, List.getElem_mem hi, h0⟩)
  rcases key with ⟨S', h1, ⟨y, h2⟩, h3⟩ | ⟨i, v, h1, h2, h3, h4⟩
  · rw [List.length_map] at h3
    subst h2
    refine ⟨false, congrArg fin ((exes_cons (exe_forr hI h1)).trans (exes_rt rfl)), .inr ⟨rfl, fun u hu => ?_⟩⟩
    rw [← hL] at hu
    obtain ⟨j, hj, rfl⟩ := List.getElem_of_mem hu
    exact h3 j hj hj
  · subst h3
    rw [hL] at h4
    exact ⟨true, congrArg fin (exes_rt (exe_forr_rt hI h2)), .inl ⟨rfl, h4⟩⟩
/-- independent rows -/
def Ind (w : Nat) (V : List (List Int)) : Prop := ∃ u ∈ cho w V.length, dets V.length ((V.map vv).map (pk u)) [] ≠ 0
theorem fe_first (k : Nat) (a b : Sl) : FEn tbl (k + 1) 15 [a, b] = fin (exes (FEn tbl k) b__law_first [a, b, .no]) := rfl
def firB : Ss := (.cons (.iff (.nott (.truth (.call 12 (.cons (.sl (.v 0) (.c .non) (.bin .add (.v 2) (.c (.int 1)))) (.cons (.v 1) .nil))))) (.cons (.retM 2) .nil) .nil) .nil)
theorem cut_take {α : Type} (l : List α) {n : Nat} (h : n ≤ l.length) : cut l none (some (n : Int)) = l.take n := by
  unfold cut sIxP
  have h0 : ¬ ((n : Int) < 0) := by omega
  simp only [if_neg h0, Int.toNat_natCast, Nat.min_eq_left h, List.drop_zero, Nat.sub_zero]
theorem cut_mt (V : List (List Int)) {n : Nat} (h : n ≤ V.length) : cutIt none (some (n : Int)) (mt V) = some (mt (V.take n)) := by
  show (allFz (cut _ none (some (n : Int)))).map _ = _
  rw [cut_take _ (by rw [List.length_map]; exact h), ← List.map_take]
  have e : (V.take n).map (fun r => SV.fz (pl r)) = ((V.take n).map pl).map SV.fz := by rw [List.map_map]; rfl
  rw [e, allFz_map]
  show some (SV.lst (((V.take n).map pl).map SV.fz)) = _
  rw [← e]
theorem first_ok (k : Nat) (V : List (List Int)) (w : Nat) (hw3 : w ≤ 3) (hV : V.length ≤ 5) (hw : ∀ r ∈ V, r.length = w) (hb : ∀ r ∈ V, ∀ x ∈ r, Bd 43 x) :
    ∃ v, FEn tbl (k + 3) 15 [.bw (mt V), oi w] = .ok (.fz v) ∧ ((v = .non ∧ ∀ i, i < V.length → Ind w (V.take (i + 1))) ∨ ∃ i : Nat, v = .int i ∧ i < V.length ∧ ¬ Ind w (V.take (i + 1)) ∧ ∀ j, j < i → Ind w (V.take (j + 1))) := by
  rw [fe_first]
  have hI : evI (FEn tbl (k + 2)) (.r1 (.bi .len (.cons (.v 0) .nil))) [.bw (mt V), oi w, .no] = .ok ((rangeL 0 V.length, []), [.bw (mt V), oi w, .no]) := by
    have k1 : r62 (V.length : Int) = true := r62_of2 (by omega)
    simp [evI, ev, evBs, rd, biop, lenV, asInt, SV.pv, k1]
  have key := loopF_ret (tg := .nm 2) (body := exes (FEn tbl (k + 2)) firB) (its := rangeL 0 V.length) (S := [.bw (mt V), oi w, .no])
    (fun i S => (∃ y, S = [.bw (mt V), oi w, y]) ∧ ∀ j, j < i → Ind w (V.take (j + 1))) (fun i v => v = iv (i : Nat) ∧ ¬ Ind w (V.take (i + 1)) ∧ ∀ j, j < i → Ind w (V.take (j + 1))) ⟨⟨.no, rfl⟩, fun _ h => absurd h (Nat.not_lt_zero _)⟩ (fun i S it hx ⟨⟨y, e1⟩, hp⟩ => by
      subst e1
      obtain ⟨e3, e4⟩ := rangeL_get hx
      subst e3
      rw [Int.zero_add]
      have hi : i < V.length := by omega
      refine ⟨[.bw (mt V), oi w, oi i], rfl, ?_⟩
      obtain ⟨b, c1, hbv⟩ := ind_ok k (V.take (i + 1)) w hw3 (by rw [List.length_take]; omega) (fun r hr => hw r (List.mem_of_mem_take hr)) (fun r hr => hb r (List.mem_of_mem_take hr))
      have a1 : evA (FEn tbl (k + 2)) (.cons (.sl (.v 0) (.c .non) (.bin .add (.v 2) (.c (.int 1)))) (.cons (.v 1) .nil)) [.bw (mt V), oi w, oi i] = .ok ([.ow (mt (V.take (i + 1))), oi w], [.bw (mt V), oi w, oi i]) := by
        have cm := cut_mt V (n := i + 1) (by omega)
        have e5 : ((i : Int) + 1) = ((i + 1 : Nat) : Int) := by push_cast; rfl
        rw [← e5] at cm
        simp only [evA, ev, rd, List.getElem?_cons_succ, List.getElem?_cons_zero, Res.bind_ok, optOf, isNonE, binop, addV, Res.noex_ok, SV.pv, asInt, cm, argOf, isPath, lend]
      have cc := ev_call a1 c1
      have tst : tstOf (ev (FEn tbl (k + 2)) (.nott (.truth (.call 12 (.cons (.sl (.v 0) (.c .non) (.bin .add (.v 2) (.c (.int 1)))) (.cons (.v 1) .nil))))) [.bw (mt V), oi w, oi i]) = .ok (!b, [.bw (mt V), oi w, oi i]) := by
        show tstOf ((tstOf ((ev _ (.call 12 (.cons (.sl (.v 0) (.c .non) (.bin .add (.v 2) (.c (.int 1)))) (.cons (.v 1) .nil))) _).bind _)).bind _) = _
        rw [cc]; rfl
      rcases hbv with ⟨hb1, h2⟩ | ⟨hb1, h2⟩
      · subst hb1
        refine .inl ⟨_, .inl (exes_one ((exe_iff_f tst).trans rfl)), ⟨_, rfl⟩, fun j hj => ?_⟩
        by_cases e : j = i
        · subst e; exact h2
        · exact hp j (by omega)
      · subst hb1
        exact .inr ⟨_, exes_rt ((exe_iff_t tst).trans (exes_rt rfl)), rfl, fun ⟨u, hu, hd⟩ => hd (h2 u hu), hp⟩)
  rcases key with ⟨S', h1, ⟨y, h2⟩, h3⟩ | ⟨i, v, h1, h2, h3, h4, h5⟩
  · rw [rangeL_len] at h3
    have en : ((V.length : Int) - 0).toNat = V.length := by omega
    rw [en] at h3
    subst h2
    exact ⟨.non, congrArg fin ((exes_cons (exe_forr hI h1)).trans (exes_rt rfl)), .inl ⟨rfl, h3⟩⟩
  · rw [rangeL_len] at h1
    subst h3
    exact ⟨.int i, congrArg fin (exes_rt (exe_forr_rt hI h2)), .inr ⟨i, rfl, by omega, h4, h5⟩⟩
end PL.T

namespace PL.T
open PL
theorem mt_fz (W : List (List Int)) : mt W = .lst ((W.map pl).map SV.fz) := by rw [List.map_map]; rfl
theorem cut_mtd (V : List (List Int)) {n : Nat} (h : n ≤ V.length) : cutIt (some (n : Int)) none (mt V) = some (mt (V.drop n)) := by
  show (allFz (cut _ (some (n : Int)) none)).map _ = _
  rw [cut_dropI (by rw [List.length_map]; exact h), ← List.map_drop]
  have e : (V.drop n).map (fun r => SV.fz (pl r)) = ((V.drop n).map pl).map SV.fz := by rw [List.map_map]; rfl
  rw [e, allFz_map]
  show some (SV.lst (((V.drop n).map pl).map SV.fz)) = _
  rw [← e]
theorem add_mt (A B : List (List Int)) (h : A.length + B.length ≤ szLine) : addV (mt A) (mt B) = .ok (mt (A ++ B)) := by
  rw [mt_fz A, mt_fz B, mt_fz (A ++ B)]
  show catL (allFz _) (allFz _) = _
  rw [allFz_map, allFz_map]
  show Res.guard (decide ((A.map pl).length + (B.map pl).length ≤ szLine)) (Res.ok (SV.lst (((A.map pl) ++ (B.map pl)).map SV.fz))) = _
  rw [decide_eq_true (by rw [List.length_map, List.length_map]; exact h), Res.guard_true, ← List.map_append]
def sgi (i : Nat) : Int := if i % 2 = 1 then -1 else 1
def but (V : List (List Int)) (i : Nat) : List (List Int) := V.take i ++ V.drop (i + 1)
theorem but_len {V : List (List Int)} {i : Nat} (h : i < V.length) : (but V i).length = V.length - 1 := by
  unfold but
  rw [List.length_append, List.length_take, List.length_drop]; omega
theorem but_mem {V : List (List Int)} {i : Nat} {r : List Int} (h : r ∈ but V i) : r ∈ V := by
  rcases List.mem_append.mp h with h | h
  · exact List.mem_of_mem_take h
  · exact List.mem_of_mem_drop h
/-- the minor without row i, with its sign -/
def mnr (V : List (List Int)) (u : List Nat) (i : Nat) : Int := sgi i * dets u.length (((but V i).map vv).map (pk u)) []
theorem fe_min (k : Nat) (a b : Sl) : FEn tbl (k + 1) 13 [a, b] = fin (exes (FEn tbl k) b__law_minors [a, b, .no, .no, .no, .no, .no, .no]) := rfl
def itM : It := .ex (.bin .add (.sl (.v 0) (.c .non) (.v 3)) (.sl (.v 0) (.bin .add (.v 3) (.c (.int 1))) (.c .non)))
def minB : Ss := (.cons (.asg 4 (.comp (.nm 6) itM .nil (.comp (.nm 7) (.ex (.v 1)) .nil (.idx (.v 6) (.v 7)) [7]) [6])) (.cons (.asg 5 (.call 10 (.cons (.v 4) .nil))) (.cons (.iff (.cmp .eq (.bin .mod (.v 3) (.c (.int 2))) (.c (.int 1))) (.cons (.asg 5 (.neg (.v 5))) .nil) .nil) (.cons (.app (.v 2) (.f 5)) .nil))))
abbrev Msv (V : List (List Int)) (u : List Nat) (acc : List Int) (x3 x4 x5 : Sl) : S := [.bw (mt V), .ow (.fz (uv u)), .ow (il acc), x3, x4, x5, .no, .no]
theorem minB_ok (k : Nat) (V : List (List Int)) (u : List Nat) (w : Nat) (acc : List Int) (hu : u.length = V.length - 1) (hc : ∀ c ∈ u, c < w) (hV : V.length ≤ 5) (hw : ∀ r ∈ V, r.length = w) (hb : ∀ r ∈ V, ∀ x ∈ r, Bd 43 x) (i : Nat) (hi : i < V.length) (hacc : acc.length ≤ 100) (x4 x5 : Sl) :
    ∃ y4, exes (FEn tbl (k + 1)) minB (Msv V u acc (oi i) x4 x5) = .nx (Msv V u (acc ++ [mnr V u i]) (oi i) y4 (oi (mnr V u i))) := by
  have e5 : ((i : Int) + 1) = ((i + 1 : Nat) : Int) := by push_cast; rfl
  have evM : ev (FEn tbl (k + 1)) (.bin .add (.sl (.v 0) (.c .non) (.v 3)) (.sl (.v 0) (.bin .add (.v 3) (.c (.int 1))) (.c .non))) (Msv V u acc (oi i) x4 x5) = .ok (mt (but V i), Msv V u acc (oi i) x4 x5) := by
    have c1 := cut_mt V (n := i) (by omega)
    have c2 := cut_mtd V (n := i + 1) (by omega)
    rw [← e5] at c2
    have ad := add_mt (V.take i) (V.drop (i + 1)) (by rw [List.length_take, List.length_drop]; unfold szLine; omega)
    simp only [ev, rd, List.getElem?_cons_succ, List.getElem?_cons_zero, Res.bind_ok, optOf, isNonE, SV.pv, asInt, c1, binop, addV, Res.noex_ok, c2]
    have ad : addV (mt (V.take i)) (mt (V.drop (i + 1))) = .ok (mt (but V i)) := ad
    first | (rw [ad]; rfl) | (show (addV (mt (V.take i)) (mt (V.drop (i + 1)))).noex.bind _ = _; rw [ad]; rfl)
  have hI : evI (FEn tbl (k + 1)) itM (Msv V u acc (oi i) x4 x5) = .ok (((but V i).map fun r => Itm.one (.ow (.fz (pl r))), []), Msv V u acc (oi i) x4 x5) := by
    show (srOf _ (ev _ _ _)).bind _ = _
    rw [evM]
    have e : srOf (.bin .add (.sl (.v 0) (.c .non) (.v 3)) (.sl (.v 0) (.bin .add (.v 3) (.c (.int 1))) (.c .non))) (Res.ok (mt (but V i), Msv V u acc (oi i) x4 x5)) = .ok (.val (.lst ((but V i).map pl)), Msv V u acc (oi i) x4 x5) := by
      show Res.ok (Sr.val (mt (but V i)).pv, Msv V u acc (oi i) x4 x5) = _
      rw [mt_pv]
    rw [e]
    show Res.ok (((((but V i).map pl).map fzI).map Itm.one, []), Msv V u acc (oi i) x4 x5) = _
    rw [List.map_map, List.map_map]
    rfl
  have bl := but_len hi
  have tb := tab_val (fe := FEn tbl (k + 1)) (Msv V u acc (oi i) x4 x5) itM 6 7 1 u (but V i) hI (by decide) (by decide) (by simp) (by simp) rfl (by omega) (by omega) (fun r hr c hcu => by rw [hw r (but_mem hr)]; exact hc c hcu)
  have p1 := exe_asg (i := 4) (e := .comp (.nm 6) itM .nil (.comp (.nm 7) (.ex (.v 1)) .nil (.idx (.v 6) (.v 7)) [7]) [6]) (S' := Msv V u acc (oi i) x4 x5) (v := mt ((but V i).map (sel u))) (by rw [tb]; rfl)
  have dt := (fe_det k _).trans (det_ok2 (fe := FEn tbl k) (.bw (mt ((but V i).map (sel u)))) ((but V i).map (sel u)) u.length (.inl rfl) (by rw [List.length_map, bl, hu]) (by omega) (fun r hr => by
    obtain ⟨q, hq, rfl⟩ := List.mem_map.mp hr
    rw [sel_len]) (fun r hr => by
    obtain ⟨q, hq, rfl⟩ := List.mem_map.mp hr
    exact sel_bd (hb q (but_mem hq))))
  rw [sq_sel] at dt
  have a2 : evA (FEn tbl (k + 1)) (.cons (.v 4) .nil) (Msv V u acc (oi i) (.ow (mt ((but V i).map (sel u)))) x5) = .ok ([.bw (mt ((but V i).map (sel u)))], Msv V u acc (oi i) (.ow (mt ((but V i).map (sel u)))) x5) := by
    simp [evA, ev, argOf, lend, rd, isPath]
  have c2 := ev_call a2 dt
  unfold mnr
  generalize dets u.length (((but V i).map vv).map (pk u)) [] = d at c2 ⊢
  generalize (Sl.ow (mt ((but V i).map (sel u)))) = y4 at p1 c2 ⊢
  have p2 := exe_asg (i := 5) (e := .call 10 (.cons (.v 4) .nil)) (S' := Msv V u acc (oi i) y4 x5) (v := iv d) (by rw [c2]; rfl)
  have p3 : exe (FEn tbl (k + 1)) (.iff (.cmp .eq (.bin .mod (.v 3) (.c (.int 2))) (.c (.int 1))) (.cons (.asg 5 (.neg (.v 5))) .nil) .nil) (Msv V u acc (oi i) y4 (oi d)) = .nx (Msv V u acc (oi i) y4 (oi (sgi i * d))) := by
    have z2 : ((2 : Int) != 0) = true := rfl
    have tst : tstOf (ev (FEn tbl (k + 1)) (.cmp .eq (.bin .mod (.v 3) (.c (.int 2))) (.c (.int 1))) (Msv V u acc (oi i) y4 (oi d))) = .ok ((i : Int).fmod 2 == 1, Msv V u acc (oi i) y4 (oi d)) := by
      simp only [ev, tstOf, rd, List.getElem?_cons_succ, List.getElem?_cons_zero, Res.bind_ok, binop, modV, z2, Res.guard_true, Res.noex_ok, SV.pv, cmp_eq_int]
    have fm : (i : Int).fmod 2 = ((i % 2 : Nat) : Int) := by rw [Int.fmod_eq_emod_of_nonneg _ (by omega)]; rfl
    unfold sgi
    by_cases h : i % 2 = 1
    · have e : ((i : Int).fmod 2 == 1) = true := by rw [fm, h]; rfl
      rw [e] at tst
      rw [if_pos h]
      refine (exe_iff_t tst).trans (exes_one ?_)
      refine exe_asg (S' := Msv V u acc (oi i) y4 (oi d)) (v := iv (-1 * d)) ?_
      have : -1 * d = -d := by omega
      rw [this]
      simp [ev, rd, valOf, isPath]
    · have e : ((i : Int).fmod 2 == 1) = false := by rw [fm]; simp; omega
      rw [e] at tst
      rw [if_neg h, Int.one_mul]
      exact (exe_iff_f tst).trans rfl
  generalize sgi i * d = m at p3 ⊢
  have p4 := exe_app1 (fe := FEn tbl (k + 1)) (j := 2) (e := .f 5) (S := Msv V u acc (oi i) y4 (oi m)) (S' := Msv V u acc (oi i) y4 (oi m)) (l0 := acc.map iv) (l := acc.map iv) (x := iv m) rfl (by simp [ev, elemOf, valOf, isPath, isKeep, SV.pv]) rfl (by rw [List.length_map]; unfold szLine; omega)
  refine ⟨y4, (exes_cons p1).trans ((exes_cons p2).trans ((exes_cons p3).trans (exes_one (p4.trans ?_))))⟩
  show Out.nx (Msv V u acc _ _ _ |>.set 2 _) = _
  unfold Msv il
  rw [List.map_append]; rfl
theorem minors_ok (k : Nat) (V : List (List Int)) (u : List Nat) (w : Nat) (hu : u.length = V.length - 1) (hc : ∀ c ∈ u, c < w) (hV : V.length ≤ 5) (hw : ∀ r ∈ V, r.length = w) (hb : ∀ r ∈ V, ∀ x ∈ r, Bd 43 x) :
    FEn tbl (k + 2) 13 [.bw (mt V), .ow (.fz (uv u))] = .ok (il ((List.range V.length).map (mnr V u))) := by
  rw [fe_min]
  have q1 : exe (FEn tbl (k + 1)) (.asg 2 (.lst .nil)) [.bw (mt V), .ow (.fz (uv u)), .no, .no, .no, .no, .no, .no] = .nx (Msv V u [] .no .no .no) := by
    refine exe_asg (S' := [.bw (mt V), .ow (.fz (uv u)), .no, .no, .no, .no, .no, .no]) (v := il []) ?_
    simp [ev, evs, valOf, isPath, il]
  have hI : evI (FEn tbl (k + 1)) (.r1 (.bi .len (.cons (.v 0) .nil))) (Msv V u [] .no .no .no) = .ok ((rangeL 0 V.length, []), Msv V u [] .no .no .no) := by
    have k1 : r62 (V.length : Int) = true := r62_of2 (by omega)
    simp [evI, ev, evBs, rd, biop, lenV, asInt, SV.pv, k1]
  obtain ⟨S', h1, x3, x4, x5, h2⟩ := loopF_rel (tg := .nm 3) (body := exes (FEn tbl (k + 1)) minB) (its := rangeL 0 V.length) (S := Msv V u [] .no .no .no)
    (fun i S => ∃ x3 x4 x5, S = Msv V u ((List.range i).map (mnr V u)) x3 x4 x5) ⟨.no, .no, .no, rfl⟩ (fun i S x hx ⟨x3, x4, x5, e1⟩ => by
      subst e1
      obtain ⟨e4, e5⟩ := rangeL_get hx
      subst e4
      rw [Int.zero_add]
      have hi : i < V.length := by omega
      obtain ⟨y4, q⟩ := minB_ok k V u w ((List.range i).map (mnr V u)) hu hc hV hw hb i hi (by rw [List.length_map, List.length_range]; omega) x4 x5
      refine ⟨Msv V u ((List.range i).map (mnr V u)) (oi i) x4 x5, rfl, _, .inl q, oi i, y4, oi (mnr V u i), ?_⟩
      rw [List.range_succ, List.map_append]; rfl)
  rw [rangeL_len] at h2
  have en : ((V.length : Int) - 0).toNat = V.length := by omega
  rw [en] at h2
  subst h2
  exact congrArg fin ((exes_cons q1).trans ((exes_cons (exe_forr hI h1)).trans (exes_rt rfl)))
/-- the minors are small -/
theorem mnr_bd (V : List (List Int)) (u : List Nat) (i : Nat) (hu : u.length ≤ 4) (hl : (but V i).length ≤ 4) (hb : ∀ r ∈ V, ∀ x ∈ r, Bd 43 x) : Bd 800 (mnr V u i) := by
  have h1 := dets_abs u.length (2 ^ 43) (((but V i).map vv).map (pk u)) [] fun r hr k hk => by
    obtain ⟨q, hq, rfl⟩ := List.mem_map.mp hr
    obtain ⟨p, hp, rfl⟩ := List.mem_map.mp hq
    exact Nat.le_of_lt (bd_at (hb p (but_mem hp)) _)
  rw [List.length_map, List.length_map] at h1
  have h2 : u.length * 2 ^ 43 ≤ 2 ^ 46 := by
    have : u.length * 2 ^ 43 ≤ 8 * 2 ^ 43 := Nat.mul_le_mul_right _ (by omega)
    have e : 8 * 2 ^ 43 = 2 ^ 46 := by decide
    omega
  have h3 : (u.length * 2 ^ 43) ^ (but V i).length ≤ (2 ^ 46) ^ (but V i).length := Nat.pow_le_pow_left h2 _
  have h4 : ((2 : Nat) ^ 46) ^ (but V i).length ≤ (2 ^ 46) ^ 4 := Nat.pow_le_pow_right (by decide) hl
  have h5 : ((2 : Nat) ^ 46) ^ 4 = 2 ^ 184 := by rw [← Nat.pow_mul]
  have h6 : (2 : Nat) ^ 184 < 2 ^ 800 := Nat.pow_lt_pow_right (by decide) (by decide)
  have hs : (sgi i).natAbs = 1 := by unfold sgi; split <;> rfl
  unfold mnr Bd
  rw [Int.natAbs_mul, hs, Nat.one_mul]
  exact Nat.lt_of_le_of_lt (Nat.le_trans h1 (Nat.le_trans h3 (Nat.le_trans h4 (Nat.le_of_eq h5)))) h6
end PL.T

namespace PL.T
open PL
abbrev Dus (V : List (List Int)) (w : Int) (u : Sl) (x3 x4 x5 x6 x7 x8 x9 : Sl) : S := [.bw (mt V), oi w, u, x3, x4, x5, x6, x7, x8, x9]
theorem noBw10 (t : Nat → Bool) (a0 a1 a2 a3 a4 a5 a6 a7 a8 a9 : Sl) : noBw t [a0, a1, a2, a3, a4, a5, a6, a7, a8, a9] = [noBw1 t 0 a0, noBw1 t 1 a1, noBw1 t 2 a2, noBw1 t 3 a3, noBw1 t 4 a4, noBw1 t 5 a5, noBw1 t 6 a6, noBw1 t 7 a7, noBw1 t 8 a8, noBw1 t 9 a9] := rfl
theorem il_it {fe : FE} (S : PL.S) (i : Nat) (m : List Int) (h : S[i]? = some (.ow (il m))) : evI fe (.ex (.v i)) S = .ok ((m.map fun a => Itm.one (oi a), [(i, il m)]), S) := by
  have : rd S i = some (il m) := by unfold rd; rw [h]
  simp only [evI, ev, this, Res.bind_ok, srOf, srcAt, srcV, h, List.map_map]
  rfl
def gcB : Ss := (.cons (.asg 4 (.call 9 (.cons (.v 4) (.cons (.v 5) .nil)))) .nil)
theorem shared_ok (k : Nat) (V : List (List Int)) (w : Int) (u x5 x6 x7 x8 x9 : Sl) (m : List Int) (hb : ∀ x ∈ m, Bd 800 x) (hu : ∀ v, u ≠ .bw v) :
    ∃ y5 y6 y7 y8 y9, exe (FEn tbl (k + 1)) (.forr (.nm 5) (.ex (.v 3)) gcB) (Dus V w u (.ow (il m)) (oi 0) x5 x6 x7 x8 x9) = .nx (Dus V w u (.ow (il m)) (oi (gcds m 0)) y5 y6 y7 y8 y9) := by
  obtain ⟨S', h1, y5, h2⟩ := loopF_rel (tg := .nm 5) (body := exes (FEn tbl (k + 1)) gcB) (its := m.map fun a => Itm.one (oi a)) (S := Dus V w u (.bw (il m)) (oi 0) x5 x6 x7 x8 x9)
    (fun i S => ∃ y5, S = Dus V w u (.bw (il m)) (oi (gcds (m.take i) 0)) y5 x6 x7 x8 x9) ⟨x5, by rw [List.take_zero]; rfl⟩ (fun i S x hx ⟨y5, e1⟩ => by
      subst e1
      have hi := (List.getElem?_eq_some_iff.mp hx).1
      have hx2 := (List.getElem?_eq_some_iff.mp hx).2
      rw [List.length_map] at hi
      rw [List.getElem_map] at hx2
      refine ⟨Dus V w u (.bw (il m)) (oi (gcds (m.take i) 0)) (oi m[i]) x6 x7 x8 x9, by rw [← hx2]; rfl, Dus V w u (.bw (il m)) (oi (gcds (m.take (i + 1)) 0)) (oi m[i]) x6 x7 x8 x9, .inl (exes_one ?_), oi m[i], rfl⟩
      have q : FEn tbl (k + 1) 9 [oi (gcds (m.take i) 0), oi m[i]] = .ok (iv (Nat.gcd (gcds (m.take i) 0).natAbs m[i].natAbs : Nat)) := gcd_ok (fe := FEn tbl k) _ _ ((hb _ (List.getElem_mem hi)).mono (by decide))
      have a : evA (FEn tbl (k + 1)) (.cons (.v 4) (.cons (.v 5) .nil)) (Dus V w u (.bw (il m)) (oi (gcds (m.take i) 0)) (oi m[i]) x6 x7 x8 x9) = .ok ([oi (gcds (m.take i) 0), oi m[i]], Dus V w u (.bw (il m)) (oi (gcds (m.take i) 0)) (oi m[i]) x6 x7 x8 x9) := by
        simp [evA, ev, argOf, lend, rd, isPath]
      have c := ev_call a q
      rw [← gcds_take m 0 i hi] at c
      refine exe_asg (S' := Dus V w u (.bw (il m)) (oi (gcds (m.take i) 0)) (oi m[i]) x6 x7 x8 x9) (v := iv (gcds (m.take (i + 1)) 0)) ?_
      rw [c]; rfl)
  rw [List.length_map, List.take_length] at h2
  subst h2
  have q := exe_forr1 (fe := FEn tbl (k + 1)) (tg := .nm 5) (it := .ex (.v 3)) (b := gcB) (S := Dus V w u (.ow (il m)) (oi 0) x5 x6 x7 x8 x9) (i := 3) (s := il m) (il_it _ 3 m rfl) rfl h1
  generalize ht : (fun i => inTg i (.nm 5) || asgs i gcB) = t at q
  have f0 : t 0 = false := by rw [← ht]; rfl
  rw [noBw10, noBw1_f f0] at q
  have fu : noBw1 t 2 u = u := by cases u <;> first | rfl | (rename_i v; exact absurd rfl (hu v))
  refine ⟨noBw1 t 5 y5, noBw1 t 6 x6, noBw1 t 7 x7, noBw1 t 8 x8, noBw1 t 9 x9, q.trans ?_⟩
  rw [fu]; rfl
def zpI (m : List Int) (V : List (List Int)) : List Itm := List.zipWith Itm.two (m.map oi) (V.map fun r => Sl.ow (.fz (pl r)))
theorem zpI_len {m : List Int} {V : List (List Int)} (h : m.length = V.length) : (zpI m V).length = V.length := by
  unfold zpI; rw [List.length_zipWith, List.length_map, List.length_map, h, Nat.min_self]
theorem zpI_get {m : List Int} {V : List (List Int)} {i : Nat} {x : Itm} (h : (zpI m V)[i]? = some x) : ∃ (h1 : i < m.length) (h2 : i < V.length), x = .two (oi m[i]) (.ow (.fz (pl V[i]))) := by
  obtain ⟨h1, h2⟩ := List.getElem?_eq_some_iff.mp h
  unfold zpI at h1
  rw [List.length_zipWith, List.length_map, List.length_map] at h1
  refine ⟨by omega, by omega, ?_⟩
  rw [← h2]
  unfold zpI
  rw [List.getElem_zipWith, List.getElem_map, List.getElem_map]
theorem zp_it {fe : FE} (S : PL.S) (V : List (List Int)) (m : List Int) (h0 : S[0]? = some (.bw (mt V))) (h3 : S[3]? = some (.ow (il m))) : evI fe (.zip (.v 3) (.v 0)) S = .ok ((zpI m V, [(3, il m)]), S) := by
  have r0 : rd S 0 = some (mt V) := by unfold rd; rw [h0]
  have r3 : rd S 3 = some (il m) := by unfold rd; rw [h3]
  have e1 : (m.map iv).map lend = m.map oi := by rw [List.map_map]; rfl
  have e2 : (V.map fun r => SV.fz (pl r)).map lend = V.map fun r => Sl.ow (.fz (pl r)) := by rw [List.map_map]; rfl
  have g : ((0 : Nat) != 2 && (0 : Nat) != 2) = true := rfl
  simp only [evI, ev, r0, r3, Res.bind_ok, srOf, srcAt, srcV, h0, h3, e1, e2, g, Res.guard_true, List.append_nil]
  rfl
def tt (m : List Int) (V : List (List Int)) (k j : Nat) : Int := sm j fun q => m.getD q 0 * at2 V q k
def tB : Ss := (.cons (.asg 8 (.bin .add (.v 8) (.bin .mul (.v 5) (.idx (.v 9) (.v 6))))) .nil)
theorem tot_loop {fe : FE} (V : List (List Int)) (w : Int) (u x4 x5 x7 x9 : Sl) (m : List Int) (c W : Nat) (hm : m.length = V.length) (hw : ∀ r ∈ V, r.length = W) (hc : c < W) (hb : ∀ x ∈ m, Bd 800 x) (hV : ∀ r ∈ V, ∀ x ∈ r, Bd 43 x) (hu : ∀ v, u ≠ .bw v) (hx4 : ∀ v, x4 ≠ .bw v) :
    ∃ y5 y7 y9, exe fe (.forr (.tp [5, 9]) (.zip (.v 3) (.v 0)) tB) (Dus V w u (.ow (il m)) x4 x5 (oi c) x7 (oi 0) x9) = .nx (Dus V w u (.ow (il m)) x4 y5 (oi c) y7 (oi (tt m V c V.length)) y9) := by
  obtain ⟨S', h1, y5, y9, h2⟩ := loopF_rel (tg := .tp [5, 9]) (body := exes fe tB) (its := zpI m V) (S := Dus V w u (.bw (il m)) x4 x5 (oi c) x7 (oi 0) x9)
    (fun i S => ∃ y5 y9, S = Dus V w u (.bw (il m)) x4 y5 (oi c) x7 (oi (tt m V c i)) y9) ⟨x5, x9, rfl⟩ (fun i S x hx ⟨y5, y9, e1⟩ => by
      subst e1
      obtain ⟨i1, i2, e2⟩ := zpI_get hx
      subst e2
      refine ⟨Dus V w u (.bw (il m)) x4 (oi m[i]) (oi c) x7 (oi (tt m V c i)) (.ow (.fz (pl V[i]))), rfl, Dus V w u (.bw (il m)) x4 (oi m[i]) (oi c) x7 (oi (tt m V c (i + 1))) (.ow (.fz (pl V[i]))), .inl (exes_one ?_), oi m[i], .ow (.fz (pl V[i])), rfl⟩
      have hcl : c < V[i].length := by rw [hw _ (List.getElem_mem i2)]; exact hc
      have g := atP_pl (l := V[i]) (i := (c : Int)) rfl hcl
      have mo : mulOk m[i] V[i][c] = true := (hb _ (List.getElem_mem i1)).mulOk (hV _ (List.getElem_mem i2) _ (List.getElem_mem hcl)) (by decide)
      have es : tt m V c (i + 1) = tt m V c i + m[i] * V[i][c] := by
        unfold tt
        rw [sm_succ, getD_at i1, at2_eq i2 hcl]
      rw [es]
      refine exe_asg (S' := Dus V w u (.bw (il m)) x4 (oi m[i]) (oi c) x7 (oi (tt m V c i)) (.ow (.fz (pl V[i])))) (v := iv (tt m V c i + m[i] * V[i][c])) ?_
      simp only [ev, rd, List.getElem?_cons_succ, List.getElem?_cons_zero, Res.bind_ok, getIt, getN, g, Option.map_some, binop, mulV, addV, mo, Res.guard_true, Res.noex_ok, valOf, isPath])
  rw [zpI_len hm] at h2
  subst h2
  have q := exe_forr1 (fe := fe) (tg := .tp [5, 9]) (it := .zip (.v 3) (.v 0)) (b := tB) (S := Dus V w u (.ow (il m)) x4 x5 (oi c) x7 (oi 0) x9) (i := 3) (s := il m) (zp_it _ V m rfl rfl) rfl h1
  generalize ht : (fun i => inTg i (.tp [5, 9]) || asgs i tB) = t at q
  have f0 : t 0 = false := by rw [← ht]; rfl
  rw [noBw10, noBw1_f f0] at q
  have fu : noBw1 t 2 u = u := by cases u <;> first | rfl | (rename_i v; exact absurd rfl (hu v))
  have f4 : noBw1 t 4 x4 = x4 := by cases x4 <;> first | rfl | (rename_i v; exact absurd rfl (hx4 v))
  refine ⟨noBw1 t 5 y5, noBw1 t 7 x7, noBw1 t 9 y9, q.trans ?_⟩
  rw [fu, f4]; rfl
def cB : Ss := (.cons (.asg 8 (.c (.int 0))) (.cons (.forr (.tp [5, 9]) (.zip (.v 3) (.v 0)) tB) (.cons (.iff (.cmp .ne (.v 8) (.c (.int 0))) (.cons (.ret (.c .non)) .nil) .nil) .nil)))
/-- all totals -/
theorem tots_ok {fe : FE} (V : List (List Int)) (w : Nat) (u x4 x5 x6 x7 x8 x9 : Sl) (m : List Int) (hz : w ≤ 1000) (hm : m.length = V.length) (hw : ∀ r ∈ V, r.length = w) (hb : ∀ x ∈ m, Bd 800 x) (hV : ∀ r ∈ V, ∀ x ∈ r, Bd 43 x) (hu : ∀ v, u ≠ .bw v) (hx4 : ∀ v, x4 ≠ .bw v) :
    (exe fe (.forr (.nm 6) (.r1 (.v 1)) cB) (Dus V w u (.ow (il m)) x4 x5 x6 x7 x8 x9) = .rt (.fz .non) ∧ ∃ c, c < w ∧ tt m V c V.length ≠ 0) ∨
    ∃ y5 y6 y7 y8 y9, exe fe (.forr (.nm 6) (.r1 (.v 1)) cB) (Dus V w u (.ow (il m)) x4 x5 x6 x7 x8 x9) = .nx (Dus V w u (.ow (il m)) x4 y5 y6 y7 y8 y9) ∧ ∀ c, c < w → tt m V c V.length = 0 := by
  have hI : evI fe (.r1 (.v 1)) (Dus V w u (.ow (il m)) x4 x5 x6 x7 x8 x9) = .ok ((rangeL 0 w, []), Dus V w u (.ow (il m)) x4 x5 x6 x7 x8 x9) := by
    have k1 : r62 (w : Int) = true := r62_of2 (by omega)
    simp [evI, ev, rd, asInt, SV.pv, k1]
  have key := loopF_ret (tg := .nm 6) (body := exes fe cB) (its := rangeL 0 w) (S := Dus V w u (.ow (il m)) x4 x5 x6 x7 x8 x9)
    (fun i S => (∃ y5 y6 y7 y8 y9, S = Dus V w u (.ow (il m)) x4 y5 y6 y7 y8 y9) ∧ ∀ c, c < i → tt m V c V.length = 0) (fun i v => v = .fz .non ∧ ∃ c, c < w ∧ tt m V c V.length ≠ 0) ⟨⟨x5, x6, x7, x8, x9, rfl⟩, fun _ h => absurd h (Nat.not_lt_zero _)⟩ (fun i S it hx ⟨⟨y5, y6, y7, y8, y9, e1⟩, hp⟩ => by
      subst e1
      obtain ⟨e3, e4⟩ := rangeL_get hx
      subst e3
      rw [Int.zero_add]
      have hi : i < w := by omega
      refine ⟨Dus V w u (.ow (il m)) x4 y5 (oi i) y7 y8 y9, rfl, ?_⟩
      have q1 : exe fe (.asg 8 (.c (.int 0))) (Dus V w u (.ow (il m)) x4 y5 (oi i) y7 y8 y9) = .nx (Dus V w u (.ow (il m)) x4 y5 (oi i) y7 (oi 0) y9) := by
        refine exe_asg (S' := Dus V w u (.ow (il m)) x4 y5 (oi i) y7 y8 y9) (v := iv 0) ?_
        simp [ev, valOf, isPath]
      obtain ⟨z5, z7, z9, q2⟩ := tot_loop (fe := fe) V w u x4 y5 y7 y9 m i w hm hw hi hb hV hu hx4
      have tst : tstOf (ev fe (.cmp .ne (.v 8) (.c (.int 0))) (Dus V w u (.ow (il m)) x4 z5 (oi i) z7 (oi (tt m V i V.length)) z9)) = .ok (!(tt m V i V.length == 0), Dus V w u (.ow (il m)) x4 z5 (oi i) z7 (oi (tt m V i V.length)) z9) := by
        simp only [ev, tstOf, rd, List.getElem?_cons_succ, List.getElem?_cons_zero, Res.bind_ok, SV.pv, cmp_ne_int, Res.noex_ok]
      by_cases h0 : tt m V i V.length = 0
      · have e0 : (!(tt m V i V.length == 0)) = false := by rw [h0]; rfl
        rw [e0] at tst
        refine .inl ⟨_, .inl ((exes_cons q1).trans ((exes_cons q2).trans (exes_one ((exe_iff_f tst).trans rfl)))), ⟨_, _, _, _, _, rfl⟩, fun c hc => ?_⟩
        by_cases e : c = i
        · subst e; exact h0
        · exact hp c (by omega)
      · rw [nez h0] at tst
        exact .inr ⟨_, (exes_cons q1).trans ((exes_cons q2).trans (exes_rt ((exe_iff_t tst).trans (exes_rt rfl)))), rfl, i, hi, h0⟩)
  rcases key with ⟨S', h1, ⟨y5, y6, y7, y8, y9, h2⟩, h3⟩ | ⟨i, v, h1, h2, h3, h4⟩
  · rw [rangeL_len] at h3
    have en : ((w : Int) - 0).toNat = w := by omega
    rw [en] at h3
    subst h2
    exact .inr ⟨y5, y6, y7, y8, y9, exe_forr hI h1, h3⟩
  · subst h3
    exact .inl ⟨exe_forr_rt hI h2, h4⟩
end PL.T

namespace PL.T
open PL
def bl (l : List Bool) : List PV := l.map PV.bl
def sgns (m : List Int) : List Bool := (m.filter fun a => !(a == 0)).map fun a => decide (0 < a)
def gbl : Itm → SV
  | .one (.ow (.fz (.int a))) => .fz (.bl (decide (0 < a)))
  | _ => iv 0
def pnz : Itm → Bool
  | .one (.ow (.fz (.int a))) => !(a == 0)
  | _ => false
theorem shp_bl (l : List Bool) : shp (.lst (bl l)) = true := by
  have h1 : ∀ l : List Bool, plains (bl l) = true := fun l => by
    induction l with
    | nil => rfl
    | cons b l ih => show (true && plains (bl l)) = true; rw [ih]; rfl
  have h2 : ∀ l : List Bool, pdeps (bl l) = 0 := fun l => by
    induction l with
    | nil => rfl
    | cons b l ih => show max 0 (pdeps (bl l)) = 0; rw [ih]; rfl
  unfold shp
  rw [Bool.and_eq_true]
  refine ⟨h1 l, decide_eq_true ?_⟩
  show pdeps (bl l) + 1 ≤ 64
  rw [h2]; decide
theorem pin_bl (b : Bool) : ∀ l : List Bool, pin (.bl b) (bl l) = l.contains b
  | [] => rfl
  | a :: l => by
    show ((a == b) || pin (.bl b) (bl l)) = _
    rw [pin_bl b l, List.contains_cons]
    congr 1
    cases a <;> cases b <;> rfl
theorem isin_bl (b : Bool) (l : List Bool) : cmpop .isin (.bl b) (.lst (bl l)) = .ok (.bl (l.contains b)) := by
  show Res.guard (shp (.bl b) && shp (.lst (bl l))) (Res.ok (PV.bl (pin (.bl b) (bl l)))) = _
  rw [shp_bl, pin_bl]; rfl
def bsv (l : List Bool) : SV := .lst (l.map fun b => SV.fz (.bl b))
theorem bsv_pv (l : List Bool) : (bsv l).pv = .lst (bl l) := by
  have := pvs_fz (bl l)
  unfold bl at this ⊢
  rw [List.map_map] at this
  show PV.lst (SV.pvs _) = _
  exact congrArg PV.lst this
variable {fe : FE}
theorem sgns_ok (V : List (List Int)) (w : Int) (u x4 x5 x6 x7 x8 x9 : Sl) (m : List Int) (hz : m.length ≤ 1000) : ev fe (.comp (.nm 5) (.ex (.v 3)) (.cons (.cmp .ne (.v 5) (.c (.int 0))) .nil) (.cmp .gt (.v 5) (.c (.int 0))) [5]) (Dus V w u (.ow (il m)) x4 x5 x6 x7 x8 x9) = .ok (bsv (sgns m), Dus V w u (.ow (il m)) x4 x5 x6 x7 x8 x9) := by
  have hc := ev_comp1F (fe := fe) (tg := .nm 5) (it := .ex (.v 3)) (cnd := .cons (.cmp .ne (.v 5) (.c (.int 0))) .nil) (el := .cmp .gt (.v 5) (.c (.int 0))) (ws := [5]) (S := Dus V w u (.ow (il m)) x4 x5 x6 x7 x8 x9) (its := m.map fun a => Itm.one (oi a))
    (p := pnz) (g := gbl) (i := 3) (s := il m) (il_it _ 3 m rfl) rfl (by rw [List.length_map]; unfold szLine; omega) (fun x hx => by
      obtain ⟨a, _, rfl⟩ := List.mem_map.mp hx
      have off : Off [5] (Dus V w u (.bw (il m)) x4 x5 x6 x7 x8 x9) (Dus V w u (.bw (il m)) x4 (oi a) x6 x7 x8 x9) := by
        refine ⟨rfl, fun j hj => ?_⟩
        have hj : j ≠ 5 := by simpa using hj
        rcases j with _ | _ | _ | _ | _ | _ | _ | _ | _ | _ | j <;> first | rfl | exact absurd rfl hj
      refine ⟨Dus V w u (.bw (il m)) x4 (oi a) x6 x7 x8 x9, Dus V w u (.bw (il m)) x4 (oi a) x6 x7 x8 x9, rfl, ?_, off, fun _ => ?_, off⟩
      · simp only [evC, ev, tstC, tstOf, rd, List.getElem?_cons_succ, List.getElem?_cons_zero, Res.bind_ok, SV.pv, cmp_ne_int, Res.noex_ok, pnz]
      · simp only [ev, rd, List.getElem?_cons_succ, List.getElem?_cons_zero, Res.bind_ok, SV.pv, cmpop, Res.noex_ok, elemOf, valOf, isPath, isKeep, gbl])
  have e : ((m.map fun a => Itm.one (oi a)).filter pnz).map gbl = (sgns m).map fun b => SV.fz (.bl b) := by
    unfold sgns
    rw [List.filter_map, List.map_map, List.map_map]
    rfl
  rw [e] at hc
  exact hc
/-- one sign -/
def good (m : List Int) : Prop := (∀ x ∈ m, 0 < x) ∨ ∀ x ∈ m, x < 0
def c3 (m : List Int) : Bool := decide (((sgns m).length : Int) < (m.length : Int)) || ((sgns m).contains true && (sgns m).contains false)
theorem sgns_mem {m : List Int} {b : Bool} : b ∈ sgns m ↔ ∃ x ∈ m, x ≠ 0 ∧ decide (0 < x) = b := by
  unfold sgns
  rw [List.mem_map]
  constructor
  · rintro ⟨x, hx, e⟩
    rw [List.mem_filter] at hx
    exact ⟨x, hx.1, by simpa using hx.2, e⟩
  · rintro ⟨x, hx, h0, e⟩
    exact ⟨x, List.mem_filter.mpr ⟨hx, by simp [h0]⟩, e⟩
theorem c3_good (m : List Int) : c3 m = false ↔ good m := by
  have hlen : (sgns m).length ≤ m.length := by unfold sgns; rw [List.length_map]; exact List.length_filter_le _ _
  have hz : (sgns m).length = m.length ↔ ∀ x ∈ m, x ≠ 0 := by
    unfold sgns
    rw [List.length_map, List.length_filter_eq_length_iff]
    constructor
    · intro h x hx; have := h x hx; simpa using this
    · intro h x hx; have := h x hx; simpa using this
  unfold c3
  rw [Bool.or_eq_false_iff, Bool.and_eq_false_iff, decide_eq_false_iff_not]
  have t1 : (sgns m).contains true = false ↔ ∀ x ∈ m, x ≠ 0 → ¬ 0 < x := by
    rw [← Bool.not_eq_true, List.contains_iff_mem, sgns_mem]
    constructor
    · intro h x hx h0 hp; exact h ⟨x, hx, h0, decide_eq_true hp⟩
    · rintro h ⟨x, hx, h0, e⟩; exact h x hx h0 (of_decide_eq_true e)
  have t2 : (sgns m).contains false = false ↔ ∀ x ∈ m, x ≠ 0 → 0 < x := by
    rw [← Bool.not_eq_true, List.contains_iff_mem, sgns_mem]
    constructor
    · intro h x hx h0; exact Classical.byContradiction fun hp => h ⟨x, hx, h0, decide_eq_false hp⟩
    · rintro h ⟨x, hx, h0, e⟩; exact of_decide_eq_false e (h x hx h0)
  rw [t1, t2]
  constructor
  · rintro ⟨h1, h2⟩
    have nz := hz.mp (by omega)
    rcases h2 with h2 | h2
    · exact .inr fun x hx => by have := h2 x hx (nz x hx); have := nz x hx; omega
    · exact .inl fun x hx => h2 x hx (nz x hx)
  · rintro (h | h)
    · exact ⟨by rw [hz.mpr fun x hx => by have := h x hx; omega]; omega, .inr fun x hx _ => h x hx⟩
    · exact ⟨by rw [hz.mpr fun x hx => by have := h x hx; omega]; omega, .inl fun x hx _ => by have := h x hx; omega⟩
def aS : Ss := (.cons (.forr (.nm 6) (.r1 (.v 1)) cB) (.cons (.asg 7 (.comp (.nm 5) (.ex (.v 3)) (.cons (.cmp .ne (.v 5) (.c (.int 0))) .nil) (.cmp .gt (.v 5) (.c (.int 0))) [5])) (.cons (.iff (.orr (.cmp .lt (.bi .len (.cons (.v 7) .nil)) (.bi .len (.cons (.v 3) .nil))) (.andd (.cmp .isin (.c (.bl true)) (.v 7)) (.cmp .isin (.c (.bl false)) (.v 7)))) (.cons (.ret (.c .non)) .nil) .nil) (.cons (.ret (.bi .tuple (.cons (.comp (.nm 5) (.ex (.v 3)) .nil (.bin .fdiv (.bi .abs (.cons (.v 5) .nil)) (.v 4)) [5]) .nil))) .nil))))
/-- what the law tells of the weights m -/
def Oc (V : List (List Int)) (w : Nat) (m : List Int) (v : PV) : Prop :=
  ((∃ c, c < w ∧ tt m V c V.length ≠ 0) ∧ v = .non) ∨ ((∀ c, c < w → tt m V c V.length = 0) ∧ ((good m ∧ v = tpl (m.map fun x => (x.natAbs : Int).fdiv (gcds m 0))) ∨ (¬ good m ∧ v = .non)))
theorem aS_ok (V : List (List Int)) (w : Nat) (u x5 x6 x7 x8 x9 : Sl) (m : List Int) (hz : w ≤ 1000) (hV5 : V.length ≤ 5) (hm : m.length = V.length) (hw : ∀ r ∈ V, r.length = w) (hb : ∀ x ∈ m, Bd 800 x) (hV : ∀ r ∈ V, ∀ x ∈ r, Bd 43 x) (hu : ∀ v, u ≠ .bw v) (hg : gcds m 0 ≠ 0) :
    ∃ v, exes fe aS (Dus V w u (.ow (il m)) (oi (gcds m 0)) x5 x6 x7 x8 x9) = .rt (.fz v) ∧ Oc V w m v := by
  rcases tots_ok (fe := fe) V w u (oi (gcds m 0)) x5 x6 x7 x8 x9 m hz hm hw hb hV hu (fun v h => nomatch h) with ⟨h1, h2⟩ | ⟨y5, y6, y7, y8, y9, h1, h2⟩
  · exact ⟨.non, exes_rt h1, .inl ⟨h2, rfl⟩⟩
  · have so := sgns_ok (fe := fe) V w u (oi (gcds m 0)) y5 y6 y7 y8 y9 m (by omega)
    have p2 := exe_asg (i := 7) (e := .comp (.nm 5) (.ex (.v 3)) (.cons (.cmp .ne (.v 5) (.c (.int 0))) .nil) (.cmp .gt (.v 5) (.c (.int 0))) [5]) (S' := Dus V w u (.ow (il m)) (oi (gcds m 0)) y5 y6 y7 y8 y9) (v := bsv (sgns m)) (by rw [so]; rfl)
    have tst : tstOf (ev fe (.orr (.cmp .lt (.bi .len (.cons (.v 7) .nil)) (.bi .len (.cons (.v 3) .nil))) (.andd (.cmp .isin (.c (.bl true)) (.v 7)) (.cmp .isin (.c (.bl false)) (.v 7)))) (Dus V w u (.ow (il m)) (oi (gcds m 0)) y5 y6 (.ow (bsv (sgns m))) y8 y9)) = .ok (c3 m, Dus V w u (.ow (il m)) (oi (gcds m 0)) y5 y6 (.ow (bsv (sgns m))) y8 y9) := by
      have l7 : lenV (bsv (sgns m)) = .ok (iv (sgns m).length) := by show Res.ok (iv ((sgns m).map _).length) = _; rw [List.length_map]
      have l3 : lenV (il m) = .ok (iv m.length) := by show Res.ok (iv (m.map _).length) = _; rw [List.length_map]
      have i1 := isin_bl true (sgns m)
      have i2 := isin_bl false (sgns m)
      rw [← bsv_pv] at i1 i2
      have pb : ∀ b : Bool, SV.pv (.fz (.bl b)) = .bl b := fun b => rfl
      have pi : ∀ i : Int, SV.pv (iv i) = .int i := fun i => rfl
      unfold c3
      cases h1 : decide (((sgns m).length : Int) < (m.length : Int)) with
      | true =>
        simp only [ev, evBs, tstOf, rd, List.getElem?_cons_succ, List.getElem?_cons_zero, Res.bind_ok, biop, l7, l3, Res.noex_ok, pi, cmp_lt_int, h1, Bool.true_or]
      | false =>
        cases h2 : (sgns m).contains true with
        | false => simp only [ev, evBs, tstOf, rd, List.getElem?_cons_succ, List.getElem?_cons_zero, Res.bind_ok, biop, l7, l3, Res.noex_ok, pi, pb, cmp_lt_int, h1, i1, h2, Bool.false_or, Bool.false_and]
        | true => simp only [ev, evBs, tstOf, rd, List.getElem?_cons_succ, List.getElem?_cons_zero, Res.bind_ok, biop, l7, l3, Res.noex_ok, pi, pb, cmp_lt_int, h1, i1, i2, h2, Bool.false_or, Bool.true_and]
    cases hc3 : c3 m with
    | true =>
      rw [hc3] at tst
      refine ⟨.non, (exes_cons h1).trans ((exes_cons p2).trans (exes_rt ((exe_iff_t tst).trans (exes_rt rfl)))), .inr ⟨h2, .inr ⟨fun hgd => ?_, rfl⟩⟩⟩
      rw [(c3_good m).mpr hgd] at hc3
      exact nomatch hc3
    | false =>
      rw [hc3] at tst
      have hd : divOk (gcds m 0) = true := by
        obtain ⟨k1, _, k3, k4⟩ := gcds_spec m 0 (Int.le_refl 0)
        have hx : ∃ x ∈ m, x ≠ 0 := Classical.byContradiction fun hno => by
          have := k4 0 (Int.dvd_refl 0) fun x hx => by
            have : x = 0 := Classical.byContradiction fun z => hno ⟨x, hx, z⟩
            rw [this]; exact Int.dvd_refl 0
          exact hg (Int.zero_dvd.mp this)
        obtain ⟨x, hx, x0⟩ := hx
        refine divOk_of (b := 800) hg ?_ (by decide)
        have h1 := Int.natAbs_dvd_natAbs.mpr (k3 x hx)
        have h2 := Nat.le_of_dvd (by omega) h1
        exact Nat.lt_of_le_of_lt h2 (hb x hx)
      have hc := ev_comp1 (fe := fe) (tg := .nm 5) (it := .ex (.v 3)) (el := .bin .fdiv (.bi .abs (.cons (.v 5) .nil)) (.v 4)) (ws := [5]) (S := Dus V w u (.ow (il m)) (oi (gcds m 0)) y5 y6 (.ow (bsv (sgns m))) y8 y9) (its := m.map fun a => Itm.one (oi a)) (g := gm fun x => (x.natAbs : Int).fdiv (gcds m 0)) (i := 3) (s := il m)
        (il_it _ 3 m rfl) rfl (by rw [List.length_map]; unfold szLine; omega) (fun x hx => by
          obtain ⟨a, _, rfl⟩ := List.mem_map.mp hx
          refine ⟨Dus V w u (.bw (il m)) (oi (gcds m 0)) (oi a) y6 (.ow (bsv (sgns m))) y8 y9, Dus V w u (.bw (il m)) (oi (gcds m 0)) (oi a) y6 (.ow (bsv (sgns m))) y8 y9, rfl, ?_, ?_⟩
          · have ab : (if a < 0 then -a else a) = (a.natAbs : Int) := by split <;> omega
            simp only [ev, evBs, rd, List.getElem?_cons_succ, List.getElem?_cons_zero, Res.bind_ok, biop, absV, ab, Res.noex_ok, binop, fdivV, hd, Res.guard_true, elemOf, valOf, isPath, isKeep, SV.pv, gm]
          · refine ⟨rfl, fun j hj => ?_⟩
            have hj : j ≠ 5 := by simpa using hj
            rcases j with _ | _ | _ | _ | _ | _ | _ | _ | _ | _ | j <;> first | rfl | exact absurd rfl hj)
      rw [gm_map] at hc
      have alf := alf_il (m.map fun x => (x.natAbs : Int).fdiv (gcds m 0))
      have q4 : exe fe (.ret (.bi .tuple (.cons (.comp (.nm 5) (.ex (.v 3)) .nil (.bin .fdiv (.bi .abs (.cons (.v 5) .nil)) (.v 4)) [5]) .nil))) (Dus V w u (.ow (il m)) (oi (gcds m 0)) y5 y6 (.ow (bsv (sgns m))) y8 y9) = .rt (.fz (tpl (m.map fun x => (x.natAbs : Int).fdiv (gcds m 0)))) := by
        simp only [exe, ev, evBs] at hc ⊢
        rw [hc]
        simp only [Res.bind_ok, biop, tupleV, alf, tupO, Res.noex_ok, valOf, isPath, Res.out_ok]
      have q3 : exe fe (.iff (.orr (.cmp .lt (.bi .len (.cons (.v 7) .nil)) (.bi .len (.cons (.v 3) .nil))) (.andd (.cmp .isin (.c (.bl true)) (.v 7)) (.cmp .isin (.c (.bl false)) (.v 7)))) (.cons (.ret (.c .non)) .nil) .nil) (Dus V w u (.ow (il m)) (oi (gcds m 0)) y5 y6 (.ow (bsv (sgns m))) y8 y9) = .nx (Dus V w u (.ow (il m)) (oi (gcds m 0)) y5 y6 (.ow (bsv (sgns m))) y8 y9) := (exe_iff_f tst).trans rfl
      exact ⟨_, (exes_cons h1).trans ((exes_cons p2).trans ((exes_cons q3).trans (exes_rt q4))), .inr ⟨h2, .inl ⟨(c3_good m).mp hc3, rfl⟩⟩⟩
theorem fe_due (k : Nat) (a b : Sl) : FEn tbl (k + 1) 14 [a, b] = fin (exes (FEn tbl k) b__law_due [a, b, .no, .no, .no, .no, .no, .no, .no, .no]) := rfl
def dueB : Ss := (.cons (.asg 3 (.call 13 (.cons (.v 0) (.cons (.v 2) .nil)))) (.cons (.asg 4 (.c (.int 0))) (.cons (.forr (.nm 5) (.ex (.v 3)) gcB) (.cons (.iff (.cmp .ne (.v 4) (.c (.int 0))) aS .nil) .nil))))
def wts (V : List (List Int)) (u : List Nat) : List Int := (List.range V.length).map (mnr V u)
theorem due_ok (k : Nat) (V : List (List Int)) (w : Nat) (hw3 : w ≤ 3) (hV1 : 1 ≤ V.length) (hV5 : V.length ≤ 5) (hw : ∀ r ∈ V, r.length = w) (hb : ∀ r ∈ V, ∀ x ∈ r, Bd 43 x) :
    ∃ v, FEn tbl (k + 3) 14 [.bw (mt V), oi w] = .ok (.fz v) ∧ ((v = .non ∧ ∀ u ∈ cho w (V.length - 1), gcds (wts V u) 0 = 0) ∨ ∃ u ∈ cho w (V.length - 1), gcds (wts V u) 0 ≠ 0 ∧ Oc V w (wts V u) v) := by
  rw [fe_due]
  obtain ⟨L, c1, hL⟩ := choices_ok (k + 1) w ((V.length : Int) - 1) hw3
  have hL := hL (V.length - 1) (by omega)
  have a1 : evA (FEn tbl (k + 2)) (.cons (.v 1) (.cons (.bin .sub (.bi .len (.cons (.v 0) .nil)) (.c (.int 1))) .nil)) (Dus V w .no .no .no .no .no .no .no .no) = .ok ([oi w, oi ((V.length : Int) - 1)], Dus V w .no .no .no .no .no .no .no .no) := by
    simp [evA, ev, evBs, argOf, lend, rd, isPath, biop, lenV, binop, subV]
  have hI := choice_it _ _ _ L (ev_call a1 c1)
  have key := loopF_ret (tg := .nm 2) (body := exes (FEn tbl (k + 2)) dueB) (its := L.map fun u => Itm.one (.ow (.fz (uv u)))) (S := Dus V w .no .no .no .no .no .no .no .no)
    (fun i S => (∃ y2 y3 y4 y5 y6 y7 y8 y9, S = Dus V w y2 y3 y4 y5 y6 y7 y8 y9) ∧ ∀ j (h : j < L.length), j < i → gcds (wts V L[j]) 0 = 0) (fun i v => ∃ p, v = .fz p ∧ ∃ u ∈ L, gcds (wts V u) 0 ≠ 0 ∧ Oc V w (wts V u) p) ⟨⟨.no, .no, .no, .no, .no, .no, .no, .no, rfl⟩, fun _ _ h => absurd h (Nat.not_lt_zero _)⟩ (fun i S it hx ⟨⟨y2, y3, y4, y5, y6, y7, y8, y9, e1⟩, hp⟩ => by
      subst e1
      have hi := (List.getElem?_eq_some_iff.mp hx).1
      have hx2 := (List.getElem?_eq_some_iff.mp hx).2
      rw [List.length_map] at hi
      rw [List.getElem_map] at hx2
      have hm : L[i] ∈ cho w (V.length - 1) := by rw [← hL]; exact List.getElem_mem hi
      obtain ⟨hc, hul⟩ := mem_cho.mp hm
      refine ⟨Dus V w (.ow (.fz (uv L[i]))) y3 y4 y5 y6 y7 y8 y9, by rw [← hx2]; rfl, ?_⟩
      have mo := minors_ok k V L[i] w hul (ch_lt hc) hV5 hw hb
      have hwl : (wts V L[i]).length = V.length := by unfold wts; rw [List.length_map, List.length_range]
      have hwb : ∀ x ∈ wts V L[i], Bd 800 x := fun x hx => by
        obtain ⟨j, hj, rfl⟩ := List.mem_map.mp hx
        have hj := List.mem_range.mp hj
        exact mnr_bd V L[i] j (by omega) (by rw [but_len hj]; omega) hb
      have mo : FEn tbl (k + 2) 13 [.bw (mt V), .ow (.fz (uv L[i]))] = .ok (il (wts V L[i])) := mo
      generalize hwt : wts V L[i] = m at mo hwl hwb
      have a2 : evA (FEn tbl (k + 2)) (.cons (.v 0) (.cons (.v 2) .nil)) (Dus V w (.ow (.fz (uv L[i]))) y3 y4 y5 y6 y7 y8 y9) = .ok ([.bw (mt V), .ow (.fz (uv L[i]))], Dus V w (.ow (.fz (uv L[i]))) y3 y4 y5 y6 y7 y8 y9) := by
        simp [evA, ev, argOf, lend, rd, isPath]
      have c2 := ev_call a2 mo
      have p1 := exe_asg (i := 3) (e := .call 13 (.cons (.v 0) (.cons (.v 2) .nil))) (S' := Dus V w (.ow (.fz (uv L[i]))) y3 y4 y5 y6 y7 y8 y9) (v := il m) (by rw [c2]; rfl)
      have p2 : exe (FEn tbl (k + 2)) (.asg 4 (.c (.int 0))) (Dus V w (.ow (.fz (uv L[i]))) (.ow (il m)) y4 y5 y6 y7 y8 y9) = .nx (Dus V w (.ow (.fz (uv L[i]))) (.ow (il m)) (oi 0) y5 y6 y7 y8 y9) := by
        refine exe_asg (S' := Dus V w (.ow (.fz (uv L[i]))) (.ow (il m)) y4 y5 y6 y7 y8 y9) (v := iv 0) ?_
        simp [ev, valOf, isPath]
      obtain ⟨z5, z6, z7, z8, z9, p3⟩ := shared_ok (k + 1) V w (.ow (.fz (uv L[i]))) y5 y6 y7 y8 y9 m hwb (fun v h => nomatch h)
      have tst : tstOf (ev (FEn tbl (k + 2)) (.cmp .ne (.v 4) (.c (.int 0))) (Dus V w (.ow (.fz (uv L[i]))) (.ow (il m)) (oi (gcds m 0)) z5 z6 z7 z8 z9)) = .ok (!(gcds m 0 == 0), Dus V w (.ow (.fz (uv L[i]))) (.ow (il m)) (oi (gcds m 0)) z5 z6 z7 z8 z9) := by
        simp only [ev, tstOf, rd, List.getElem?_cons_succ, List.getElem?_cons_zero, Res.bind_ok, SV.pv, cmp_ne_int, Res.noex_ok]
      by_cases h0 : gcds m 0 = 0
      · have e0 : (!(gcds m 0 == 0)) = false := by rw [h0]; rfl
        rw [e0] at tst
        refine .inl ⟨_, .inl ((exes_cons p1).trans ((exes_cons p2).trans ((exes_cons p3).trans (exes_one ((exe_iff_f tst).trans rfl))))), ⟨_, _, _, _, _, _, _, _, rfl⟩, fun j hj hji => ?_⟩
        by_cases e : j = i
        · subst e; rw [hwt]; exact h0
        · exact hp j hj (by omega)
      · rw [nez h0] at tst
        obtain ⟨v, q1, q2⟩ := aS_ok (fe := FEn tbl (k + 2)) V w (.ow (.fz (uv L[i]))) z5 z6 z7 z8 z9 m (by omega) hV5 hwl hw hwb hb (fun v h => nomatch h) h0
        exact .inr ⟨_, (exes_cons p1).trans ((exes_cons p2).trans ((exes_cons p3).trans (exes_rt ((exe_iff_t tst).trans q1)))), v, rfl, L[i], List.getElem_mem hi, by rw [hwt]; exact h0, by rw [hwt]; exact q2⟩)
  rcases key with ⟨S', h1, ⟨y2, y3, y4, y5, y6, y7, y8, y9, h2⟩, h3⟩ | ⟨i, v, h1, h2, p, h3, h4⟩
  · rw [List.length_map] at h3
    subst h2
    refine ⟨.non, congrArg fin ((exes_cons (exe_forr hI h1)).trans (exes_rt rfl)), .inl ⟨rfl, fun u hu => ?_⟩⟩
    rw [← hL] at hu
    obtain ⟨j, hj, rfl⟩ := List.getElem_of_mem hu
    exact h3 j hj hj
  · subst h3
    rw [hL] at h4
    exact ⟨p, congrArg fin (exes_rt (exe_forr_rt hI h2)), .inr h4⟩
end PL.T

namespace PL
theorem sm_front (n : Nat) (f : Nat → Int) : sm (n + 1) f = f 0 + sm n fun i => f (i + 1) := by
  induction n with
  | zero => rw [sm_succ, sm_zero, sm_zero]; omega
  | succ n ih => rw [sm_succ, ih, sm_succ]; omega
theorem cmb_sm : ∀ (lam : List Int) (V : List Vec), lam.length = V.length → ∀ k, cmb (lam.zip V) k = sm V.length fun i => lam.getD i 0 * (V.getD i fun _ => 0) k
  | [], [], _, k => rfl
  | a :: lam, v :: V, h, k => by
    show a * v k + cmb (lam.zip V) k = _
    rw [cmb_sm lam V (by simpa using h) k, List.length_cons, sm_front]
    rfl
theorem split2 {α : Type} (l : List α) (i : Nat) (h : i + 1 < l.length) : ∃ l1 x l2 y, l = l1 ++ x :: (l2 ++ [y]) ∧ l1.length = i := by
  have h1 : i < l.length := by omega
  have hd : l.drop (i + 1) ≠ [] := fun z => by
    have := congrArg List.length z
    rw [List.length_drop] at this
    simp at this
    omega
  refine ⟨l.take i, l[i], (l.drop (i + 1)).dropLast, (l.drop (i + 1)).getLast hd, ?_, by rw [List.length_take]; omega⟩
  rw [List.dropLast_concat_getLast]
  exact split_at h1
def butV (l : List Vec) (i : Nat) : List Vec := l.take i ++ l.drop (i + 1)
theorem butV1 (l1 l2 : List Vec) (x y : Vec) : butV (l1 ++ x :: (l2 ++ [y])) l1.length = l1 ++ (l2 ++ [y]) := by
  unfold butV
  rw [List.take_left, List.drop_append]
  simp
theorem butV2 (l1 l2 : List Vec) (x y : Vec) : butV (l1 ++ x :: (l2 ++ [y])) (l1.length + l2.length + 1) = l1 ++ x :: l2 := by
  have e : l1 ++ x :: (l2 ++ [y]) = (l1 ++ x :: l2) ++ [y] := by simp
  have hl : (l1 ++ x :: l2).length = l1.length + l2.length + 1 := by simp; omega
  unfold butV
  rw [e, ← hl, List.take_left, List.drop_of_length_le (by simp; omega), List.append_nil]
/-- Cramer: a relation is in the proportion of the minors -/
theorem cramer_rel (n : Nat) (V : List Vec) (lam : List Int) (hl : lam.length = V.length) (h : ∀ k, (sm V.length fun i => lam.getD i 0 * (V.getD i fun _ => 0) k) = 0) (i : Nat) (hi : i + 1 < V.length) :
    lam.getD (V.length - 1) 0 * ((-1) ^ i * dets n (butV V i) []) = lam.getD i 0 * ((-1) ^ (V.length - 1) * dets n (butV V (V.length - 1)) []) := by
  obtain ⟨l1, x, l2, y, e1, e2⟩ := split2 V i hi
  obtain ⟨p1, a, p2, b, e3, e4⟩ := split2 lam i (by omega)
  have hp2 : p2.length = l2.length := by
    have := congrArg List.length e1
    have := congrArg List.length e3
    simp at *
    omega
  have hL : V.length - 1 = l1.length + l2.length + 1 := by rw [e1]; simp; omega
  have hL' : V.length - 1 = p1.length + p2.length + 1 := by rw [hL]; omega
  have gb : lam.getD (V.length - 1) 0 = b := by
    rw [hL', e3]
    have e : p1 ++ a :: (p2 ++ [b]) = (p1 ++ a :: p2) ++ [b] := by simp
    have hl : (p1 ++ a :: p2).length = p1.length + p2.length + 1 := by simp; omega
    rw [e, ← hl, List.getD_eq_getElem?_getD, List.getElem?_append_right (Nat.le_refl _), Nat.sub_self]; rfl
  have ga : lam.getD i 0 = a := by
    rw [e3, ← e4, List.getD_eq_getElem?_getD, List.getElem?_append_right (Nat.le_refl _), Nat.sub_self]; rfl
  have key := rel_minors n l1 l2 x y p1 p2 a b (by omega) hp2 fun k => by
    rw [← e1, ← e3, cmb_sm lam V hl]; exact h k
  rw [gb, ga, hL, e1, butV2, ← e2, butV1]
  exact key
theorem Chain.take {vs bs : List Vec} (h : Chain vs bs) : ∀ j, Chain (vs.take j) (bs.take j) := by
  induction h with
  | nil => intro j; simpa using Chain.nil
  | @snoc vs bs v b g a c h hg ha e ih =>
    intro j
    have hl := h.len
    by_cases hj : j ≤ vs.length
    · rw [List.take_append_of_le_length hj, List.take_append_of_le_length (by omega)]
      exact ih j
    · rw [List.take_of_length_le (by simp; omega), List.take_of_length_le (by simp; omega)]
      exact .snoc g a c h hg ha e
/-- x is the sum of the rows E with the weights that it holds behind w -/
def Rpw (n w : Nat) (E : List Vec) (x : Vec) : Prop := ∀ k, x k = sm n fun i => x (w + i) * (E.getD i fun _ => 0) k
theorem Rpw.comb {n w m : Nat} {E : List Vec} {v y : Vec} {g a : Int} {c : Nat → Int} {B : Nat → Vec} (hg : g ≠ 0) (hv : Rpw n w E v) (hB : ∀ q, q < m → Rpw n w E (B q)) (e : ∀ k, g * y k = a * v k + sm m fun q => c q * B q k) : Rpw n w E y := fun k => by
  refine Int.eq_of_mul_eq_mul_left hg ?_
  rw [e k, ← sm_mul]
  have e1 : (sm n fun i => g * (y (w + i) * (E.getD i fun _ => 0) k)) = sm n fun i => a * (v (w + i) * (E.getD i fun _ => 0) k) + 1 * (sm m fun q => c q * (B q (w + i) * (E.getD i fun _ => 0) k)) := by
    refine sm_congr fun i hi => ?_
    rw [← Int.mul_assoc, e (w + i), Int.add_mul, Int.mul_assoc, Int.one_mul]
    congr 1
    rw [Int.mul_comm, ← sm_mul]
    refine sm_congr fun q hq => ?_
    rw [Int.mul_comm, Int.mul_assoc]
  rw [e1, sm_lin, Int.one_mul, sm_swap, ← hv k]
  congr 1
  refine sm_congr fun q hq => ?_
  rw [sm_mul, ← hB q hq k]
theorem getV {l : List Vec} {q : Nat} (h : q < l.length) : (l.getD q fun _ => 0) = l[q] := by
  rw [List.getD_eq_getElem?_getD, List.getElem?_eq_getElem h]; rfl
theorem Chain.rp {n w : Nat} {E : List Vec} {vs bs : List Vec} (h : Chain vs bs) : (∀ v ∈ vs, Rpw n w E v) → ∀ b ∈ bs, Rpw n w E b := by
  induction h with
  | nil => exact fun _ _ h => nomatch h
  | @snoc vs bs v b g a c h hg ha e ih =>
    intro hv x hx
    have ih := ih fun v hm => hv v (List.mem_append_left _ hm)
    rcases List.mem_append.mp hx with hx | hx
    · exact ih x hx
    · rw [List.mem_singleton.mp hx]
      exact Rpw.comb (B := fun q => bs.getD q fun _ => 0) hg (hv v (by simp)) (fun q hq => by
        show Rpw n w E (bs.getD q fun _ => 0)
        rw [getV hq]; exact ih _ (List.getElem_mem hq)) e
theorem Chain.tail {w : Nat} {vs bs : List Vec} (h : Chain vs bs) : (∀ q (h : q < vs.length) i, q < i → vs[q] (w + i) = 0) → ∀ q (h : q < bs.length) i, q < i → bs[q] (w + i) = 0 := by
  induction h with
  | nil => exact fun _ q h => absurd h (Nat.not_lt_zero q)
  | @snoc vs bs v b g a c h hg ha e ih =>
    intro hv q hq i hi
    have hl := h.len
    have ih := ih fun q h i hi => by
      have := hv q (by simp; omega) i hi
      rwa [List.getElem_append_left h] at this
    by_cases hq' : q < bs.length
    · rw [List.getElem_append_left hq']; exact ih q hq' i hi
    · have hq' : q = bs.length := by simp at hq; omega
      subst hq'
      rw [List.getElem_append_right (Nat.le_refl _)]
      have h0 := hv vs.length (by simp) i (by omega)
      rw [List.getElem_append_right (Nat.le_refl _)] at h0
      have h0 : v (w + i) = 0 := by simpa using h0
      have := e (w + i)
      rw [h0, sm_congr (g := fun _ => 0) (fun q hq => by rw [getV hq, ih q hq i (by omega), Int.mul_zero]), sm_const0] at this
      have z : b (w + i) = 0 := by
        have : g * b (w + i) = 0 := by rw [this]; omega
        exact (Int.mul_eq_zero.mp this).resolve_left hg
      simpa using z
end PL
namespace PL.T
open PL
theorem sgi_pow : ∀ i : Nat, (-1 : Int) ^ i = sgi i
  | 0 => rfl
  | i + 1 => by
    rw [Int.pow_succ, sgi_pow i]
    unfold sgi
    by_cases h : i % 2 = 1
    · rw [if_pos h, if_neg (by omega)]; rfl
    · rw [if_neg h, if_pos (by omega)]; rfl
theorem but_map (V : List (List Int)) (u : List Nat) (i : Nat) : ((but V i).map vv).map (pk u) = butV ((V.map vv).map (pk u)) i := by
  unfold but butV
  rw [List.map_append, List.map_append, List.map_take, List.map_take, List.map_drop, List.map_drop]
theorem KS.take {w W : Nat} {vs : List (List Int)} {kp : List (Nat × List Int)} (K : KS w W vs kp) (j : Nat) : KS w W (vs.take j) (kp.take j) := by
  constructor
  · rw [List.map_take, List.map_take]; exact K.ch.take j
  · have l1 : (kp.map Prod.fst).length = kp.length := List.length_map _
    have l2 : (kp.map fun p => vv p.2).length = kp.length := List.length_map _
    rw [List.map_take, List.map_take]
    refine ⟨by rw [List.length_take, List.length_take, l1, l2], fun c hc => K.ech.lt c (List.mem_of_mem_take hc), fun i h h' => ?_, fun i q h h' hq => ?_⟩
    · rw [List.length_take] at h h'
      rw [List.getElem_take, List.getElem_take]; exact K.ech.nz i (by omega) (by omega)
    · rw [List.length_take] at h h'
      rw [List.getElem_take, List.getElem_take]; exact K.ech.z i q (by omega) (by omega) hq
  · exact fun p hp => K.len p (List.mem_of_mem_take hp)
  · intro i h x hx
    rw [List.length_take] at h
    rw [List.getElem_take] at hx
    exact K.bd i (by omega) x hx
/-- what is kept is independent -/
theorem KS.ind {w W : Nat} {vs : List (List Int)} {kp : List (Nat × List Int)} (K : KS w W vs kp) : Ind w vs := by
  have hn := K.n
  have l1 : (kp.map Prod.fst).length = kp.length := List.length_map _
  have l2 : (kp.map fun p => vv p.2).length = kp.length := List.length_map _
  have sl := srt_len K.ech.nodup K.ech.lt
  rw [l1] at sl
  refine ⟨srt w (kp.map Prod.fst), mem_cho.mpr ⟨ch_filter _ w, by omega⟩, fun z => ?_⟩
  have d := K.ech.det
  rw [l2] at d
  have c := K.ch.det kp.length (srt w (kp.map Prod.fst)) []
  rw [List.append_nil, List.append_nil] at c
  rw [hn] at z
  exact d (c.mpr z)
theorem getD_lt {u : List Nat} {w : Nat} (hu : ∀ c ∈ u, c < w) (h1 : 1 ≤ w) (k : Nat) : u.getD k 0 < w := by
  by_cases h : k < u.length
  · rw [List.getD_eq_getElem?_getD, List.getElem?_eq_getElem h]; exact hu _ (List.getElem_mem h)
  · rw [List.getD_eq_getElem?_getD, List.getElem?_eq_none (by omega)]; exact h1
theorem Dep.det {w W : Nat} {V : List (List Int)} {i : Nat} {r : List Int} (D : Dep w W V i r) (hw : ∀ r ∈ V, r.length = W) (hb : ∀ r ∈ V, ∀ x ∈ r, Bd 43 x) (h1 : 1 ≤ w) {u : List Nat} (hu : ∀ c ∈ u, c < w) (n : Nat) (X : List Vec) :
    ∃ h : i < V.length, dets n (((V.take i).map vv).map (pk u) ++ pk u (vv V[i]) :: X) [] = 0 := by
  obtain ⟨hi, kp, K, hr, h0⟩ := D
  refine ⟨hi, ?_⟩
  obtain ⟨_, _, a, c, R⟩ := red_len K V[i] (hw _ (List.getElem_mem hi)) (hb _ (List.getElem_mem hi))
  rw [← hr] at R
  refine K.ch.dep R.a0 u (c := c) (fun k => ?_) n X
  have := R.eq (u.getD k 0)
  rw [List.length_map]
  have z : vv r (u.getD k 0) = 0 := h0 _ (getD_lt hu h1 k)
  rw [z] at this
  exact this
theorem Dep.nind {w W : Nat} {V : List (List Int)} {i : Nat} {r : List Int} (D : Dep w W V i r) (hw : ∀ r ∈ V, r.length = W) (hb : ∀ r ∈ V, ∀ x ∈ r, Bd 43 x) (h1 : 1 ≤ w) : ¬ Ind w (V.take (i + 1)) := fun ⟨u, hu, hd⟩ => by
  obtain ⟨hi, z⟩ := D.det hw hb h1 (ch_lt (mem_cho.mp hu).1) (V.take (i + 1)).length []
  refine hd ?_
  have e : ((V.take (i + 1)).map vv).map (pk u) = ((V.take i).map vv).map (pk u) ++ [pk u (vv V[i])] := by
    rw [List.take_succ_eq_append_getElem hi, List.map_append, List.map_append]; rfl
  rw [e]; exact z
end PL.T

namespace PL.T
open PL
/-- first_dependent and the law's first -/
theorem first_eq {w : Nat} {V : List (List Int)} (h1 : 1 ≤ w) (hw : ∀ r ∈ V, r.length = w) (hb : ∀ r ∈ V, ∀ x ∈ r, Bd 43 x) {a b : PV}
    (ha : (∃ (i : Nat) (r : List Int), a = .int i ∧ Dep w w V i r) ∨ ∃ kp, a = .non ∧ KS w w V kp) (hbv : (b = .non ∧ ∀ i, i < V.length → Ind w (V.take (i + 1))) ∨ ∃ i : Nat, b = .int i ∧ i < V.length ∧ ¬ Ind w (V.take (i + 1)) ∧ ∀ j, j < i → Ind w (V.take (j + 1))) : a = b := by
  rcases ha with ⟨i, r, ea, D⟩ | ⟨kp, ea, K⟩
  · have hn := D.nind hw hb h1
    obtain ⟨hi, kp, K, _, _⟩ := D
    have hj : ∀ j, j < i → Ind w (V.take (j + 1)) := fun j hj => by
      have := (K.take (j + 1)).ind
      rw [List.take_take, Nat.min_eq_left (by omega)] at this
      exact this
    rcases hbv with ⟨eb, h⟩ | ⟨q, eb, hq, h2, h3⟩
    · exact absurd (h i hi) hn
    · rw [ea, eb]
      have : i = q := by
        rcases Nat.lt_trichotomy i q with h | h | h
        · exact absurd (h3 i h) hn
        · exact h
        · exact absurd (hj q h) h2
      rw [this]
  · rcases hbv with ⟨eb, h⟩ | ⟨q, eb, hq, h2, h3⟩
    · rw [ea, eb]
    · exact absurd (K.take (q + 1)).ind h2
theorem EV_mem {V : List (List Int)} {r : List Int} (h : r ∈ EV V) : ∃ (i : Nat) (hi : i < V.length), r = V[i] ++ unit V.length i := by
  obtain ⟨i, hi, e⟩ := List.getElem_of_mem h
  rw [EV_len] at hi
  rw [EV_get hi] at e
  exact ⟨i, hi, e.symm⟩
theorem EV_w {V : List (List Int)} {w : Nat} (hw : ∀ r ∈ V, r.length = w) : ∀ r ∈ EV V, r.length = w + V.length := fun r hr => by
  obtain ⟨i, hi, rfl⟩ := EV_mem hr
  exact EV_row hw hi
theorem EV_b {V : List (List Int)} (hb : ∀ r ∈ V, ∀ x ∈ r, Bd 43 x) : ∀ r ∈ EV V, ∀ x ∈ r, Bd 43 x := fun r hr => by
  obtain ⟨i, hi, rfl⟩ := EV_mem hr
  exact EV_bd hb hi
theorem EV_lo {V : List (List Int)} {w : Nat} (hw : ∀ r ∈ V, r.length = w) {i : Nat} (hi : i < V.length) {c : Nat} (hc : c < w) : vv ((EV V)[i]'(by rw [EV_len]; exact hi)) c = vv V[i] c := by
  rw [EV_get hi]
  have := hw _ (List.getElem_mem hi)
  show (V[i] ++ unit V.length i).getD c 0 = V[i].getD c 0
  rw [List.getD_eq_getElem?_getD, List.getElem?_append_left (by omega), List.getD_eq_getElem?_getD]
theorem EV_hi {V : List (List Int)} {w : Nat} (hw : ∀ r ∈ V, r.length = w) {i : Nat} (hi : i < V.length) (q : Nat) : vv ((EV V)[i]'(by rw [EV_len]; exact hi)) (w + q) = if q = i then 1 else 0 := by
  rw [EV_get hi]
  have hl := hw _ (List.getElem_mem hi)
  show (V[i] ++ unit V.length i).getD (w + q) 0 = _
  rw [List.getD_eq_getElem?_getD, List.getElem?_append_right (by omega)]
  have : w + q - V[i].length = q := by omega
  rw [this, ← List.getD_eq_getElem?_getD, unit_at hi]
/-- below w the units are not seen -/
theorem EV_pk {V : List (List Int)} {w : Nat} (hw : ∀ r ∈ V, r.length = w) (h1 : 1 ≤ w) {u : List Nat} (hu : ∀ c ∈ u, c < w) : ((EV V).map vv).map (pk u) = (V.map vv).map (pk u) := by
  refine List.ext_getElem (by rw [List.length_map, List.length_map, List.length_map, List.length_map, EV_len]) fun i h h' => ?_
  rw [List.length_map, List.length_map] at h'
  rw [List.getElem_map, List.getElem_map, List.getElem_map, List.getElem_map]
  funext k
  exact EV_lo hw h' (getD_lt hu h1 k)
theorem EV_ind {V : List (List Int)} {w : Nat} (hw : ∀ r ∈ V, r.length = w) (h1 : 1 ≤ w) (j : Nat) : Ind w ((EV V).take j) ↔ Ind w (V.take j) := by
  have hl : ((EV V).take j).length = (V.take j).length := by rw [List.length_take, List.length_take, EV_len]
  have key : ∀ u, (∀ c ∈ u, c < w) → (((EV V).take j).map vv).map (pk u) = ((V.take j).map vv).map (pk u) := fun u hu => by
    rw [List.map_take, List.map_take, List.map_take, List.map_take, EV_pk hw h1 hu]
  unfold Ind
  rw [hl]
  constructor
  · rintro ⟨u, hu, hd⟩
    exact ⟨u, hu, by rw [← key u (ch_lt (mem_cho.mp hu).1)]; exact hd⟩
  · rintro ⟨u, hu, hd⟩
    exact ⟨u, hu, by rw [key u (ch_lt (mem_cho.mp hu).1)]; exact hd⟩
theorem wts_len (V : List (List Int)) (u : List Nat) : (wts V u).length = V.length := by unfold wts; rw [List.length_map, List.length_range]
theorem wts_at {V : List (List Int)} {u : List Nat} {i : Nat} (h : i < V.length) : (wts V u).getD i 0 = mnr V u i := by
  rw [getD_at (by rw [wts_len]; exact h)]
  unfold wts
  rw [List.getElem_map, List.getElem_range]
/-- a weight that is 0: nothing is told -/
theorem oc_zero {V : List (List Int)} {w : Nat} {m : List Int} {v : PV} (h : Oc V w m v) {x : Int} (hx : x ∈ m) (h0 : x = 0) : v = .non := by
  have ng : ¬ good m := fun g => by
    rcases g with g | g <;> have := g x hx <;> omega
  rcases h with ⟨_, e⟩ | ⟨_, ⟨g, _⟩ | ⟨_, e⟩⟩
  · exact e
  · exact absurd g ng
  · exact e
/-- the rows before the last one are dependent -/
theorem due_dep {V : List (List Int)} {w : Nat} (hw : ∀ r ∈ V, r.length = w) (hb : ∀ r ∈ V, ∀ x ∈ r, Bd 43 x) (h1 : 1 ≤ w) {i : Nat} {r : List Int} (hi : i + 1 < V.length) (D : Dep w (w + V.length) (EV V) i r) {u : List Nat} (hu : u ∈ cho w (V.length - 1)) {v : PV} (h : Oc V w (wts V u) v) : v = .non := by
  obtain ⟨hc, hl⟩ := mem_cho.mp hu
  have hlt := ch_lt hc
  obtain ⟨hiE, z⟩ := D.det (EV_w hw) (EV_b hb) h1 hlt u.length (((V.drop (i + 1)).take (V.length - 1 - (i + 1))).map vv |>.map (pk u))
  have e : ((but V (V.length - 1)).map vv).map (pk u) = (((EV V).take i).map vv).map (pk u) ++ pk u (vv (EV V)[i]) :: (((V.drop (i + 1)).take (V.length - 1 - (i + 1))).map vv).map (pk u) := by
    have e1 : (((EV V).take i).map vv).map (pk u) = ((V.take i).map vv).map (pk u) := by
      rw [List.map_take, List.map_take, List.map_take, List.map_take, EV_pk hw h1 hlt]
    have e2 : pk u (vv (EV V)[i]) = pk u (vv (V[i]'(by omega))) := by
      funext k; exact EV_lo hw (by omega) (getD_lt hlt h1 k)
    have e3 : but V (V.length - 1) = V.take i ++ (V[i]'(by omega)) :: (V.drop (i + 1)).take (V.length - 1 - (i + 1)) := by
      unfold but
      rw [List.drop_of_length_le (by omega), List.append_nil]
      have e4 : V.length - 1 = i + ((V.length - 1 - (i + 1)) + 1) := by omega
      have e5 : V.take (V.length - 1) = V.take i ++ (V.drop i).take ((V.length - 1 - (i + 1)) + 1) := by
        conv => lhs; rw [e4]
        rw [List.take_add]
      rw [e5, List.drop_eq_getElem_cons (show i < V.length by omega), List.take_succ_cons]
    rw [e1, e2, e3]
    simp
  refine oc_zero h (x := mnr V u (V.length - 1)) ?_ ?_
  · unfold wts
    exact List.mem_map.mpr ⟨V.length - 1, List.mem_range.mpr (by omega), rfl⟩
  · unfold mnr
    rw [e, z, Int.mul_zero]
theorem at2_get' {V : List (List Int)} {q : Nat} {c : Nat} (h : q < V.length) : at2 V q c = V[q].getD c 0 := by
  unfold at2
  have : V.getD q [] = V[q] := by rw [List.getD_eq_getElem?_getD, List.getElem?_eq_getElem h]; rfl
  rw [this]
theorem tt_sm {V : List (List Int)} {u : List Nat} (m : List Int) (k : Nat) : (sm ((V.map vv).map (pk u)).length fun q => m.getD q 0 * (((V.map vv).map (pk u)).getD q fun _ => 0) k) = tt m V (u.getD k 0) V.length := by
  have hl : ((V.map vv).map (pk u)).length = V.length := by rw [List.length_map, List.length_map]
  rw [hl]
  unfold tt
  refine sm_congr fun q hq => ?_
  rw [getV (by rw [hl]; exact hq), List.getElem_map, List.getElem_map, at2_get' hq]
  rfl
theorem nz_of_gcds {m : List Int} (h : gcds m 0 ≠ 0) : ∃ j, j < m.length ∧ m.getD j 0 ≠ 0 := Classical.byContradiction fun hno => by
  obtain ⟨_, _, _, k4⟩ := gcds_spec m 0 (Int.le_refl 0)
  have := k4 0 (Int.dvd_refl 0) fun x hx => by
    obtain ⟨j, hj, e⟩ := List.getElem_of_mem hx
    have : x = 0 := Classical.byContradiction fun z => hno ⟨j, hj, by rw [getD_at hj, e]; exact z⟩
    rw [this]; exact Int.dvd_refl 0
  exact h (Int.zero_dvd.mp this)
/-- all rows are independent -/
theorem due_ind {V : List (List Int)} {w : Nat} (h1 : 1 ≤ w) (I : Ind w V) {u : List Nat} (hg : gcds (wts V u) 0 ≠ 0) {v : PV} (h : Oc V w (wts V u) v) : v = .non := by
  rcases h with ⟨_, e⟩ | ⟨z, _⟩
  · exact e
  · exfalso
    obtain ⟨u', hu', hd⟩ := I
    obtain ⟨hc, hl⟩ := mem_cho.mp hu'
    obtain ⟨j, hj, hn⟩ := nz_of_gcds hg
    rw [wts_len] at hj
    refine hd (rel_dets V.length _ (fun q => (wts V u).getD q 0) j (by rw [List.length_map, List.length_map]; exact hj) hn fun k hk => ?_)
    rw [tt_sm]
    exact z _ (getD_lt (ch_lt hc) h1 k)
end PL.T

namespace PL.T
open PL
theorem drop_at (r : List Int) (w i : Nat) : (r.drop w).getD i 0 = r.getD (w + i) 0 := by
  rw [List.getD_eq_getElem?_getD, List.getElem?_drop, List.getD_eq_getElem?_getD]
/-- the relation that cancelling finds -/
theorem dep_rel {V : List (List Int)} {w : Nat} (hn : 1 ≤ V.length) (hw : ∀ r ∈ V, r.length = w) (hb : ∀ r ∈ V, ∀ x ∈ r, Bd 43 x) {r : List Int} (D : Dep w (w + V.length) (EV V) (V.length - 1) r) :
    (r.drop w).length = V.length ∧ (r.drop w).getD (V.length - 1) 0 ≠ 0 ∧ (∀ c, c < w → tt (r.drop w) V c V.length = 0) ∧ Ind w ((EV V).take (V.length - 1)) := by
  obtain ⟨hiE, kp, K, hr, h0⟩ := D
  have hL : V.length - 1 < V.length := by omega
  obtain ⟨rl, _, a, c, R⟩ := red_len K (EV V)[V.length - 1] (EV_w hw _ (List.getElem_mem hiE)) (EV_b hb _ (List.getElem_mem hiE))
  rw [← hr] at R rl
  have hk : kp.length = V.length - 1 := by rw [← K.n, List.length_take, EV_len]; omega
  have hEl : ((EV V).map vv).length = V.length := by rw [List.length_map, EV_len]
  have rpE : ∀ j (hj : j < V.length), Rpw V.length w ((EV V).map vv) (vv ((EV V)[j]'(by rw [EV_len]; exact hj))) := fun j hj k => by
    rw [sm_single (k := j) hj fun i hi hne => by rw [EV_hi hw hj, if_neg hne, Int.zero_mul], EV_hi hw hj, if_pos rfl, Int.one_mul, getV (by rw [hEl]; exact hj), List.getElem_map]
  have rpV : ∀ v ∈ ((EV V).take (V.length - 1)).map vv, Rpw V.length w ((EV V).map vv) v := fun v hv => by
    obtain ⟨e, he, rfl⟩ := List.mem_map.mp hv
    obtain ⟨j, hj, rfl⟩ := List.getElem_of_mem he
    rw [List.length_take, EV_len] at hj
    rw [List.getElem_take]
    exact rpE j (by omega)
  have rpB := K.ch.rp rpV
  have lb : (kp.map fun p => vv p.2).length = kp.length := List.length_map _
  have rpR : Rpw V.length w ((EV V).map vv) (vv r) := Rpw.comb (g := 1) (a := a) (c := c) (m := kp.length) (B := fun q => (kp.map fun p => vv p.2).getD q fun _ => 0) (by decide) (rpE _ hL) (fun q hq => by
    show Rpw _ _ _ ((kp.map fun p => vv p.2).getD q fun _ => 0)
    rw [getV (by rw [lb]; exact hq)]
    exact rpB _ (List.getElem_mem _)) fun k => by rw [Int.one_mul]; exact R.eq k
  have tl := K.ch.tail (w := w) fun q hq i hi => by
    rw [List.length_map, List.length_take, EV_len] at hq
    rw [List.getElem_map, List.getElem_take, EV_hi hw (by omega), if_neg (by omega)]
  refine ⟨by rw [List.length_drop, rl]; omega, ?_, fun c hc => ?_, K.ind⟩
  · rw [drop_at]
    have := R.eq (w + (V.length - 1))
    rw [EV_hi hw hL, if_pos rfl, Int.mul_one, sm_congr (g := fun _ => 0) (fun q hq => by rw [getV (by rw [lb]; exact hq), tl q (by rw [lb]; exact hq) _ (by omega), Int.mul_zero]), sm_const0, Int.add_zero] at this
    show vv r (w + (V.length - 1)) ≠ 0
    rw [this]
    exact R.a0
  · have := rpR c
    have z : vv r c = 0 := h0 c hc
    rw [z] at this
    rw [this]
    unfold tt
    refine sm_congr fun q hq => ?_
    rw [drop_at, at2_get' hq, getV (by rw [hEl]; exact hq), List.getElem_map, EV_lo hw hq hc]
    rfl
theorem wts_prop {V : List (List Int)} {w : Nat} (hn : 1 ≤ V.length) (h1 : 1 ≤ w) {lam : List Int} (hl : lam.length = V.length) (hL : lam.getD (V.length - 1) 0 ≠ 0) (hz : ∀ c, c < w → tt lam V c V.length = 0) {R : List Int} {q : Int} (L : LowL lam R q) {u : List Nat} (hu : u ∈ cho w (V.length - 1)) :
    ∃ t, wts V u = R.map fun x => t * x := by
  obtain ⟨hc, hul⟩ := mem_cho.mp hu
  have hlt := ch_lt hc
  have hV' : ((V.map vv).map (pk u)).length = V.length := by rw [List.length_map, List.length_map]
  have rel : ∀ k, (sm ((V.map vv).map (pk u)).length fun i => lam.getD i 0 * (((V.map vv).map (pk u)).getD i fun _ => 0) k) = 0 := fun k => by
    rw [tt_sm]; exact hz _ (getD_lt hlt h1 k)
  obtain ⟨t, ht⟩ := prop_mul L (mnr V u) (V.length - 1) hL fun i hi => by
    rw [L.len, hl] at hi
    by_cases e : i = V.length - 1
    · rw [e]
    · have := cramer_rel u.length ((V.map vv).map (pk u)) lam (by rw [hV']; exact hl) rel i (by rw [hV']; omega)
      rw [hV', sgi_pow, sgi_pow] at this
      unfold mnr
      rw [but_map, but_map]
      exact this
  refine ⟨t, List.ext_getElem (by rw [wts_len, List.length_map, L.len, hl]) fun i h h' => ?_⟩
  rw [wts_len] at h
  have := ht i (by rw [L.len, hl]; exact h)
  rw [← wts_at h, getD_at (by rw [wts_len]; exact h), getD_at (by rw [L.len, hl]; exact h)] at this
  rw [this, List.getElem_map]
/-- cancelling and the law's due weights -/
theorem can_eq {V : List (List Int)} {w : Nat} (hn : 1 ≤ V.length) (h1 : 1 ≤ w) (hw : ∀ r ∈ V, r.length = w) (hb : ∀ r ∈ V, ∀ x ∈ r, Bd 43 x) {v v' : PV} (hc : Can w V v)
    (hd : (v' = .non ∧ ∀ u ∈ cho w (V.length - 1), gcds (wts V u) 0 = 0) ∨ ∃ u ∈ cho w (V.length - 1), gcds (wts V u) 0 ≠ 0 ∧ Oc V w (wts V u) v') : v = v' := by
  rcases hc with ⟨e, i, r, hi, D⟩ | ⟨r, D, hv⟩ | ⟨e, kp, K⟩
  · rcases hd with ⟨e', _⟩ | ⟨u, hu, _, O⟩
    · rw [e, e']
    · rw [e, due_dep hw hb h1 hi D hu O]
  · obtain ⟨ll, lL, lz, I⟩ := dep_rel hn hw hb D
    have hx : ∃ x ∈ r.drop w, x ≠ 0 := ⟨_, List.getElem_mem (show V.length - 1 < (r.drop w).length by omega), by rw [← getD_at]; exact lL⟩
    obtain ⟨q, L, p0⟩ := lowL_ok (r.drop w) hx
    rw [ll] at p0
    generalize r.drop w = lam at ll lL lz L p0 hv
    generalize sgL (low lam) = R at L p0 hv
    have pL : 0 < R.getD (V.length - 1) 0 := by
      have : R.getD (V.length - 1) 0 ≠ 0 := fun z => lL (by rw [L.eq, z, Int.mul_zero])
      omega
    have hRl : R.length = V.length := by rw [L.len, ll]
    rcases hd with ⟨e', h'⟩ | ⟨u, hu, hg, O⟩
    · exfalso
      rw [EV_ind hw h1] at I
      obtain ⟨u0, hu0, hd0⟩ := I
      have tl : (V.take (V.length - 1)).length = V.length - 1 := by rw [List.length_take]; omega
      rw [tl] at hu0 hd0
      have hul := (mem_cho.mp hu0).2
      have g0 := h' u0 hu0
      obtain ⟨_, _, k3, _⟩ := gcds_spec (wts V u0) 0 (Int.le_refl 0)
      have := k3 (mnr V u0 (V.length - 1)) (List.mem_map.mpr ⟨V.length - 1, List.mem_range.mpr (by omega), rfl⟩)
      rw [g0] at this
      have := Int.zero_dvd.mp this
      unfold mnr but at this
      rw [List.drop_of_length_le (by omega), List.append_nil, hul] at this
      have hs : sgi (V.length - 1) ≠ 0 := by unfold sgi; split <;> decide
      exact hd0 ((Int.mul_eq_zero.mp this).resolve_left hs)
    · obtain ⟨t, ht⟩ := wts_prop hn h1 ll lL lz L hu
      have gt : gcds (wts V u) 0 = t.natAbs := by rw [ht, gcds_mul0, L.g, Int.mul_one]
      have t0 : t ≠ 0 := fun z => hg (by rw [gt, z]; rfl)
      have mR : ∀ i, (wts V u).getD i 0 = t * R.getD i 0 := fun i => by
        rw [ht, getD_map (f := fun x => t * x) (by simp)]
      have ttR : ∀ c, c < w → tt R V c V.length = 0 := fun c hc => by
        have := lz c hc
        have e : tt lam V c V.length = q * tt R V c V.length := by
          unfold tt
          rw [← sm_mul]
          refine sm_congr fun i _ => ?_
          rw [L.eq, Int.mul_assoc]
        rw [e] at this
        exact (Int.mul_eq_zero.mp this).resolve_left L.q0
      have tot0 : ∀ c, c < w → tt (wts V u) V c V.length = 0 := fun c hc => by
        have e : tt (wts V u) V c V.length = t * tt R V c V.length := by
          unfold tt
          rw [← sm_mul]
          refine sm_congr fun i _ => ?_
          rw [mR, Int.mul_assoc]
        rw [e, ttR c hc, Int.mul_zero]
      have memL : R.getD (V.length - 1) 0 ∈ R := by rw [getD_at (by omega)]; exact List.getElem_mem _
      have gd : good (wts V u) ↔ ∀ x ∈ R, 0 < x := by
        have m1 : ∀ x ∈ R, t * x ∈ wts V u := fun x hx => by rw [ht]; exact List.mem_map.mpr ⟨x, hx, rfl⟩
        constructor
        · rintro (h | h)
          · have tp : 0 < t := Int.pos_of_mul_pos_left (h _ (m1 _ memL)) pL
            exact fun x hx => Int.pos_of_mul_pos_right (h _ (m1 x hx)) tp
          · have tn : 0 < -t := by
              have := h _ (m1 _ memL)
              have e : 0 < -t * R.getD (V.length - 1) 0 := by rw [Int.neg_mul]; omega
              exact Int.pos_of_mul_pos_left e pL
            exact fun x hx => by
              have := h _ (m1 x hx)
              have e : 0 < -t * x := by rw [Int.neg_mul]; omega
              exact Int.pos_of_mul_pos_right e tn
        · intro h
          rcases Int.lt_or_gt_of_ne t0 with tn | tp
          · refine .inr fun x hx => ?_
            rw [ht] at hx
            obtain ⟨y, hy, rfl⟩ := List.mem_map.mp hx
            exact Int.mul_neg_of_neg_of_pos tn (h y hy)
          · refine .inl fun x hx => ?_
            rw [ht] at hx
            obtain ⟨y, hy, rfl⟩ := List.mem_map.mp hx
            exact Int.mul_pos tp (h y hy)
      rcases O with ⟨⟨c, hc, hne⟩, _⟩ | ⟨_, ⟨g, e'⟩ | ⟨ng, e'⟩⟩
      · exact absurd (tot0 c hc) hne
      · have all := gd.mp g
        rcases hv with ⟨e, _⟩ | ⟨_, x, hx, hle⟩
        · rw [e, e', gt, ht]
          congr 1
          rw [List.map_map]
          have : (R.map ((fun x : Int => (x.natAbs : Int).fdiv (t.natAbs : Int)) ∘ fun x => t * x)) = R := by
            conv => rhs; rw [← List.map_id R]
            refine List.map_congr_left fun x hx => ?_
            have xp := all x hx
            show ((t * x).natAbs : Int).fdiv (t.natAbs : Int) = x
            refine fdiv_of (by omega) ?_
            rw [Int.natAbs_mul]
            push_cast
            congr 1
            omega
          rw [this]
        · have := all x hx
          omega
      · rcases hv with ⟨_, all⟩ | ⟨e, _⟩
        · exact absurd (gd.mpr all) ng
        · rw [e, e']
  · rcases hd with ⟨e', _⟩ | ⟨u, hu, hg, O⟩
    · rw [e, e']
    · have I := K.ind
      have := (EV_ind hw h1 V.length).mp (by rw [List.take_of_length_le (by rw [EV_len]; exact Nat.le_refl _)]; exact I)
      rw [List.take_length] at this
      rw [e, due_ind h1 this hg O]
end PL.T

namespace PL.T
open PL
variable {fe : FE}
def Sm9 (x : Int) : Prop := x.natAbs ≤ 1000000000
abbrev Vsv (fr : List Int) (ct wd : Int) (lg : Bool) (M : List (List Int)) (x5 x6 x7 x8 : Sl) : S := [.bw (il fr), oi ct, oi wd, .ow (.fz (.bl lg)), .ow (mt M), x5, x6, x7, x8]
def veB : Ss := (.cons (.asg 8 (.bi .int (.cons (.idx (.v 0) (.bin .add (.bin .add (.c (.int 4)) (.bin .mul (.v 5) (.v 2))) (.v 7))) .nil))) (.cons (.iff (.truth (.v 3)) (.cons (.app (.v 6) (.bin .sub (.bin .mod (.bi .int (.cons (.bin .add (.bin .add (.bin .mul (.v 8) (.c (.int 48271))) (.bin .mul (.v 7) (.c (.int 69621)))) (.v 5)) .nil)) (.bin .add (.bin .mul (.c (.int 2)) (.bin .pow (.c (.int 10)) (.c (.int 9)))) (.c (.int 1)))) (.bin .pow (.c (.int 10)) (.c (.int 9))))) .nil) (.cons (.app (.v 6) (.bin .sub (.bin .mod (.v 8) (.c (.int 9))) (.c (.int 4)))) .nil)) .nil))
theorem mul29 : mulOk 2 1000000000 = true := by decide +kernel
theorem ve_step (fr : List Int) (hb : ∀ z ∈ fr, Big z) (ct wd : Int) (lg : Bool) (M : List (List Int)) (a k : Int) (j : Nat) (l : List Int) (x8 : Sl) (hl : l.length < szLine) (hj : 4 + a * wd + k = j) (hj2 : j < fr.length) (ha : a.natAbs ≤ 1000) (hk : k.natAbs ≤ 1000) (hwd : wd.natAbs ≤ 1000) :
    ∃ v y, Sm9 v ∧ exes fe veB (Vsv fr ct wd lg M (oi a) (.ow (il l)) (oi k) x8) = .nx (Vsv fr ct wd lg M (oi a) (.ow (il (l ++ [v]))) (oi k) y) := by
  have g : atP (fr.map iv) (4 + a * wd + k) = some (iv fr[j]) := by
    rw [hj, atP_nat (by rw [List.length_map]; exact hj2), List.getElem_map]
  have m0 : mulOk a wd = true := mulOk_of (a := 20) (b := 20) (log_small (by omega)) (log_small (by omega)) (by decide)
  have m1 : mulOk fr[j] 48271 = true := mulOk_of (a := 1048576) (b := 15) (hb _ (List.getElem_mem hj2)) (by decide +kernel) (by decide)
  have m2 : mulOk k 69621 = true := mulOk_of (a := 20) (b := 16) (log_small (by omega)) (by decide +kernel) (by decide)
  have q1 : exe fe (.asg 8 (.bi .int (.cons (.idx (.v 0) (.bin .add (.bin .add (.c (.int 4)) (.bin .mul (.v 5) (.v 2))) (.v 7))) .nil))) (Vsv fr ct wd lg M (oi a) (.ow (il l)) (oi k) x8) = .nx (Vsv fr ct wd lg M (oi a) (.ow (il l)) (oi k) (oi fr[j])) := by
    refine exe_asg (S' := Vsv fr ct wd lg M (oi a) (.ow (il l)) (oi k) x8) (v := iv fr[j]) ?_
    simp [ev, evBs, rd, valOf, isPath, binop, mulV, addV, m0, getIt, getN, g, biop, intV]
  cases lg with
  | true =>
    have r := fmod_range (fr[j] * 48271 + k * 69621 + a) (m := 2000000001) (by decide)
    refine ⟨(fr[j] * 48271 + k * 69621 + a).fmod 2000000001 - 1000000000, oi fr[j], by unfold Sm9; omega, (exes_cons q1).trans (exes_one ((exe_iff_t (S' := Vsv fr ct wd true M (oi a) (.ow (il l)) (oi k) (oi fr[j])) ?_).trans (exes_one ?_)))⟩
    · simp [ev, tstOf, rd, tru, SV.pv]
    · simp [exe, evP, ev, evBs, rd, getL, getO, getAt, asL, elemOf, valOf, isPath, isKeep, binop, modV, subV, addV, mulV, powV, biop, intV, m1, m2, mul29, updS, updAt, gApp, hl, SV.pv]
  | false =>
    have r := fmod_range fr[j] (m := 9) (by decide)
    refine ⟨fr[j].fmod 9 - 4, oi fr[j], by unfold Sm9; omega, (exes_cons q1).trans (exes_one ((exe_iff_f (S' := Vsv fr ct wd false M (oi a) (.ow (il l)) (oi k) (oi fr[j])) ?_).trans (exes_one ?_)))⟩
    · simp [ev, tstOf, rd, tru, SV.pv]
    · simp [exe, evP, ev, rd, getL, getO, getAt, asL, elemOf, valOf, isPath, isKeep, binop, modV, subV, updS, updAt, gApp, hl, SV.pv]
def vecB : Ss := (.cons (.asg 6 (.lst .nil)) (.cons (.forr (.nm 7) (.r1 (.v 2)) veB) (.cons (.app (.v 4) (.f 6)) .nil)))
theorem vec_ok (fr : List Int) (hb : ∀ z ∈ fr, Big z) (ct : Int) (wd : Nat) (lg : Bool) (M : List (List Int)) (a : Nat) (x6 x7 x8 : Sl) (hw : wd ≤ 1000) (ha : a ≤ 1000) (hfr : 4 + a * wd + wd ≤ fr.length) (hM : M.length < szLine) :
    ∃ l y7 y8, l.length = wd ∧ (∀ v ∈ l, Sm9 v) ∧ exes fe vecB (Vsv fr ct wd lg M (oi a) x6 x7 x8) = .nx (Vsv fr ct wd lg (M ++ [l]) (oi a) (.ow (.fz (pl l))) y7 y8) := by
  have q1 : exe fe (.asg 6 (.lst .nil)) (Vsv fr ct wd lg M (oi a) x6 x7 x8) = .nx (Vsv fr ct wd lg M (oi a) (.ow (il [])) x7 x8) := by
    refine exe_asg (S' := Vsv fr ct wd lg M (oi a) x6 x7 x8) (v := il []) ?_
    simp [ev, evs, valOf, isPath, il]
  have hI : evI fe (.r1 (.v 2)) (Vsv fr ct wd lg M (oi a) (.ow (il [])) x7 x8) = .ok ((rangeL 0 wd, []), Vsv fr ct wd lg M (oi a) (.ow (il [])) x7 x8) := by
    have k1 : r62 (wd : Int) = true := r62_of2 (by omega)
    simp [evI, ev, rd, asInt, SV.pv, k1]
  obtain ⟨S', h1, l, y7, y8, h2, h3, h4⟩ := loopF_rel (tg := .nm 7) (body := exes fe veB) (its := rangeL 0 wd) (S := Vsv fr ct wd lg M (oi a) (.ow (il [])) x7 x8)
    (fun i S => ∃ l y7 y8, S = Vsv fr ct wd lg M (oi a) (.ow (il l)) y7 y8 ∧ l.length = i ∧ ∀ v ∈ l, Sm9 v) ⟨[], x7, x8, rfl, rfl, fun _ h => nomatch h⟩ (fun i S x hx ⟨l, y7, y8, e1, e2, e3⟩ => by
      subst e1
      obtain ⟨e4, e5⟩ := rangeL_get hx
      subst e4
      have hi : i < wd := by omega
      rw [Int.zero_add]
      have hlt : 4 + a * wd + i < fr.length := by omega
      have hl : l.length < szLine := by unfold szLine; omega
      obtain ⟨v, y, h5, h6⟩ := ve_step (fe := fe) fr hb ct wd lg M a i (4 + a * wd + i) l y8 hl (by push_cast; rfl) hlt (by omega) (by omega) (by omega)
      refine ⟨Vsv fr ct wd lg M (oi a) (.ow (il l)) (oi i) y8, rfl, _, .inl h6, l ++ [v], oi i, y, rfl, by rw [List.length_append, e2]; rfl, fun u hu => ?_⟩
      rcases List.mem_append.mp hu with hu | hu
      · exact e3 u hu
      · rw [List.mem_singleton.mp hu]; exact h5)
  rw [rangeL_len] at h3
  have e : ((wd : Int) - 0).toNat = wd := by omega
  rw [e] at h3
  subst h2
  have q2 := exe_forr hI h1
  have p := pvs_ints l
  have q3 : exe fe (.app (.v 4) (.f 6)) (Vsv fr ct wd lg M (oi a) (.ow (il l)) y7 y8) = .nx (Vsv fr ct wd lg (M ++ [l]) (oi a) (.ow (.fz (pl l))) y7 y8) := by
    simp [exe, evP, ev, getL, getO, getAt, asL, elemOf, valOf, isPath, isKeep, updS, updAt, gApp, hM, SV.pv, p]
  exact ⟨l, y7, y8, h3, h4, (exes_cons q1).trans ((exes_cons q2).trans (exes_one q3))⟩
theorem fe_vec (k : Nat) (a b c d : Sl) : FEn tbl (k + 1) 16 [a, b, c, d] = fin (exes (FEn tbl k) b__law_vectors [a, b, c, d, .no, .no, .no, .no, .no]) := rfl
theorem vectors_ok (k : Nat) (fr : List Int) (hb : ∀ z ∈ fr, Big z) (ct wd : Nat) (lg : Bool) (hc : ct ≤ 1000) (hw : wd ≤ 1000) (hfr : 4 + ct * wd ≤ fr.length) :
    ∃ M : List (List Int), M.length = ct ∧ (∀ r ∈ M, r.length = wd) ∧ (∀ r ∈ M, ∀ x ∈ r, Sm9 x) ∧ FEn tbl (k + 1) 16 [.bw (il fr), oi ct, oi wd, .ow (.fz (.bl lg))] = .ok (mt M) := by
  rw [fe_vec]
  have q1 : exe (FEn tbl k) (.asg 4 (.lst .nil)) [.bw (il fr), oi ct, oi wd, .ow (.fz (.bl lg)), .no, .no, .no, .no, .no] = .nx (Vsv fr ct wd lg [] .no .no .no .no) := by
    refine exe_asg (S' := [.bw (il fr), oi ct, oi wd, .ow (.fz (.bl lg)), .no, .no, .no, .no, .no]) (v := mt []) ?_
    simp [ev, evs, valOf, isPath]
  have hI : evI (FEn tbl k) (.r1 (.v 1)) (Vsv fr ct wd lg [] .no .no .no .no) = .ok ((rangeL 0 ct, []), Vsv fr ct wd lg [] .no .no .no .no) := by
    have k1 : r62 (ct : Int) = true := r62_of2 (by omega)
    simp [evI, ev, rd, asInt, SV.pv, k1]
  obtain ⟨S', h1, M, y5, y6, y7, y8, h2, h3, h4, h5⟩ := loopF_rel (tg := .nm 5) (body := exes (FEn tbl k) vecB) (its := rangeL 0 ct) (S := Vsv fr ct wd lg [] .no .no .no .no)
    (fun i S => ∃ M x5 x6 x7 x8, S = Vsv fr ct wd lg M x5 x6 x7 x8 ∧ M.length = i ∧ (∀ r ∈ M, r.length = wd) ∧ ∀ r ∈ M, ∀ x ∈ r, Sm9 x) ⟨[], .no, .no, .no, .no, rfl, rfl, (fun _ h => nomatch h), (fun _ h => nomatch h)⟩ (fun i S x hx ⟨M, x5, x6, x7, x8, e1, e2, e3, e4⟩ => by
      subst e1
      obtain ⟨e5, e6⟩ := rangeL_get hx
      subst e5
      have hi : i < ct := by omega
      rw [Int.zero_add]
      have hle : 4 + i * wd + wd ≤ fr.length := by
        have : (i + 1) * wd ≤ ct * wd := Nat.mul_le_mul_right _ hi
        rw [Nat.add_mul] at this
        omega
      obtain ⟨l, y7, y8, k1, k2, k3⟩ := vec_ok (fe := FEn tbl k) fr hb ct wd lg M i x6 x7 x8 hw (by omega) hle (by unfold szLine; omega)
      refine ⟨Vsv fr ct wd lg M (oi i) x6 x7 x8, rfl, _, .inl k3, M ++ [l], oi i, _, y7, y8, rfl, by rw [List.length_append, e2]; rfl, fun r hr => ?_, fun r hr => ?_⟩
      · rcases List.mem_append.mp hr with hr | hr
        · exact e3 r hr
        · rw [List.mem_singleton.mp hr]; exact k1
      · rcases List.mem_append.mp hr with hr | hr
        · exact e4 r hr
        · rw [List.mem_singleton.mp hr]; exact k2)
  rw [rangeL_len] at h3
  have e : ((ct : Int) - 0).toNat = ct := by omega
  rw [e] at h3
  subst h2
  exact ⟨M, h3, h4, h5, congrArg fin ((exes_cons q1).trans ((exes_cons (exe_forr hI h1)).trans (exes_rt rfl)))⟩
theorem fe_free (k : Nat) (a b : Sl) : FEn tbl (k + 1) 8 [a, b] = fin (exes (FEn tbl k) b__law_free (stS ⟨2, 8, b__law_free⟩ [a, b])) := rfl
theorem free_eq : b__law_free = freeS := rfl
theorem free_fe (k : Nat) (ns : List Int) (hn : ns.length ≤ 63) (hb : ∀ z ∈ ns, Big z) : ∃ l : List Int, FEn tbl (k + 1) 8 [.ow (.fz (.scr ns)), oi 40] = .ok (il l) ∧ 40 ≤ l.length ∧ ∀ z ∈ l, Big z := by
  obtain ⟨l, h1, h2, _, h4⟩ := free_S (fe := FEn tbl k) ns hn hb 40 (by decide)
  refine ⟨l, ?_, h2, h4⟩
  rw [fe_free, free_eq]
  exact h1
end PL.T

namespace PL.T
open PL
def Tab43 (T : List (List Int)) (n w : Nat) : Prop := T.length = n ∧ (∀ r ∈ T, r.length = w) ∧ ∀ r ∈ T, ∀ x ∈ r, Bd 43 x
structure Calls (fe : FE) : Prop where
  f16 : ∀ fr : List Int, (∀ z ∈ fr, Big z) → ∀ (ct wd : Nat) (lg : Bool), ct ≤ 1000 → wd ≤ 1000 → 4 + ct * wd ≤ fr.length → ∃ M : List (List Int), M.length = ct ∧ (∀ r ∈ M, r.length = wd) ∧ (∀ r ∈ M, ∀ x ∈ r, Sm9 x) ∧ fe 16 [.bw (il fr), oi ct, oi wd, .ow (.fz (.bl lg))] = .ok (mt M)
  f4 : ∀ (V : List (List Int)) (n w : Nat), n ≤ 5 → w ≤ 3 → 1 ≤ w → Tab43 V n w → ∃ a, fe 4 [.bw (mt V)] = .ok (.fz a) ∧ (a = .non ∨ ∃ i : Nat, a = .int i) ∧ fe 15 [.bw (mt V), oi w] = .ok (.fz a)
  f5 : ∀ (V : List (List Int)) (n w : Nat), n ≤ 5 → w ≤ 3 → 1 ≤ w → Tab43 V n w → ∃ v, fe 5 [.bw (mt V)] = .ok (.fz v) ∧ (v = .non ∨ ∃ R : List Int, v = tpl R ∧ R.length = n) ∧ (n = 0 → v = .non) ∧ (1 ≤ n → fe 14 [.bw (mt V), oi w] = .ok (.fz v))
  f7 : ∀ x : Int, fe 7 [oi x] = .ok (.fz (.bl true))
theorem calls (k : Nat) : Calls (FEn tbl (k + 5)) where
  f16 := fun fr hb ct wd lg hc hw hfr => vectors_ok (k + 4) fr hb ct wd lg hc hw hfr
  f4 := fun V n w hn hw h1 hV => by
    obtain ⟨hl, hr, hb⟩ := hV
    obtain ⟨b, c1, hbv⟩ := first_ok (k + 2) V w hw (by omega) hr hb
    rcases fd_ok (k + 1) V w (by omega) (by omega) hr hb with ⟨i, r, c2, D⟩ | ⟨kp, c2, K⟩
    · have e := first_eq h1 hr hb (a := .int i) (b := b) (.inl ⟨i, r, rfl, D⟩) hbv
      exact ⟨_, c2, .inr ⟨i, rfl⟩, by rw [e]; exact c1⟩
    · have e := first_eq h1 hr hb (a := .non) (b := b) (.inr ⟨kp, rfl, K⟩) hbv
      exact ⟨_, c2, .inl rfl, by rw [e]; exact c1⟩
  f5 := fun V n w hn hw h1 hV => by
    obtain ⟨hl, hr, hb⟩ := hV
    obtain ⟨v, c1, hc⟩ := can_ok (k + 1) V w (by omega) (by omega) hr hb
    refine ⟨v, c1, ?_, fun h0 => ?_, fun hn1 => ?_⟩
    · rcases hc with ⟨e, _⟩ | ⟨r, D, ⟨e, _⟩ | ⟨e, _⟩⟩ | ⟨e, _⟩
      · exact .inl e
      · refine .inr ⟨_, e, ?_⟩
        obtain ⟨hi, _⟩ := D
        rw [EV_len] at hi
        obtain ⟨ll, _⟩ := dep_rel (by omega) hr hb ⟨by rw [EV_len]; exact hi, ‹_›⟩
        rw [sgL_len, low_len, ll, hl]
      · exact .inl e
      · exact .inl e
    · rcases hc with ⟨e, _⟩ | ⟨r, D, ⟨e, _⟩ | ⟨e, _⟩⟩ | ⟨e, _⟩
      · exact e
      · obtain ⟨hi, _⟩ := D
        rw [EV_len] at hi
        omega
      · exact e
      · exact e
    · obtain ⟨v', c2, hd⟩ := due_ok (k + 2) V w hw (by omega) (by omega) hr hb
      rw [can_eq (by omega) h1 hr hb hc hd]
      exact c2
  f7 := fun x => integer_ok (fe := FEn tbl (k + 4)) x
variable {fe : FE}
theorem range_nat (z : Int) {k : Int} (h : 0 < k) : ∃ n : Nat, (n : Int) = z.fmod k ∧ (n : Int) < k := by
  have := fmod_range z h
  exact ⟨(z.fmod k).toNat, by omega, by omega⟩
abbrev A16 (sc : Sl) (l : List Int) (n w : Int) (x4 x5 x6 x7 x8 x9 x10 x11 x12 x13 x14 x15 : Sl) : S := [sc, .ow (il l), oi n, oi w, x4, x5, x6, x7, x8, x9, x10, x11, x12, x13, x14, x15]
theorem head_law (C : Calls fe) (sc : Sl) (l : List Int) (hl : 40 ≤ l.length) (hb : ∀ z ∈ l, Big z) :
    ∃ (n w : Nat) (V : List (List Int)), n ≤ 4 ∧ 1 ≤ w ∧ w ≤ 3 ∧ V.length = n ∧ (∀ r ∈ V, r.length = w) ∧ (∀ r ∈ V, ∀ x ∈ r, Sm9 x) ∧
      ∀ rest, exes fe (.cons (.asg 2 (.bin .mod (.bi .int (.cons (.idx (.v 1) (.c (.int 0))) .nil)) (.c (.int 5)))) (.cons (.asg 3 (.bin .add (.c (.int 1)) (.bin .mod (.bin .fdiv (.bi .int (.cons (.idx (.v 1) (.c (.int 0))) .nil)) (.c (.int 5))) (.c (.int 3))))) (.cons (.asg 4 (.call 16 (.cons (.v 1) (.cons (.v 2) (.cons (.v 3) (.cons (.cmp .eq (.bin .mod (.bi .int (.cons (.idx (.v 1) (.c (.int 1))) .nil)) (.c (.int 5))) (.c (.int 3))) .nil)))))) rest))) [sc, .ow (il l), .no, .no, .no, .no, .no, .no, .no, .no, .no, .no, .no, .no, .no, .no] = exes fe rest (A16 sc l n w (.ow (mt V)) .no .no .no .no .no .no .no .no .no .no .no) := by
  have g0 := atP_iv (l := l) (i := 0) (k := 0) rfl (by omega)
  have g1 := atP_iv (l := l) (i := 1) (k := 1) rfl (by omega)
  obtain ⟨n, en, n5⟩ := range_nat (l[0]'(by omega)) (k := 5) (by decide)
  obtain ⟨w', ew, w3⟩ := range_nat ((l[0]'(by omega)).fdiv 5) (k := 3) (by decide)
  obtain ⟨w, ew⟩ : ∃ w : Nat, (w : Int) = (1 : Int) + ((l[0]'(by omega)).fdiv 5).fmod 3 := ⟨1 + w', by omega⟩
  have w1 : 1 ≤ w := by omega
  have w33 : w ≤ 3 := by omega
  obtain ⟨lg, hlg⟩ : ∃ lg, ((l[1]'(by omega)).fmod 5 == 3) = lg := ⟨_, rfl⟩
  obtain ⟨V, t1, t2, t3, t4⟩ := C.f16 l hb n w lg (by omega) (by omega) (by
    have : n * w ≤ 4 * 3 := Nat.mul_le_mul (by omega) (by omega)
    omega)
  refine ⟨n, w, V, by omega, by omega, by omega, t1, t2, t3, fun rest => ?_⟩
  have z5 : ((5 : Int) != 0) = true := rfl
  have z3 : ((3 : Int) != 0) = true := rfl
  have q1 : exe fe (.asg 2 (.bin .mod (.bi .int (.cons (.idx (.v 1) (.c (.int 0))) .nil)) (.c (.int 5)))) [sc, .ow (il l), .no, .no, .no, .no, .no, .no, .no, .no, .no, .no, .no, .no, .no, .no] = .nx [sc, .ow (il l), oi n, .no, .no, .no, .no, .no, .no, .no, .no, .no, .no, .no, .no, .no] := by
    refine exe_asg (S' := [sc, .ow (il l), .no, .no, .no, .no, .no, .no, .no, .no, .no, .no, .no, .no, .no, .no]) (v := iv n) ?_
    simp only [ev, evBs, rd, List.getElem?_cons_succ, List.getElem?_cons_zero, Res.bind_ok, getIt, getN, g0, biop, intV, Res.noex_ok, binop, modV, z5, Res.guard_true, valOf, isPath, en]
  have q2 : exe fe (.asg 3 (.bin .add (.c (.int 1)) (.bin .mod (.bin .fdiv (.bi .int (.cons (.idx (.v 1) (.c (.int 0))) .nil)) (.c (.int 5))) (.c (.int 3))))) [sc, .ow (il l), oi n, .no, .no, .no, .no, .no, .no, .no, .no, .no, .no, .no, .no, .no] = .nx [sc, .ow (il l), oi n, oi w, .no, .no, .no, .no, .no, .no, .no, .no, .no, .no, .no, .no] := by
    refine exe_asg (S' := [sc, .ow (il l), oi n, .no, .no, .no, .no, .no, .no, .no, .no, .no, .no, .no, .no, .no]) (v := iv w) ?_
    simp only [ev, evBs, rd, List.getElem?_cons_succ, List.getElem?_cons_zero, Res.bind_ok, getIt, getN, g0, biop, intV, Res.noex_ok, binop, modV, fdivV, divOk_5, z3, Res.guard_true, addV, valOf, isPath, ew]
  have a1 : evA fe (.cons (.v 1) (.cons (.v 2) (.cons (.v 3) (.cons (.cmp .eq (.bin .mod (.bi .int (.cons (.idx (.v 1) (.c (.int 1))) .nil)) (.c (.int 5))) (.c (.int 3))) .nil)))) [sc, .ow (il l), oi n, oi w, .no, .no, .no, .no, .no, .no, .no, .no, .no, .no, .no, .no] = .ok ([.bw (il l), oi n, oi w, .ow (.fz (.bl lg))], [sc, .ow (il l), oi n, oi w, .no, .no, .no, .no, .no, .no, .no, .no, .no, .no, .no, .no]) := by
    simp only [evA, ev, evBs, rd, List.getElem?_cons_succ, List.getElem?_cons_zero, Res.bind_ok, getIt, getN, g1, biop, intV, Res.noex_ok, binop, modV, z5, Res.guard_true, SV.pv, cmp_eq_int, argOf, isPath, lend, hlg]
  have c1 := ev_call a1 t4
  have q4 := exe_asg (i := 4) (e := .call 16 (.cons (.v 1) (.cons (.v 2) (.cons (.v 3) (.cons (.cmp .eq (.bin .mod (.bi .int (.cons (.idx (.v 1) (.c (.int 1))) .nil)) (.c (.int 5))) (.c (.int 3))) .nil))))) (S' := [sc, .ow (il l), oi n, oi w, .no, .no, .no, .no, .no, .no, .no, .no, .no, .no, .no, .no]) (v := mt V) (by rw [c1]; rfl)
  exact (exes_cons q1).trans ((exes_cons q2).trans (exes_cons q4))
def mixB : Ss := (.cons (.iff (.cmp .ne (.v 12) (.v 10)) (.cons (.asg 9 (.bin .add (.c (.int 1)) (.bin .mod (.bi .int (.cons (.idx (.v 1) (.bin .add (.c (.int 20)) (.v 12))) .nil)) (.c (.int 3))))) (.cons (.asg 11 (.comp (.tp [14, 15]) (.zip (.v 11) (.idx (.v 4) (.v 12))) .nil (.bin .sub (.v 14) (.bin .mul (.v 9) (.v 15))) [14, 15])) .nil)) .nil) .nil)
theorem mix_step (sc : Sl) (l : List Int) (hl : 40 ≤ l.length) (n w : Nat) (V : List (List Int)) (p : Int) (i : Nat) (hi : i < V.length) (hn : V.length ≤ 4) (hw : ∀ r ∈ V, r.length = w) (hw3 : w ≤ 3) (hs : ∀ r ∈ V, ∀ x ∈ r, Sm9 x) (tot : List Int) (ht : tot.length = w) (hb : ∀ x ∈ tot, x.natAbs ≤ 3000000000 * i) (x9 x13 x14 x15 : Sl) :
    ∃ tot' y9, tot'.length = w ∧ (∀ x ∈ tot', x.natAbs ≤ 3000000000 * (i + 1)) ∧ exes fe mixB (A16 sc l n w (.ow (mt V)) .no .no .no .no x9 (oi p) (.ow (il tot)) (oi i) x13 x14 x15) = .nx (A16 sc l n w (.ow (mt V)) .no .no .no .no y9 (oi p) (.ow (il tot')) (oi i) x13 x14 x15) := by
  have tst : tstOf (ev fe (.cmp .ne (.v 12) (.v 10)) (A16 sc l n w (.ow (mt V)) .no .no .no .no x9 (oi p) (.ow (il tot)) (oi i) x13 x14 x15)) = .ok (!((i : Int) == p), A16 sc l n w (.ow (mt V)) .no .no .no .no x9 (oi p) (.ow (il tot)) (oi i) x13 x14 x15) := by
    simp only [ev, tstOf, rd, List.getElem?_cons_succ, List.getElem?_cons_zero, Res.bind_ok, SV.pv, cmp_ne_int, Res.noex_ok]
  cases hc : (!((i : Int) == p)) with
  | false =>
    rw [hc] at tst
    exact ⟨tot, x9, ht, fun x hx => by have := hb x hx; omega, exes_one ((exe_iff_f tst).trans rfl)⟩
  | true =>
    rw [hc] at tst
    have e20 : (20 : Int) + (i : Int) = ((20 + i : Nat) : Int) := by push_cast; rfl
    have g20 := atP_iv (l := l) (i := (20 : Int) + (i : Int)) (k := 20 + i) e20 (by omega)
    have z3 : ((3 : Int) != 0) = true := rfl
    have rg := fmod_range (l[20 + i]'(by omega)) (m := 3) (by decide)
    obtain ⟨c, hcv⟩ : ∃ c, 1 + (l[20 + i]'(by omega)).fmod 3 = c := ⟨_, rfl⟩
    have q1 : exe fe (.asg 9 (.bin .add (.c (.int 1)) (.bin .mod (.bi .int (.cons (.idx (.v 1) (.bin .add (.c (.int 20)) (.v 12))) .nil)) (.c (.int 3))))) (A16 sc l n w (.ow (mt V)) .no .no .no .no x9 (oi p) (.ow (il tot)) (oi i) x13 x14 x15) = .nx (A16 sc l n w (.ow (mt V)) .no .no .no .no (oi c) (oi p) (.ow (il tot)) (oi i) x13 x14 x15) := by
      refine exe_asg (S' := A16 sc l n w (.ow (mt V)) .no .no .no .no x9 (oi p) (.ow (il tot)) (oi i) x13 x14 x15) (v := iv c) ?_
      simp only [ev, evBs, rd, List.getElem?_cons_succ, List.getElem?_cons_zero, Res.bind_ok, getIt, getN, binop, addV, g20, biop, intV, Res.noex_ok, modV, z3, Res.guard_true, valOf, isPath, hcv]
    have hvl := hw _ (List.getElem_mem hi)
    have gv := atP_mt (W := V) (i := (i : Int)) rfl hi
    have hI : evI fe (.zip (.v 11) (.idx (.v 4) (.v 12))) (A16 sc l n w (.ow (mt V)) .no .no .no .no (oi c) (oi p) (.ow (il tot)) (oi i) x13 x14 x15) = .ok ((zipI tot V[i], [(11, il tot)]), A16 sc l n w (.ow (mt V)) .no .no .no .no (oi c) (oi p) (.ow (il tot)) (oi i) x13 x14 x15) := by
      have e1 : (tot.map iv).map lend = tot.map oi := by rw [List.map_map]; rfl
      have e2 : (V[i].map PV.int).map fzI = V[i].map oi := by rw [List.map_map]; rfl
      have g : ((0 : Nat) != 2 && (0 : Nat) != 2) = true := rfl
      simp only [evI, ev, rd, List.getElem?_cons_succ, List.getElem?_cons_zero, Res.bind_ok, srOf, valOf, isPath, getIt, getN, gv, SV.pv, srcAt, srcV, srcP, e1, e2, g, Res.guard_true, List.append_nil]
      rfl
    have hc2 := ev_comp1 (fe := fe) (tg := .tp [14, 15]) (it := .zip (.v 11) (.idx (.v 4) (.v 12))) (el := .bin .sub (.v 14) (.bin .mul (.v 9) (.v 15))) (ws := [14, 15]) (S := A16 sc l n w (.ow (mt V)) .no .no .no .no (oi c) (oi p) (.ow (il tot)) (oi i) x13 x14 x15) (its := zipI tot V[i]) (g := g2 fun a b => a - c * b) (i := 11) (s := il tot)
      hI rfl (by unfold zipI; rw [List.length_zipWith, List.length_map]; unfold szLine; omega) (fun x hx => by
        obtain ⟨a, b, ha, hb', rfl⟩ := zipI_mem hx
        have h1 := hs _ (List.getElem_mem hi) b hb'
        unfold Sm9 at h1
        have m : mulOk c b = true := mulOk_of (a := 20) (b := 40) (log_small (by omega)) (log_small (by omega)) (by decide)
        refine ⟨A16 sc l n w (.ow (mt V)) .no .no .no .no (oi c) (oi p) (.bw (il tot)) (oi i) x13 (oi a) (oi b), A16 sc l n w (.ow (mt V)) .no .no .no .no (oi c) (oi p) (.bw (il tot)) (oi i) x13 (oi a) (oi b), rfl, ?_, ?_⟩
        · simp only [ev, rd, List.getElem?_cons_succ, List.getElem?_cons_zero, Res.bind_ok, binop, mulV, m, Res.guard_true, Res.noex_ok, subV, elemOf, valOf, isPath, isKeep, SV.pv, g2]
        · refine ⟨rfl, fun j hj => ?_⟩
          have h14 : j ≠ 14 := by intro e; exact hj (by rw [e]; simp)
          have h15 : j ≠ 15 := by intro e; exact hj (by rw [e]; simp)
          rcases j with _ | _ | _ | _ | _ | _ | _ | _ | _ | _ | _ | _ | _ | _ | _ | _ | j <;> first | rfl | exact absurd rfl h14 | exact absurd rfl h15)
    rw [zipI_map] at hc2
    have q2 := exe_asg (i := 11) (e := .comp (.tp [14, 15]) (.zip (.v 11) (.idx (.v 4) (.v 12))) .nil (.bin .sub (.v 14) (.bin .mul (.v 9) (.v 15))) [14, 15]) (S' := A16 sc l n w (.ow (mt V)) .no .no .no .no (oi c) (oi p) (.ow (il tot)) (oi i) x13 x14 x15) (v := il (List.zipWith (fun a b => a - c * b) tot V[i])) (by rw [hc2]; rfl)
    refine ⟨List.zipWith (fun a b => a - c * b) tot V[i], oi c, by rw [List.length_zipWith, ht, hvl, Nat.min_self], fun x hx => ?_, (exes_one ((exe_iff_t tst).trans ((exes_cons q1).trans (exes_one q2))))⟩
    obtain ⟨j, hj, e⟩ := List.getElem_of_mem hx
    rw [List.length_zipWith] at hj
    rw [List.getElem_zipWith] at e
    have h1 := hb _ (List.getElem_mem (show j < tot.length by omega))
    have h2 := hs _ (List.getElem_mem hi) _ (List.getElem_mem (show j < V[i].length by omega))
    unfold Sm9 at h2
    rw [← e]
    have : (c * V[i][j]).natAbs ≤ 3 * 1000000000 := by
      rw [Int.natAbs_mul]; exact Nat.mul_le_mul (by omega) h2
    omega
def spoilS : Sx := .iff (.andd (.cmp .eq (.bin .mod (.bi .int (.cons (.idx (.v 1) (.c (.int 2))) .nil)) (.c (.int 2))) (.c (.int 1))) (.cmp .gt (.v 2) (.c (.int 0)))) (.cons (.asg 10 (.bin .mod (.bin .fdiv (.bi .int (.cons (.idx (.v 1) (.c (.int 2))) .nil)) (.c (.int 2))) (.v 2))) (.cons (.asg 11 (.bin .mul (.lst (.cons (.c (.int 0)) .nil)) (.v 3))) (.cons (.forr (.nm 12) (.r1 (.v 2)) mixB) (.cons (.setI (.v 4) (.v 10) (.f 11)) .nil)))) .nil
theorem spoil_ok (sc : Sl) (l : List Int) (hl : 40 ≤ l.length) (n w : Nat) (V : List (List Int)) (hV : V.length = n) (hn : n ≤ 4) (hw : ∀ r ∈ V, r.length = w) (hw3 : w ≤ 3) (hs : ∀ r ∈ V, ∀ x ∈ r, Sm9 x) :
    ∃ V' x9 x10 x11 x12, Tab43 V' n w ∧ exe fe spoilS (A16 sc l n w (.ow (mt V)) .no .no .no .no .no .no .no .no .no .no .no) = .nx (A16 sc l n w (.ow (mt V')) .no .no .no .no x9 x10 x11 x12 .no .no .no) := by
  have s43 : ∀ x : Int, x.natAbs ≤ 100000000000 → Bd 43 x := fun x h => by
    unfold Bd
    have : (100000000000 : Nat) < 2 ^ 43 := by decide
    omega
  have bV : ∀ r ∈ V, ∀ x ∈ r, Bd 43 x := fun r hr x hx => s43 x (by have := hs r hr x hx; unfold Sm9 at this; omega)
  have g2 := atP_iv (l := l) (i := 2) (k := 2) rfl (by omega)
  have z2 : ((2 : Int) != 0) = true := rfl
  have tst : tstOf (ev fe (.andd (.cmp .eq (.bin .mod (.bi .int (.cons (.idx (.v 1) (.c (.int 2))) .nil)) (.c (.int 2))) (.c (.int 1))) (.cmp .gt (.v 2) (.c (.int 0)))) (A16 sc l n w (.ow (mt V)) .no .no .no .no .no .no .no .no .no .no .no)) = .ok ((l[2]'(by omega)).fmod 2 == 1 && decide ((0 : Int) < (n : Int)), A16 sc l n w (.ow (mt V)) .no .no .no .no .no .no .no .no .no .no .no) := by
    cases h : ((l[2]'(by omega)).fmod 2 == 1) with
    | false => simp only [ev, evBs, tstOf, rd, List.getElem?_cons_succ, List.getElem?_cons_zero, Res.bind_ok, getIt, getN, g2, biop, intV, Res.noex_ok, binop, modV, z2, Res.guard_true, SV.pv, cmp_eq_int, h, Bool.false_and]
    | true =>
      have cg : cmpop .gt (.int (n : Int)) (.int 0) = .ok (.bl (decide ((0 : Int) < (n : Int)))) := rfl
      simp only [ev, evBs, tstOf, rd, List.getElem?_cons_succ, List.getElem?_cons_zero, Res.bind_ok, getIt, getN, g2, biop, intV, Res.noex_ok, binop, modV, z2, Res.guard_true, SV.pv, cmp_eq_int, h, cg, Bool.true_and]
  cases hc : ((l[2]'(by omega)).fmod 2 == 1 && decide ((0 : Int) < (n : Int))) with
  | false =>
    rw [hc] at tst
    exact ⟨V, .no, .no, .no, .no, ⟨hV, hw, bV⟩, (exe_iff_f tst).trans rfl⟩
  | true =>
    rw [hc] at tst
    have hn0 : (0 : Int) < (n : Int) := by
      rw [Bool.and_eq_true] at hc
      exact of_decide_eq_true hc.2
    obtain ⟨p, ep, p1⟩ := range_nat ((l[2]'(by omega)).fdiv 2) (k := (n : Int)) hn0
    have d2 : divOk 2 = true := by decide +kernel
    have zn : ((n : Int) != 0) = true := by simp; omega
    have q1 : exe fe (.asg 10 (.bin .mod (.bin .fdiv (.bi .int (.cons (.idx (.v 1) (.c (.int 2))) .nil)) (.c (.int 2))) (.v 2))) (A16 sc l n w (.ow (mt V)) .no .no .no .no .no .no .no .no .no .no .no) = .nx (A16 sc l n w (.ow (mt V)) .no .no .no .no .no (oi p) .no .no .no .no .no) := by
      refine exe_asg (S' := A16 sc l n w (.ow (mt V)) .no .no .no .no .no .no .no .no .no .no .no) (v := iv p) ?_
      simp only [ev, evBs, rd, List.getElem?_cons_succ, List.getElem?_cons_zero, Res.bind_ok, getIt, getN, g2, biop, intV, Res.noex_ok, binop, modV, fdivV, d2, zn, Res.guard_true, valOf, isPath, ep]
    have q2 : exe fe (.asg 11 (.bin .mul (.lst (.cons (.c (.int 0)) .nil)) (.v 3))) (A16 sc l n w (.ow (mt V)) .no .no .no .no .no (oi p) .no .no .no .no .no) = .nx (A16 sc l n w (.ow (mt V)) .no .no .no .no .no (oi p) (.ow (il (List.replicate w 0))) .no .no .no .no) := by
      refine exe_asg (S' := A16 sc l n w (.ow (mt V)) .no .no .no .no .no (oi p) .no .no .no .no .no) (v := il (List.replicate w 0)) ?_
      have s1 : decide (1 ≤ szLine) = true := by decide +kernel
      have g1 : (decide ((w : Int).natAbs < 2 ^ 63) && decide (1 * (w : Int).toNat ≤ szLine)) = true := by
        rw [Bool.and_eq_true]
        refine ⟨decide_eq_true ?_, decide_eq_true (by unfold szLine; omega)⟩
        have : (5 : Nat) < 2 ^ 63 := by decide
        omega
      have e1 : ((List.replicate (w : Int).toNat [PV.int 0]).flatten).map SV.fz = (List.replicate w (0 : Int)).map iv := by
        rw [Int.toNat_natCast]
        generalize w = n
        induction n with
        | zero => rfl
        | succ n ih => rw [List.replicate_succ, List.replicate_succ, List.flatten_cons, List.map_append, List.map_cons, ih]; rfl
      have e2 : mulV (.lst [iv 0]) (iv w) = .ok (il (List.replicate w 0)) := by
        show Res.guard (decide ((w : Int).natAbs < 2 ^ 63) && decide (1 * (w : Int).toNat ≤ szLine)) (Res.ok (SV.lst (((List.replicate (w : Int).toNat [PV.int 0]).flatten).map SV.fz))) = _
        rw [g1, e1]; rfl
      simp only [ev, evs, elemOf, valOf, isPath, isKeep, Res.bind_ok, SV.pv, List.length_cons, List.length_nil, s1, Res.guard_true, rd, List.getElem?_cons_succ, List.getElem?_cons_zero, binop, e2, Res.noex_ok]
    have hI : evI fe (.r1 (.v 2)) (A16 sc l n w (.ow (mt V)) .no .no .no .no .no (oi p) (.ow (il (List.replicate w 0))) .no .no .no .no) = .ok ((rangeL 0 n, []), A16 sc l n w (.ow (mt V)) .no .no .no .no .no (oi p) (.ow (il (List.replicate w 0))) .no .no .no .no) := by
      have k1 : r62 (n : Int) = true := r62_of2 (by omega)
      simp [evI, ev, rd, asInt, SV.pv, k1]
    obtain ⟨S', h1, tot, x9, x12, h2, h3, h4⟩ := loopF_rel (tg := .nm 12) (body := exes fe mixB) (its := rangeL 0 n) (S := A16 sc l n w (.ow (mt V)) .no .no .no .no .no (oi p) (.ow (il (List.replicate w 0))) .no .no .no .no)
      (fun i S => ∃ tot x9 x12, S = A16 sc l n w (.ow (mt V)) .no .no .no .no x9 (oi p) (.ow (il tot)) x12 .no .no .no ∧ tot.length = w ∧ ∀ x ∈ tot, x.natAbs ≤ 3000000000 * i) ⟨List.replicate w 0, .no, .no, rfl, List.length_replicate, fun x hx => by rw [List.eq_of_mem_replicate hx]; exact Nat.zero_le _⟩ (fun i S x hx ⟨tot, x9, x12, e1, e2, e3⟩ => by
        subst e1
        obtain ⟨e4, e5⟩ := rangeL_get hx
        subst e4
        rw [Int.zero_add]
        obtain ⟨tot', y9, k1, k2, k3⟩ := mix_step (fe := fe) sc l hl n w V p i (by omega) (by omega) hw hw3 hs tot e2 e3 x9 .no .no .no
        exact ⟨A16 sc l n w (.ow (mt V)) .no .no .no .no x9 (oi p) (.ow (il tot)) (oi i) .no .no .no, rfl, _, .inl k3, tot', y9, oi i, rfl, k1, k2⟩)
    rw [rangeL_len] at h4
    have en : ((n : Int) - 0).toNat = n := by omega
    rw [en] at h4
    subst h2
    have q3 := exe_forr hI h1
    have pt := pvs_ints tot
    have he : elemOf (.f 11) (ev fe (.f 11) (A16 sc l n w (.ow (mt V)) .no .no .no .no x9 (oi p) (.ow (il tot)) x12 .no .no .no)) = .ok (.fz (pl tot), A16 sc l n w (.ow (mt V)) .no .no .no .no x9 (oi p) (.ow (.fz (pl tot))) x12 .no .no .no) := by
      simp only [ev, List.getElem?_cons_succ, List.getElem?_cons_zero, SV.pv, pt, List.set_cons_succ, List.set_cons_zero, elemOf, valOf, isPath, Res.bind_ok, isKeep]
    have hk : ixP (V.map fun r => SV.fz (pl r)).length (p : Int) = some p := ixP_nat (by rw [List.length_map]; omega)
    have q4 : exe fe (.setI (.v 4) (.v 10) (.f 11)) (A16 sc l n w (.ow (mt V)) .no .no .no .no x9 (oi p) (.ow (il tot)) x12 .no .no .no) = .nx (A16 sc l n w (.ow (mt (V.set p tot))) .no .no .no .no x9 (oi p) (.ow (.fz (pl tot))) x12 .no .no .no) := by
      have e2 : (V.map fun r => SV.fz (pl r)).set p (.fz (pl tot)) = (V.set p tot).map fun r => SV.fz (pl r) := by rw [List.map_set]
      simp only [exe, he, Res.out_ok]
      have h1 : evP fe (.v 4) (A16 sc l n w (.ow (mt V)) .no .no .no .no x9 (oi p) (.ow (.fz (pl tot))) x12 .no .no .no) = .ok ((4, []), A16 sc l n w (.ow (mt V)) .no .no .no .no x9 (oi p) (.ow (.fz (pl tot))) x12 .no .no .no) := rfl
      have h3 : ev fe (.v 10) (A16 sc l n w (.ow (mt V)) .no .no .no .no x9 (oi p) (.ow (.fz (pl tot))) x12 .no .no .no) = .ok (iv p, A16 sc l n w (.ow (mt V)) .no .no .no .no x9 (oi p) (.ow (.fz (pl tot))) x12 .no .no .no) := rfl
      have h2 : updS (A16 sc l n w (.ow (mt V)) .no .no .no .no x9 (oi p) (.ow (.fz (pl tot))) x12 .no .no .no) 4 [] (gSet (p : Int) (.fz (pl tot))) = .ok (A16 sc l n w (.ow (mt (V.set p tot))) .no .no .no .no x9 (oi p) (.ow (.fz (pl tot))) x12 .no .no .no) := by
        unfold updS
        have : updAt (gSet (p : Int) (.fz (pl tot))) [] (mt V) = some (mt (V.set p tot)) := by
          show gSet (p : Int) (.fz (pl tot)) (.lst _) = _
          unfold gSet
          simp only [hk, e2]
        simp only [List.getElem?_cons_succ, List.getElem?_cons_zero, this]
        rfl
      simp only [h1, Res.out_ok, h3, SV.pv, asInt, Res.ofOpt_some, h2]
    refine ⟨V.set p tot, x9, oi p, .ow (.fz (pl tot)), x12, ⟨by rw [List.length_set]; exact hV, fun r hr => ?_, fun r hr x hx => ?_⟩, (exe_iff_t tst).trans ((exes_cons q1).trans ((exes_cons q2).trans ((exes_cons q3).trans (exes_one q4))))⟩
    · rcases List.mem_or_eq_of_mem_set hr with hr | hr
      · exact hw r hr
      · rw [hr]; exact h3
    · rcases List.mem_or_eq_of_mem_set hr with hr | hr
      · exact bV r hr x hx
      · rw [hr] at hx
        exact s43 x (by have := h4 x hx; omega)
end PL.T

namespace PL.T
open PL
variable {fe : FE}
def cpS (i : Nat) : Ex := .comp (.nm 13) (.ex (.v i)) .nil (.bi .list (.cons (.v 13) .nil)) [13]
theorem cp_ok (S : PL.S) (i : Nat) (W : List (List Int)) (hl : 13 < S.length) (h : S[i]? = some (.ow (mt W))) (hi : i ≠ 13) (hz : W.length ≤ 1000) : ev fe (cpS i) S = .ok (mt W, S) := by
  have hc := ev_comp1 (fe := fe) (tg := .nm 13) (it := .ex (.v i)) (el := .bi .list (.cons (.v 13) .nil)) (ws := [13]) (S := S) (its := W.map fun r => Itm.one (.ow (.fz (pl r)))) (g := gid) (i := i) (s := mt W)
    (row_it S i W h) h (by rw [List.length_map]; unfold szLine; omega) (fun x hx => by
      obtain ⟨r, _, rfl⟩ := List.mem_map.mp hx
      obtain ⟨S1, k1, k2, k3, _⟩ := wip1 (S.set i (.bw (mt W))) (b := 13) (by rw [List.length_set]; exact hl) (.ow (.fz (pl r)))
      refine ⟨S1, S1, k1, ?_, k3⟩
      have r1 : rd S1 13 = some (.fz (pl r)) := by unfold rd; rw [k2]
      have e2 := pvs_fz (r.map PV.int)
      simp only [ev, evBs, r1, Res.bind_ok, biop, listV, Res.noex_ok, elemOf, valOf, isPath, isKeep, SV.pv, e2, gid])
  have e : (W.map fun r => Itm.one (.ow (.fz (pl r)))).map gid = W.map fun r => SV.fz (pl r) := by
    rw [List.map_map]; rfl
  rw [e] at hc
  exact hc
theorem shp_tpl (R : List Int) : shp (tpl R) = true := by
  unfold shp
  rw [Bool.and_eq_true]
  refine ⟨plains_ints R, decide_eq_true ?_⟩
  show pdeps (R.map PV.int) + 1 ≤ 64
  rw [pdeps_ints]; decide
theorem eq_tpl (R : List Int) : cmpop .eq (tpl R) (tpl R) = .ok (.bl true) := by
  show Res.guard (shp (tpl R) && shp (tpl R)) (Res.ok (PV.bl (peqs (R.map PV.int) (R.map PV.int)))) = _
  rw [shp_tpl, peqs_ints]; rfl
def intB : Ss := (.cons (.iff (.nott (.truth (.call 7 (.cons (.v 9) .nil)))) (.cons (.ret (.c (.bl false))) .nil) .nil) .nil)
abbrev T16 (a0 a1 a2 a3 a4 a5 a6 a7 a8 a9 a10 a11 a12 a13 a14 a15 : Sl) : S := [a0, a1, a2, a3, a4, a5, a6, a7, a8, a9, a10, a11, a12, a13, a14, a15]
theorem ints_loop (C : Calls fe) (a0 a1 a2 a3 a4 a5 a6 a8 a9 a10 a11 a12 a13 a14 a15 : Sl) (R : List Int) :
    ∃ y9, exe fe (.forr (.nm 9) (.ex (.v 7)) intB) (T16 a0 a1 a2 a3 a4 a5 a6 (.ow (.fz (tpl R))) a8 a9 a10 a11 a12 a13 a14 a15) = .nx (T16 a0 a1 a2 a3 a4 a5 a6 (.ow (.fz (tpl R))) a8 y9 a10 a11 a12 a13 a14 a15) := by
  have hI : evI fe (.ex (.v 7)) (T16 a0 a1 a2 a3 a4 a5 a6 (.ow (.fz (tpl R))) a8 a9 a10 a11 a12 a13 a14 a15) = .ok ((R.map fun a => Itm.one (oi a), []), T16 a0 a1 a2 a3 a4 a5 a6 (.ow (.fz (tpl R))) a8 a9 a10 a11 a12 a13 a14 a15) := by
    simp [evI, ev, rd, srOf, srcAt, srcV, srcP, fzI]
  obtain ⟨S', h1, y9, h2⟩ := loopF_rel (tg := .nm 9) (body := exes fe intB) (its := R.map fun a => Itm.one (oi a)) (S := T16 a0 a1 a2 a3 a4 a5 a6 (.ow (.fz (tpl R))) a8 a9 a10 a11 a12 a13 a14 a15)
    (fun i S => ∃ y9, S = T16 a0 a1 a2 a3 a4 a5 a6 (.ow (.fz (tpl R))) a8 y9 a10 a11 a12 a13 a14 a15) ⟨a9, rfl⟩ (fun i S x hx ⟨y9, e1⟩ => by
      subst e1
      have hi := (List.getElem?_eq_some_iff.mp hx).1
      have hx2 := (List.getElem?_eq_some_iff.mp hx).2
      rw [List.length_map] at hi
      rw [List.getElem_map] at hx2
      refine ⟨T16 a0 a1 a2 a3 a4 a5 a6 (.ow (.fz (tpl R))) a8 (oi R[i]) a10 a11 a12 a13 a14 a15, by rw [← hx2]; rfl, T16 a0 a1 a2 a3 a4 a5 a6 (.ow (.fz (tpl R))) a8 (oi R[i]) a10 a11 a12 a13 a14 a15, .inl (exes_one ?_), oi R[i], rfl⟩
      have a : evA fe (.cons (.v 9) .nil) (T16 a0 a1 a2 a3 a4 a5 a6 (.ow (.fz (tpl R))) a8 (oi R[i]) a10 a11 a12 a13 a14 a15) = .ok ([oi R[i]], T16 a0 a1 a2 a3 a4 a5 a6 (.ow (.fz (tpl R))) a8 (oi R[i]) a10 a11 a12 a13 a14 a15) := by
        simp [evA, ev, argOf, lend, rd, isPath]
      have c := ev_call a (C.f7 R[i])
      refine (exe_iff_f (S' := T16 a0 a1 a2 a3 a4 a5 a6 (.ow (.fz (tpl R))) a8 (oi R[i]) a10 a11 a12 a13 a14 a15) ?_).trans rfl
      show tstOf ((tstOf ((ev fe (.call 7 (.cons (.v 9) .nil)) _).bind _)).bind _) = _
      rw [c]; rfl)
  subst h2
  exact ⟨y9, exe_forr hI h1⟩
def chk1 : Ex := .orr (.andd (.isn false (.v 6)) (.nott (.truth (.call 7 (.cons (.v 6) .nil))))) (.cmp .ne (.v 6) (.call 15 (.cons (.v 4) (.cons (.v 3) .nil))))
theorem chk1_ok (C : Calls fe) (a0 a1 a2 a5 a7 a8 a9 a10 a11 a12 a13 a14 a15 : Sl) (V : List (List Int)) (w : Int) (a : PV) (h : a = .non ∨ ∃ i : Nat, a = .int i) (hf : fe 15 [.bw (mt V), oi w] = .ok (.fz a)) :
    tstOf (ev fe chk1 (T16 a0 a1 a2 (oi w) (.ow (mt V)) a5 (.ow (.fz a)) a7 a8 a9 a10 a11 a12 a13 a14 a15)) = .ok (false, T16 a0 a1 a2 (oi w) (.ow (mt V)) a5 (.ow (.fz a)) a7 a8 a9 a10 a11 a12 a13 a14 a15) := by
  have a2' : evA fe (.cons (.v 4) (.cons (.v 3) .nil)) (T16 a0 a1 a2 (oi w) (.ow (mt V)) a5 (.ow (.fz a)) a7 a8 a9 a10 a11 a12 a13 a14 a15) = .ok ([.bw (mt V), oi w], T16 a0 a1 a2 (oi w) (.ow (mt V)) a5 (.ow (.fz a)) a7 a8 a9 a10 a11 a12 a13 a14 a15) := by
    simp [evA, ev, argOf, lend, rd, isPath]
  have c2 := ev_call a2' hf
  have ne : cmpop .ne a a = .ok (.bl false) := by
    rcases h with h | ⟨i, h⟩ <;> subst h
    · rfl
    · show Res.ok (PV.bl (!((i : Int) == (i : Int)))) = _
      simp
  have v6 : ev fe (.v 6) (T16 a0 a1 a2 (oi w) (.ow (mt V)) a5 (.ow (.fz a)) a7 a8 a9 a10 a11 a12 a13 a14 a15) = .ok (.fz a, T16 a0 a1 a2 (oi w) (.ow (mt V)) a5 (.ow (.fz a)) a7 a8 a9 a10 a11 a12 a13 a14 a15) := rfl
  have e2 : ev fe (.cmp .ne (.v 6) (.call 15 (.cons (.v 4) (.cons (.v 3) .nil)))) (T16 a0 a1 a2 (oi w) (.ow (mt V)) a5 (.ow (.fz a)) a7 a8 a9 a10 a11 a12 a13 a14 a15) = .ok (.fz (.bl false), T16 a0 a1 a2 (oi w) (.ow (mt V)) a5 (.ow (.fz a)) a7 a8 a9 a10 a11 a12 a13 a14 a15) := by
    show (ev fe (.v 6) _).bind _ = _
    rw [v6]
    show (ev fe (.call 15 (.cons (.v 4) (.cons (.v 3) .nil))) _).bind _ = _
    rw [c2]
    show (cmpop .ne a a).noex.bind _ = _
    rw [ne]; rfl
  have e1 : ev fe (.andd (.isn false (.v 6)) (.nott (.truth (.call 7 (.cons (.v 6) .nil))))) (T16 a0 a1 a2 (oi w) (.ow (mt V)) a5 (.ow (.fz a)) a7 a8 a9 a10 a11 a12 a13 a14 a15) = .ok (.fz (.bl false), T16 a0 a1 a2 (oi w) (.ow (mt V)) a5 (.ow (.fz a)) a7 a8 a9 a10 a11 a12 a13 a14 a15) := by
    rcases h with h | ⟨i, h⟩ <;> subst h
    · rfl
    · have a7' : evA fe (.cons (.v 6) .nil) (T16 a0 a1 a2 (oi w) (.ow (mt V)) a5 (.ow (.fz (.int (i : Int)))) a7 a8 a9 a10 a11 a12 a13 a14 a15) = .ok ([oi i], T16 a0 a1 a2 (oi w) (.ow (mt V)) a5 (.ow (.fz (.int (i : Int)))) a7 a8 a9 a10 a11 a12 a13 a14 a15) := by
        simp [evA, ev, argOf, lend, rd, isPath]
      have c7 := ev_call a7' (C.f7 i)
      have : ev fe (.andd (.isn false (.v 6)) (.nott (.truth (.call 7 (.cons (.v 6) .nil))))) (T16 a0 a1 a2 (oi w) (.ow (mt V)) a5 (.ow (.fz (.int (i : Int)))) a7 a8 a9 a10 a11 a12 a13 a14 a15) = ev fe (.nott (.truth (.call 7 (.cons (.v 6) .nil)))) (T16 a0 a1 a2 (oi w) (.ow (mt V)) a5 (.ow (.fz (.int (i : Int)))) a7 a8 a9 a10 a11 a12 a13 a14 a15) := rfl
      rw [this]
      show (tstOf ((ev fe (.call 7 (.cons (.v 6) .nil)) _).bind _)).bind _ = _
      rw [c7]; rfl
  unfold chk1
  show tstOf ((tstOf (ev fe (.andd _ _) _)).bind _) = _
  rw [e1]
  exact (congrArg tstOf e2).trans rfl
theorem law_tail (C : Calls fe) (sc : Sl) (l : List Int) (n w : Nat) (V : List (List Int)) (hn : n ≤ 4) (h1 : 1 ≤ w) (hw3 : w ≤ 3) (hV : Tab43 V n w) (x9 x10 x11 x12 : Sl) :
    fin (exes fe (.cons (.asg 5 (cpS 4)) (.cons (.asg 6 (.call 4 (.cons (.v 5) .nil))) (.cons (.asg 7 (.call 5 (.cons (.v 5) .nil))) (.cons (.iff (.cmp .ne (.v 5) (.v 4)) (.cons (.ret (.c (.bl false))) .nil) .nil) (.cons (.iff chk1 (.cons (.ret (.c (.bl false))) .nil) .nil) (.cons (.asg 8 (.c .non)) (.cons (.iff (.cmp .gt (.v 2) (.c (.int 0))) (.cons (.asg 8 (.call 14 (.cons (.v 4) (.cons (.v 3) .nil)))) .nil) .nil) (.cons (.iff (.orr (.isn true (.v 8)) (.isn true (.v 7))) (.cons (.ret (.andd (.isn true (.v 8)) (.isn true (.v 7)))) .nil) .nil) (.cons (.iff (.orr (.nott (.truth (.isi (.v 7) [.tuple]))) (.cmp .ne (.bi .len (.cons (.v 7) .nil)) (.v 2))) (.cons (.ret (.c (.bl false))) .nil) .nil) (.cons (.forr (.nm 9) (.ex (.v 7)) intB) (.cons (.ret (.cmp .eq (.v 7) (.v 8))) .nil))))))))))) (A16 sc l n w (.ow (mt V)) .no .no .no .no x9 x10 x11 x12 .no .no .no)) = .ok (.fz (.bl true)) := by
  obtain ⟨a, fa, ha, fa2⟩ := C.f4 V n w (by omega) hw3 h1 hV
  obtain ⟨v, fv, hv, hv0, hv1⟩ := C.f5 V n w (by omega) hw3 h1 hV
  have zV : V.length ≤ 1000 := by have := hV.1; omega
  have q1 := exe_asg (i := 5) (e := cpS 4) (S' := A16 sc l n w (.ow (mt V)) .no .no .no .no x9 x10 x11 x12 .no .no .no) (v := mt V) (by rw [cp_ok (fe := fe) (A16 sc l n w (.ow (mt V)) .no .no .no .no x9 x10 x11 x12 .no .no .no) 4 V (by simp) rfl (by decide) zV]; rfl)
  have a6 : evA fe (.cons (.v 5) .nil) (A16 sc l n w (.ow (mt V)) (.ow (mt V)) .no .no .no x9 x10 x11 x12 .no .no .no) = .ok ([.bw (mt V)], A16 sc l n w (.ow (mt V)) (.ow (mt V)) .no .no .no x9 x10 x11 x12 .no .no .no) := by
    simp [evA, ev, argOf, lend, rd, isPath]
  have c6 := ev_call a6 fa
  have q2 := exe_asg (i := 6) (e := .call 4 (.cons (.v 5) .nil)) (S' := A16 sc l n w (.ow (mt V)) (.ow (mt V)) .no .no .no x9 x10 x11 x12 .no .no .no) (v := .fz a) (by rw [c6]; rfl)
  have a7 : evA fe (.cons (.v 5) .nil) (A16 sc l n w (.ow (mt V)) (.ow (mt V)) (.ow (.fz a)) .no .no x9 x10 x11 x12 .no .no .no) = .ok ([.bw (mt V)], A16 sc l n w (.ow (mt V)) (.ow (mt V)) (.ow (.fz a)) .no .no x9 x10 x11 x12 .no .no .no) := by
    simp [evA, ev, argOf, lend, rd, isPath]
  have c7 := ev_call a7 fv
  have q3 := exe_asg (i := 7) (e := .call 5 (.cons (.v 5) .nil)) (S' := A16 sc l n w (.ow (mt V)) (.ow (mt V)) (.ow (.fz a)) .no .no x9 x10 x11 x12 .no .no .no) (v := .fz v) (by rw [c7]; rfl)
  have q4 : exe fe (.iff (.cmp .ne (.v 5) (.v 4)) (.cons (.ret (.c (.bl false))) .nil) .nil) (A16 sc l n w (.ow (mt V)) (.ow (mt V)) (.ow (.fz a)) (.ow (.fz v)) .no x9 x10 x11 x12 .no .no .no) = .nx (A16 sc l n w (.ow (mt V)) (.ow (mt V)) (.ow (.fz a)) (.ow (.fz v)) .no x9 x10 x11 x12 .no .no .no) := by
    refine (exe_iff_f (S' := A16 sc l n w (.ow (mt V)) (.ow (mt V)) (.ow (.fz a)) (.ow (.fz v)) .no x9 x10 x11 x12 .no .no .no) ?_).trans rfl
    have n1 := ne_mt V
    simp only [ev, tstOf, rd, List.getElem?_cons_succ, List.getElem?_cons_zero, Res.bind_ok, n1, Res.noex_ok]
  have q5 : exe fe (.iff chk1 (.cons (.ret (.c (.bl false))) .nil) .nil) (A16 sc l n w (.ow (mt V)) (.ow (mt V)) (.ow (.fz a)) (.ow (.fz v)) .no x9 x10 x11 x12 .no .no .no) = .nx (A16 sc l n w (.ow (mt V)) (.ow (mt V)) (.ow (.fz a)) (.ow (.fz v)) .no x9 x10 x11 x12 .no .no .no) :=
    (exe_iff_f (chk1_ok C _ _ _ _ _ _ _ _ _ _ _ _ _ V w a ha fa2)).trans rfl
  have q6 : exe fe (.asg 8 (.c .non)) (A16 sc l n w (.ow (mt V)) (.ow (mt V)) (.ow (.fz a)) (.ow (.fz v)) .no x9 x10 x11 x12 .no .no .no) = .nx (A16 sc l n w (.ow (mt V)) (.ow (mt V)) (.ow (.fz a)) (.ow (.fz v)) (.ow (.fz .non)) x9 x10 x11 x12 .no .no .no) := rfl
  have q7 : exe fe (.iff (.cmp .gt (.v 2) (.c (.int 0))) (.cons (.asg 8 (.call 14 (.cons (.v 4) (.cons (.v 3) .nil)))) .nil) .nil) (A16 sc l n w (.ow (mt V)) (.ow (mt V)) (.ow (.fz a)) (.ow (.fz v)) (.ow (.fz .non)) x9 x10 x11 x12 .no .no .no) = .nx (A16 sc l n w (.ow (mt V)) (.ow (mt V)) (.ow (.fz a)) (.ow (.fz v)) (.ow (.fz v)) x9 x10 x11 x12 .no .no .no) := by
    have tst : tstOf (ev fe (.cmp .gt (.v 2) (.c (.int 0))) (A16 sc l n w (.ow (mt V)) (.ow (mt V)) (.ow (.fz a)) (.ow (.fz v)) (.ow (.fz .non)) x9 x10 x11 x12 .no .no .no)) = .ok (decide ((0 : Int) < (n : Int)), A16 sc l n w (.ow (mt V)) (.ow (mt V)) (.ow (.fz a)) (.ow (.fz v)) (.ow (.fz .non)) x9 x10 x11 x12 .no .no .no) := rfl
    by_cases h0 : 1 ≤ n
    · rw [decide_eq_true (by omega)] at tst
      have a8 : evA fe (.cons (.v 4) (.cons (.v 3) .nil)) (A16 sc l n w (.ow (mt V)) (.ow (mt V)) (.ow (.fz a)) (.ow (.fz v)) (.ow (.fz .non)) x9 x10 x11 x12 .no .no .no) = .ok ([.bw (mt V), oi w], A16 sc l n w (.ow (mt V)) (.ow (mt V)) (.ow (.fz a)) (.ow (.fz v)) (.ow (.fz .non)) x9 x10 x11 x12 .no .no .no) := by
        simp [evA, ev, argOf, lend, rd, isPath]
      have c8 := ev_call a8 (hv1 h0)
      have q := exe_asg (i := 8) (e := .call 14 (.cons (.v 4) (.cons (.v 3) .nil))) (S' := A16 sc l n w (.ow (mt V)) (.ow (mt V)) (.ow (.fz a)) (.ow (.fz v)) (.ow (.fz .non)) x9 x10 x11 x12 .no .no .no) (v := .fz v) (by rw [c8]; rfl)
      exact (exe_iff_t tst).trans (exes_one q)
    · rw [decide_eq_false (by omega)] at tst
      have : v = .non := hv0 (by omega)
      subst this
      exact (exe_iff_f tst).trans rfl
  refine (congrArg fin ((exes_cons q1).trans ((exes_cons q2).trans ((exes_cons q3).trans ((exes_cons q4).trans ((exes_cons q5).trans ((exes_cons q6).trans (exes_cons q7)))))))).trans ?_
  rcases hv with e | ⟨R, e, hR⟩
  · subst e
    rfl
  · subst e
    have q8 : exe fe (.iff (.orr (.isn true (.v 8)) (.isn true (.v 7))) (.cons (.ret (.andd (.isn true (.v 8)) (.isn true (.v 7)))) .nil) .nil) (A16 sc l n w (.ow (mt V)) (.ow (mt V)) (.ow (.fz a)) (.ow (.fz (tpl R))) (.ow (.fz (tpl R))) x9 x10 x11 x12 .no .no .no) = .nx (A16 sc l n w (.ow (mt V)) (.ow (mt V)) (.ow (.fz a)) (.ow (.fz (tpl R))) (.ow (.fz (tpl R))) x9 x10 x11 x12 .no .no .no) := rfl
    have q9 : exe fe (.iff (.orr (.nott (.truth (.isi (.v 7) [.tuple]))) (.cmp .ne (.bi .len (.cons (.v 7) .nil)) (.v 2))) (.cons (.ret (.c (.bl false))) .nil) .nil) (A16 sc l n w (.ow (mt V)) (.ow (mt V)) (.ow (.fz a)) (.ow (.fz (tpl R))) (.ow (.fz (tpl R))) x9 x10 x11 x12 .no .no .no) = .nx (A16 sc l n w (.ow (mt V)) (.ow (mt V)) (.ow (.fz a)) (.ow (.fz (tpl R))) (.ow (.fz (tpl R))) x9 x10 x11 x12 .no .no .no) := by
      refine (exe_iff_f (S' := A16 sc l n w (.ow (mt V)) (.ow (mt V)) (.ow (.fz a)) (.ow (.fz (tpl R))) (.ow (.fz (tpl R))) x9 x10 x11 x12 .no .no .no) ?_).trans rfl
      have l1 : (R.map PV.int).length = n := by rw [List.length_map, hR]
      have e0 : ((n : Int) == (n : Int)) = true := by simp
      simp only [ev, evBs, tstOf, rd, List.getElem?_cons_succ, List.getElem?_cons_zero, Res.bind_ok, SV.pv, isTy, List.any_cons, List.any_nil, Bool.or_false, tru, Bool.not_true, biop, lenV, l1, Res.noex_ok, cmp_ne_int, e0]
    obtain ⟨y9, q10⟩ := ints_loop C sc (.ow (il l)) (oi n) (oi w) (.ow (mt V)) (.ow (mt V)) (.ow (.fz a)) (.ow (.fz (tpl R))) x9 x10 x11 x12 .no .no .no R
    have q11 : exe fe (.ret (.cmp .eq (.v 7) (.v 8))) (T16 sc (.ow (il l)) (oi n) (oi w) (.ow (mt V)) (.ow (mt V)) (.ow (.fz a)) (.ow (.fz (tpl R))) (.ow (.fz (tpl R))) y9 x10 x11 x12 .no .no .no) = .rt (.fz (.bl true)) := by
      have et := eq_tpl R
      have pv : SV.pv (.fz (tpl R)) = tpl R := rfl
      simp only [exe, ev, rd, List.getElem?_cons_succ, List.getElem?_cons_zero, Res.bind_ok, pv, et, Res.noex_ok, valOf, isPath, Res.out_ok]
    exact congrArg fin ((exes_cons q8).trans ((exes_cons q9).trans ((exes_cons q10).trans (exes_rt q11))))
theorem fe_law (k : Nat) (a : Sl) : FEn tbl (k + 1) 17 [a] = fin (exes (FEn tbl k) b_law [a, .no, .no, .no, .no, .no, .no, .no, .no, .no, .no, .no, .no, .no, .no, .no]) := rfl
theorem law_ok (C : Calls fe) (ns : List Int) (hF : ∃ l : List Int, fe 8 [.ow (.fz (.scr ns)), oi 40] = .ok (il l) ∧ 40 ≤ l.length ∧ ∀ z ∈ l, Big z) : fin (exes fe b_law [.ow (.fz (.scr ns)), .no, .no, .no, .no, .no, .no, .no, .no, .no, .no, .no, .no, .no, .no, .no]) = .ok (.fz (.bl true)) := by
  obtain ⟨l, l1, l2, l3⟩ := hF
  have a1 : evA fe (.cons (.v 0) (.cons (.c (.int 40)) .nil)) [.ow (.fz (.scr ns)), .no, .no, .no, .no, .no, .no, .no, .no, .no, .no, .no, .no, .no, .no, .no] = .ok ([.ow (.fz (.scr ns)), oi 40], [.ow (.fz (.scr ns)), .no, .no, .no, .no, .no, .no, .no, .no, .no, .no, .no, .no, .no, .no, .no]) := by
    simp [evA, ev, argOf, lend, rd, isPath]
  have c1 := ev_call a1 l1
  have q1 := exe_asg (i := 1) (e := .call 8 (.cons (.v 0) (.cons (.c (.int 40)) .nil))) (v := il l) (S' := [.ow (.fz (.scr ns)), .no, .no, .no, .no, .no, .no, .no, .no, .no, .no, .no, .no, .no, .no, .no]) (by rw [c1]; rfl)
  obtain ⟨n, w, V, n4, w1, w3, t1, t2, t3, hq⟩ := head_law C (.ow (.fz (.scr ns))) l l2 l3
  obtain ⟨V', x9, x10, x11, x12, hT, q2⟩ := spoil_ok (fe := fe) (.ow (.fz (.scr ns))) l l2 n w V t1 n4 t2 w3 t3
  have key := law_tail C (.ow (.fz (.scr ns))) l n w V' n4 w1 w3 hT x9 x10 x11 x12
  exact (congrArg fin ((exes_cons q1).trans ((hq _).trans (exes_cons q2)))).trans key
theorem math0 (ns : List Int) (hn : ns.length ≤ 63) (hb : ∀ z ∈ ns, Big z) : FEn tbl 6 17 [.ow (.fz (.scr ns))] = .ok (.fz (.bl true)) := by
  rw [fe_law]
  exact law_ok (calls 0) ns (free_fe 4 ns hn hb)
end PL.T

namespace PL.T
open PySem PySem.Spec PyProof.Rows PL
def fns : List (Str × Nat × Nat) := [("lowest", 0, 1), ("_cleared", 1, 4), ("_reduced", 2, 2), ("_first_column", 3, 2), ("first_dependent", 4, 1), ("cancelling", 5, 1), ("_positive", 6, 1), ("_law_integer", 7, 1), ("_law_free", 8, 2), ("_law_gcd", 9, 2), ("_law_determinant", 10, 1), ("_law_choices", 11, 2), ("_law_independent", 12, 2), ("_law_minors", 13, 2), ("_law_due", 14, 2), ("_law_first", 15, 2), ("_law_vectors", 16, 4), ("law", 17, 1)]
def topS (i : Nat) : Stmt := PySem.Challenge.pw_bestbyregions_k01_weights_that_cancel.main.body.getD i (.Pass ⟨0, 0, 0, 0⟩)
theorem sc_lowest : L2.FnScope ["values", "shared", "number"] ["values"] (L2.defScope (topS 2)) := ⟨rfl, rfl, rfl, by decide +kernel, rfl, by decide +kernel, by decide +kernel⟩
theorem ft_lowest : mSs ⟨["values", "shared", "number"], L2.defScope (topS 2), fun _ => true, fns, true, false⟩ b_lowest (L2.defBody (topS 2)) = true := by decide +kernel
theorem sc__cleared : L2.FnScope ["line", "pivot", "step", "previous", "lead", "factor", "one", "other"] ["line", "pivot", "step", "previous"] (L2.defScope (topS 4)) := ⟨rfl, rfl, rfl, by decide +kernel, rfl, by decide +kernel, by decide +kernel⟩
theorem ft__cleared : mSs ⟨["line", "pivot", "step", "previous", "lead", "factor", "one", "other"], L2.defScope (topS 4), fun _ => true, fns, true, false⟩ b__cleared (L2.defBody (topS 4)) = true := by decide +kernel
theorem sc__reduced : L2.FnScope ["vector", "kept", "rest", "column", "base"] ["vector", "kept"] (L2.defScope (topS 5)) := ⟨rfl, rfl, rfl, by decide +kernel, rfl, by decide +kernel, by decide +kernel⟩
theorem ft__reduced : mSs ⟨["vector", "kept", "rest", "column", "base"], L2.defScope (topS 5), fun _ => true, fns, true, false⟩ b__reduced (L2.defBody (topS 5)) = true := by decide +kernel
theorem sc__first_column : L2.FnScope ["vector", "width", "at"] ["vector", "width"] (L2.defScope (topS 6)) := ⟨rfl, rfl, rfl, by decide +kernel, rfl, by decide +kernel, by decide +kernel⟩
theorem ft__first_column : mSs ⟨["vector", "width", "at"], L2.defScope (topS 6), fun _ => true, fns, true, false⟩ b__first_column (L2.defBody (topS 6)) = true := by decide +kernel
theorem sc_first_dependent : L2.FnScope ["vectors", "kept", "at", "vector", "rest", "column"] ["vectors"] (L2.defScope (topS 7)) := ⟨rfl, rfl, rfl, by decide +kernel, rfl, by decide +kernel, by decide +kernel⟩
theorem ft_first_dependent : mSs ⟨["vectors", "kept", "at", "vector", "rest", "column"], L2.defScope (topS 7), fun _ => true, fns, true, false⟩ b_first_dependent (L2.defBody (topS 7)) = true := by decide +kernel
theorem sc_cancelling : L2.FnScope ["vectors", "count", "kept", "at", "vector", "unit", "rest", "column"] ["vectors"] (L2.defScope (topS 8)) := ⟨rfl, rfl, rfl, by decide +kernel, rfl, by decide +kernel, by decide +kernel⟩
theorem ft_cancelling : mSs ⟨["vectors", "count", "kept", "at", "vector", "unit", "rest", "column"], L2.defScope (topS 8), fun _ => true, fns, true, false⟩ b_cancelling (L2.defBody (topS 8)) = true := by decide +kernel
theorem sc__positive : L2.FnScope ["weights", "reduced", "number"] ["weights"] (L2.defScope (topS 9)) := ⟨rfl, rfl, rfl, by decide +kernel, rfl, by decide +kernel, by decide +kernel⟩
theorem ft__positive : mSs ⟨["weights", "reduced", "number"], L2.defScope (topS 9), fun _ => true, fns, true, false⟩ b__positive (L2.defBody (topS 9)) = true := by decide +kernel
theorem sc__law_integer : L2.FnScope ["told"] ["told"] (L2.defScope (topS 11)) := ⟨rfl, rfl, rfl, by decide +kernel, rfl, by decide +kernel, by decide +kernel⟩
theorem ft__law_integer : mSs ⟨["told"], L2.defScope (topS 11), fun _ => true, fns, true, false⟩ b__law_integer (L2.defBody (topS 11)) = true := by decide +kernel
theorem sc__law_free : L2.FnScope ["script", "count", "told", "seed", "cell", "at", "number", "step"] ["script", "count"] (L2.defScope (topS 12)) := ⟨rfl, rfl, rfl, by decide +kernel, rfl, by decide +kernel, by decide +kernel⟩
theorem ft__law_free : mSs ⟨["script", "count", "told", "seed", "cell", "at", "number", "step"], L2.defScope (topS 12), fun _ => true, fns, true, false⟩ b__law_free (L2.defBody (topS 12)) = true := by decide +kernel
theorem sc__law_gcd : L2.FnScope ["first", "second", "step", "rest"] ["first", "second"] (L2.defScope (topS 13)) := ⟨rfl, rfl, rfl, by decide +kernel, rfl, by decide +kernel, by decide +kernel⟩
theorem ft__law_gcd : mSs ⟨["first", "second", "step", "rest"], L2.defScope (topS 13), fun _ => true, fns, true, false⟩ b__law_gcd (L2.defBody (topS 13)) = true := by decide +kernel
theorem sc__law_determinant : L2.FnScope ["table", "size", "ways", "line", "total", "used", "amount", "longer", "at", "sign", "other"] ["table"] (L2.defScope (topS 14)) := ⟨rfl, rfl, rfl, by decide +kernel, rfl, by decide +kernel, by decide +kernel⟩
theorem ft__law_determinant : mSs ⟨["table", "size", "ways", "line", "total", "used", "amount", "longer", "at", "sign", "other"], L2.defScope (topS 14), fun _ => true, fns, true, false⟩ b__law_determinant (L2.defBody (topS 14)) = true := by decide +kernel
theorem sc__law_choices : L2.FnScope ["width", "size", "choices", "at", "choice"] ["width", "size"] (L2.defScope (topS 15)) := ⟨rfl, rfl, rfl, by decide +kernel, rfl, by decide +kernel, by decide +kernel⟩
theorem ft__law_choices : mSs ⟨["width", "size", "choices", "at", "choice"], L2.defScope (topS 15), fun _ => true, fns, true, false⟩ b__law_choices (L2.defBody (topS 15)) = true := by decide +kernel
theorem sc__law_independent : L2.FnScope ["vectors", "width", "choice", "vector", "at"] ["vectors", "width"] (L2.defScope (topS 16)) := ⟨rfl, rfl, rfl, by decide +kernel, rfl, by decide +kernel, by decide +kernel⟩
theorem ft__law_independent : mSs ⟨["vectors", "width", "choice", "vector", "at"], L2.defScope (topS 16), fun _ => true, fns, true, false⟩ b__law_independent (L2.defBody (topS 16)) = true := by decide +kernel
theorem sc__law_minors : L2.FnScope ["vectors", "choice", "weights", "at", "rest", "amount", "vector", "k"] ["vectors", "choice"] (L2.defScope (topS 17)) := ⟨rfl, rfl, rfl, by decide +kernel, rfl, by decide +kernel, by decide +kernel⟩
theorem ft__law_minors : mSs ⟨["vectors", "choice", "weights", "at", "rest", "amount", "vector", "k"], L2.defScope (topS 17), fun _ => true, fns, true, false⟩ b__law_minors (L2.defBody (topS 17)) = true := by decide +kernel
theorem sc__law_due : L2.FnScope ["vectors", "width", "choice", "weights", "shared", "weight", "k", "signs", "total", "vector"] ["vectors", "width"] (L2.defScope (topS 18)) := ⟨rfl, rfl, rfl, by decide +kernel, rfl, by decide +kernel, by decide +kernel⟩
theorem ft__law_due : mSs ⟨["vectors", "width", "choice", "weights", "shared", "weight", "k", "signs", "total", "vector"], L2.defScope (topS 18), fun _ => true, fns, true, false⟩ b__law_due (L2.defBody (topS 18)) = true := by decide +kernel
theorem sc__law_first : L2.FnScope ["vectors", "width", "at"] ["vectors", "width"] (L2.defScope (topS 19)) := ⟨rfl, rfl, rfl, by decide +kernel, rfl, by decide +kernel, by decide +kernel⟩
theorem ft__law_first : mSs ⟨["vectors", "width", "at"], L2.defScope (topS 19), fun _ => true, fns, true, false⟩ b__law_first (L2.defBody (topS 19)) = true := by decide +kernel
theorem sc__law_vectors : L2.FnScope ["free", "count", "width", "large", "vectors", "at", "line", "k", "cell"] ["free", "count", "width", "large"] (L2.defScope (topS 20)) := ⟨rfl, rfl, rfl, by decide +kernel, rfl, by decide +kernel, by decide +kernel⟩
theorem ft__law_vectors : mSs ⟨["free", "count", "width", "large", "vectors", "at", "line", "k", "cell"], L2.defScope (topS 20), fun _ => true, fns, true, false⟩ b__law_vectors (L2.defBody (topS 20)) = true := by decide +kernel
theorem sc_law : L2.FnScope ["script", "free", "count", "width", "vectors", "handed", "first", "told", "due", "weight", "place", "total", "at", "vector", "one", "other"] ["script"] (L2.defScope (topS 21)) := ⟨rfl, rfl, rfl, by decide +kernel, rfl, by decide +kernel, by decide +kernel⟩
theorem ft_law : mSs ⟨["script", "free", "count", "width", "vectors", "handed", "first", "told", "due", "weight", "place", "total", "at", "vector", "one", "other"], L2.defScope (topS 21), fun _ => true, fns, true, false⟩ b_law (L2.defBody (topS 21)) = true := by decide +kernel
theorem mk_def {K : PySem.W.Frag} {mg : Str → Option Value} {x : Str} {np : Nat} {d : Fd} {f : Addr} {ps N : List Str} {st : Stmt} {oc kV doc pm cdv ct : Value} {od an : Option Addr} {osl : Array (Option Value)} (h1 : d.np = np) (h2 : ps.length = np) (h3 : d.nn = N.length) (h4 : (x == ("__debug__" : Str)) = false)
    (l : K.lookup f = some ⟨oc, od, .func (PySem.W.fnOf x x (L2.defArgs st) (L2.defBody st) (L2.defScope st) .none kV doc pm an cdv ct), osl⟩) (c : PySem.W.codeIn K cdv x = true) (k : PySem.W.keepIn K (.ref f) = true) (a : mg x = some (.ref f))
    (b : ∀ (kV doc pm : Value) (an : Option Addr) (cdv ct : Value) (us : List Value), us.length = ps.length → bindArgs (PySem.W.fnOf x x (L2.defArgs st) (L2.defBody st) (L2.defScope st) .none kV doc pm an cdv ct) ⟨us, []⟩ = pure (ps.zip us)) (s : L2.FnScope N ps (L2.defScope st))
    (ft : mSs ⟨N, L2.defScope st, fun _ => true, fns, true, false⟩ d.body (L2.defBody st) = true) :
    DefAt K mg fns true false x np d f (PySem.W.fnOf x x (L2.defArgs st) (L2.defBody st) (L2.defScope st) .none kV doc pm an cdv ct) ps N st :=
  ⟨h1, h2, h3, h4, L2.fun_mk l c k, a, (L2.fun_mk l c k).binds b, s, ft⟩
theorem all_mk {w : World} {K : PySem.W.Frag} {h : Heap} {mg : Str → Option Value} {fa f0 f1 f2 f3 f4 f5 f6 f7 f8 f9 f10 f11 f12 f13 f14 f15 f16 f17 : Addr} (X : K.In h) (G : h.Ns mainGlobals mg) (hfa : mg "law" = some (.ref fa))
    {od0 an0 od1 an1 od2 an2 od3 an3 od4 an4 od5 an5 od6 an6 od7 an7 od8 an8 od9 an9 od10 an10 od11 an11 od12 an12 od13 an13 od14 an14 od15 an15 od16 an16 od17 an17 : Option Addr} {sl0 sl1 sl2 sl3 sl4 sl5 sl6 sl7 sl8 sl9 sl10 sl11 sl12 sl13 sl14 sl15 sl16 sl17 : Array (Option Value)} {oc0 kV0 dc0 pm0 cd0 ct0 oc1 kV1 dc1 pm1 cd1 ct1 oc2 kV2 dc2 pm2 cd2 ct2 oc3 kV3 dc3 pm3 cd3 ct3 oc4 kV4 dc4 pm4 cd4 ct4 oc5 kV5 dc5 pm5 cd5 ct5 oc6 kV6 dc6 pm6 cd6 ct6 oc7 kV7 dc7 pm7 cd7 ct7 oc8 kV8 dc8 pm8 cd8 ct8 oc9 kV9 dc9 pm9 cd9 ct9 oc10 kV10 dc10 pm10 cd10 ct10 oc11 kV11 dc11 pm11 cd11 ct11 oc12 kV12 dc12 pm12 cd12 ct12 oc13 kV13 dc13 pm13 cd13 ct13 oc14 kV14 dc14 pm14 cd14 ct14 oc15 kV15 dc15 pm15 cd15 ct15 oc16 kV16 dc16 pm16 cd16 ct16 oc17 kV17 dc17 pm17 cd17 ct17 : Value}
    (a0 : PySem.W.nsIn K mainGlobals "lowest" = some (some (.ref f0))) (l0 : K.lookup f0 = some ⟨oc0, od0, .func (PySem.W.fnOf "lowest" "lowest" (L2.defArgs (topS 2)) (L2.defBody (topS 2)) (L2.defScope (topS 2)) .none kV0 dc0 pm0 an0 cd0 ct0), sl0⟩) (c0 : PySem.W.codeIn K cd0 "lowest" = true) (k0 : PySem.W.keepIn K (.ref f0) = true)
    (a1 : PySem.W.nsIn K mainGlobals "_cleared" = some (some (.ref f1))) (l1 : K.lookup f1 = some ⟨oc1, od1, .func (PySem.W.fnOf "_cleared" "_cleared" (L2.defArgs (topS 4)) (L2.defBody (topS 4)) (L2.defScope (topS 4)) .none kV1 dc1 pm1 an1 cd1 ct1), sl1⟩) (c1 : PySem.W.codeIn K cd1 "_cleared" = true) (k1 : PySem.W.keepIn K (.ref f1) = true)
    (a2 : PySem.W.nsIn K mainGlobals "_reduced" = some (some (.ref f2))) (l2 : K.lookup f2 = some ⟨oc2, od2, .func (PySem.W.fnOf "_reduced" "_reduced" (L2.defArgs (topS 5)) (L2.defBody (topS 5)) (L2.defScope (topS 5)) .none kV2 dc2 pm2 an2 cd2 ct2), sl2⟩) (c2 : PySem.W.codeIn K cd2 "_reduced" = true) (k2 : PySem.W.keepIn K (.ref f2) = true)
    (a3 : PySem.W.nsIn K mainGlobals "_first_column" = some (some (.ref f3))) (l3 : K.lookup f3 = some ⟨oc3, od3, .func (PySem.W.fnOf "_first_column" "_first_column" (L2.defArgs (topS 6)) (L2.defBody (topS 6)) (L2.defScope (topS 6)) .none kV3 dc3 pm3 an3 cd3 ct3), sl3⟩) (c3 : PySem.W.codeIn K cd3 "_first_column" = true) (k3 : PySem.W.keepIn K (.ref f3) = true)
    (a4 : PySem.W.nsIn K mainGlobals "first_dependent" = some (some (.ref f4))) (l4 : K.lookup f4 = some ⟨oc4, od4, .func (PySem.W.fnOf "first_dependent" "first_dependent" (L2.defArgs (topS 7)) (L2.defBody (topS 7)) (L2.defScope (topS 7)) .none kV4 dc4 pm4 an4 cd4 ct4), sl4⟩) (c4 : PySem.W.codeIn K cd4 "first_dependent" = true) (k4 : PySem.W.keepIn K (.ref f4) = true)
    (a5 : PySem.W.nsIn K mainGlobals "cancelling" = some (some (.ref f5))) (l5 : K.lookup f5 = some ⟨oc5, od5, .func (PySem.W.fnOf "cancelling" "cancelling" (L2.defArgs (topS 8)) (L2.defBody (topS 8)) (L2.defScope (topS 8)) .none kV5 dc5 pm5 an5 cd5 ct5), sl5⟩) (c5 : PySem.W.codeIn K cd5 "cancelling" = true) (k5 : PySem.W.keepIn K (.ref f5) = true)
    (a6 : PySem.W.nsIn K mainGlobals "_positive" = some (some (.ref f6))) (l6 : K.lookup f6 = some ⟨oc6, od6, .func (PySem.W.fnOf "_positive" "_positive" (L2.defArgs (topS 9)) (L2.defBody (topS 9)) (L2.defScope (topS 9)) .none kV6 dc6 pm6 an6 cd6 ct6), sl6⟩) (c6 : PySem.W.codeIn K cd6 "_positive" = true) (k6 : PySem.W.keepIn K (.ref f6) = true)
    (a7 : PySem.W.nsIn K mainGlobals "_law_integer" = some (some (.ref f7))) (l7 : K.lookup f7 = some ⟨oc7, od7, .func (PySem.W.fnOf "_law_integer" "_law_integer" (L2.defArgs (topS 11)) (L2.defBody (topS 11)) (L2.defScope (topS 11)) .none kV7 dc7 pm7 an7 cd7 ct7), sl7⟩) (c7 : PySem.W.codeIn K cd7 "_law_integer" = true) (k7 : PySem.W.keepIn K (.ref f7) = true)
    (a8 : PySem.W.nsIn K mainGlobals "_law_free" = some (some (.ref f8))) (l8 : K.lookup f8 = some ⟨oc8, od8, .func (PySem.W.fnOf "_law_free" "_law_free" (L2.defArgs (topS 12)) (L2.defBody (topS 12)) (L2.defScope (topS 12)) .none kV8 dc8 pm8 an8 cd8 ct8), sl8⟩) (c8 : PySem.W.codeIn K cd8 "_law_free" = true) (k8 : PySem.W.keepIn K (.ref f8) = true)
    (a9 : PySem.W.nsIn K mainGlobals "_law_gcd" = some (some (.ref f9))) (l9 : K.lookup f9 = some ⟨oc9, od9, .func (PySem.W.fnOf "_law_gcd" "_law_gcd" (L2.defArgs (topS 13)) (L2.defBody (topS 13)) (L2.defScope (topS 13)) .none kV9 dc9 pm9 an9 cd9 ct9), sl9⟩) (c9 : PySem.W.codeIn K cd9 "_law_gcd" = true) (k9 : PySem.W.keepIn K (.ref f9) = true)
    (a10 : PySem.W.nsIn K mainGlobals "_law_determinant" = some (some (.ref f10))) (l10 : K.lookup f10 = some ⟨oc10, od10, .func (PySem.W.fnOf "_law_determinant" "_law_determinant" (L2.defArgs (topS 14)) (L2.defBody (topS 14)) (L2.defScope (topS 14)) .none kV10 dc10 pm10 an10 cd10 ct10), sl10⟩) (c10 : PySem.W.codeIn K cd10 "_law_determinant" = true) (k10 : PySem.W.keepIn K (.ref f10) = true)
    (a11 : PySem.W.nsIn K mainGlobals "_law_choices" = some (some (.ref f11))) (l11 : K.lookup f11 = some ⟨oc11, od11, .func (PySem.W.fnOf "_law_choices" "_law_choices" (L2.defArgs (topS 15)) (L2.defBody (topS 15)) (L2.defScope (topS 15)) .none kV11 dc11 pm11 an11 cd11 ct11), sl11⟩) (c11 : PySem.W.codeIn K cd11 "_law_choices" = true) (k11 : PySem.W.keepIn K (.ref f11) = true)
    (a12 : PySem.W.nsIn K mainGlobals "_law_independent" = some (some (.ref f12))) (l12 : K.lookup f12 = some ⟨oc12, od12, .func (PySem.W.fnOf "_law_independent" "_law_independent" (L2.defArgs (topS 16)) (L2.defBody (topS 16)) (L2.defScope (topS 16)) .none kV12 dc12 pm12 an12 cd12 ct12), sl12⟩) (c12 : PySem.W.codeIn K cd12 "_law_independent" = true) (k12 : PySem.W.keepIn K (.ref f12) = true)
    (a13 : PySem.W.nsIn K mainGlobals "_law_minors" = some (some (.ref f13))) (l13 : K.lookup f13 = some ⟨oc13, od13, .func (PySem.W.fnOf "_law_minors" "_law_minors" (L2.defArgs (topS 17)) (L2.defBody (topS 17)) (L2.defScope (topS 17)) .none kV13 dc13 pm13 an13 cd13 ct13), sl13⟩) (c13 : PySem.W.codeIn K cd13 "_law_minors" = true) (k13 : PySem.W.keepIn K (.ref f13) = true)
    (a14 : PySem.W.nsIn K mainGlobals "_law_due" = some (some (.ref f14))) (l14 : K.lookup f14 = some ⟨oc14, od14, .func (PySem.W.fnOf "_law_due" "_law_due" (L2.defArgs (topS 18)) (L2.defBody (topS 18)) (L2.defScope (topS 18)) .none kV14 dc14 pm14 an14 cd14 ct14), sl14⟩) (c14 : PySem.W.codeIn K cd14 "_law_due" = true) (k14 : PySem.W.keepIn K (.ref f14) = true)
    (a15 : PySem.W.nsIn K mainGlobals "_law_first" = some (some (.ref f15))) (l15 : K.lookup f15 = some ⟨oc15, od15, .func (PySem.W.fnOf "_law_first" "_law_first" (L2.defArgs (topS 19)) (L2.defBody (topS 19)) (L2.defScope (topS 19)) .none kV15 dc15 pm15 an15 cd15 ct15), sl15⟩) (c15 : PySem.W.codeIn K cd15 "_law_first" = true) (k15 : PySem.W.keepIn K (.ref f15) = true)
    (a16 : PySem.W.nsIn K mainGlobals "_law_vectors" = some (some (.ref f16))) (l16 : K.lookup f16 = some ⟨oc16, od16, .func (PySem.W.fnOf "_law_vectors" "_law_vectors" (L2.defArgs (topS 20)) (L2.defBody (topS 20)) (L2.defScope (topS 20)) .none kV16 dc16 pm16 an16 cd16 ct16), sl16⟩) (c16 : PySem.W.codeIn K cd16 "_law_vectors" = true) (k16 : PySem.W.keepIn K (.ref f16) = true)
    (a17 : PySem.W.nsIn K mainGlobals "law" = some (some (.ref f17))) (l17 : K.lookup f17 = some ⟨oc17, od17, .func (PySem.W.fnOf "law" "law" (L2.defArgs (topS 21)) (L2.defBody (topS 21)) (L2.defScope (topS 21)) .none kV17 dc17 pm17 an17 cd17 ct17), sl17⟩) (c17 : PySem.W.codeIn K cd17 "law" = true) (k17 : PySem.W.keepIn K (.ref f17) = true)
    (z0 : PySem.W.nsIn K mainGlobals "len" = some none) (z1 : PySem.W.nsIn K mainGlobals "abs" = some none) (z2 : PySem.W.nsIn K mainGlobals "int" = some none) (z3 : PySem.W.nsIn K mainGlobals "tuple" = some none) (z4 : PySem.W.nsIn K mainGlobals "list" = some none) (z5 : PySem.W.nsIn K mainGlobals "sum" = some none) (z6 : PySem.W.nsIn K mainGlobals "max" = some none) (z7 : PySem.W.nsIn K mainGlobals "min" = some none) (z8 : PySem.W.nsIn K mainGlobals "repr" = some none) (z9 : PySem.W.nsIn K mainGlobals "bool" = some none) (z10 : PySem.W.nsIn K mainGlobals "str" = some none) (z11 : PySem.W.nsIn K mainGlobals "isinstance" = some none) (z12 : PySem.W.nsIn K mainGlobals "range" = some none) (z13 : PySem.W.nsIn K mainGlobals "zip" = some none) (z14 : PySem.W.nsIn K mainGlobals "enumerate" = some none) (z15 : PySem.W.nsIn K mainGlobals "reversed" = some none)
    (zg : PySem.W.nsIn K mainGlobals "gcd" = some (some (.builtin "math.gcd")))
    : ∃ fd : FuncData, (∀ (s : Shared) (v : Value), BindsTo s fd ⟨[v], []⟩ [("script", v)]) ∧ ∀ base : Heap, K.In base → base.Ns mainGlobals mg → L2.FnOk PySem.Challenge.pw_bestbyregions_k01_weights_that_cancel w K mg base (L2.CX PySem.Challenge.pw_bestbyregions_k01_weights_that_cancel w) 6 fa fd ["script"] (CallSp K xd0 1 (FEn tbl 6 17)) := by
  have e := hfa.symm.trans (PySem.W.mg_of X G a17)
  cases e
  have D0 := mk_def (mg := mg) (d := ⟨1, 3, b_lowest⟩) rfl (ps := ["values"]) rfl rfl rfl l0 c0 k0 (PySem.W.mg_of X G a0) (fun _ _ _ _ _ _ us hl => match us, hl with | [_], _ => rfl) sc_lowest ft_lowest
  have D1 := mk_def (mg := mg) (d := ⟨4, 8, b__cleared⟩) rfl (ps := ["line", "pivot", "step", "previous"]) rfl rfl rfl l1 c1 k1 (PySem.W.mg_of X G a1) (fun _ _ _ _ _ _ us hl => match us, hl with | [_, _, _, _], _ => rfl) sc__cleared ft__cleared
  have D2 := mk_def (mg := mg) (d := ⟨2, 5, b__reduced⟩) rfl (ps := ["vector", "kept"]) rfl rfl rfl l2 c2 k2 (PySem.W.mg_of X G a2) (fun _ _ _ _ _ _ us hl => match us, hl with | [_, _], _ => rfl) sc__reduced ft__reduced
  have D3 := mk_def (mg := mg) (d := ⟨2, 3, b__first_column⟩) rfl (ps := ["vector", "width"]) rfl rfl rfl l3 c3 k3 (PySem.W.mg_of X G a3) (fun _ _ _ _ _ _ us hl => match us, hl with | [_, _], _ => rfl) sc__first_column ft__first_column
  have D4 := mk_def (mg := mg) (d := ⟨1, 6, b_first_dependent⟩) rfl (ps := ["vectors"]) rfl rfl rfl l4 c4 k4 (PySem.W.mg_of X G a4) (fun _ _ _ _ _ _ us hl => match us, hl with | [_], _ => rfl) sc_first_dependent ft_first_dependent
  have D5 := mk_def (mg := mg) (d := ⟨1, 8, b_cancelling⟩) rfl (ps := ["vectors"]) rfl rfl rfl l5 c5 k5 (PySem.W.mg_of X G a5) (fun _ _ _ _ _ _ us hl => match us, hl with | [_], _ => rfl) sc_cancelling ft_cancelling
  have D6 := mk_def (mg := mg) (d := ⟨1, 3, b__positive⟩) rfl (ps := ["weights"]) rfl rfl rfl l6 c6 k6 (PySem.W.mg_of X G a6) (fun _ _ _ _ _ _ us hl => match us, hl with | [_], _ => rfl) sc__positive ft__positive
  have D7 := mk_def (mg := mg) (d := ⟨1, 1, b__law_integer⟩) rfl (ps := ["told"]) rfl rfl rfl l7 c7 k7 (PySem.W.mg_of X G a7) (fun _ _ _ _ _ _ us hl => match us, hl with | [_], _ => rfl) sc__law_integer ft__law_integer
  have D8 := mk_def (mg := mg) (d := ⟨2, 8, b__law_free⟩) rfl (ps := ["script", "count"]) rfl rfl rfl l8 c8 k8 (PySem.W.mg_of X G a8) (fun _ _ _ _ _ _ us hl => match us, hl with | [_, _], _ => rfl) sc__law_free ft__law_free
  have D9 := mk_def (mg := mg) (d := ⟨2, 4, b__law_gcd⟩) rfl (ps := ["first", "second"]) rfl rfl rfl l9 c9 k9 (PySem.W.mg_of X G a9) (fun _ _ _ _ _ _ us hl => match us, hl with | [_, _], _ => rfl) sc__law_gcd ft__law_gcd
  have D10 := mk_def (mg := mg) (d := ⟨1, 11, b__law_determinant⟩) rfl (ps := ["table"]) rfl rfl rfl l10 c10 k10 (PySem.W.mg_of X G a10) (fun _ _ _ _ _ _ us hl => match us, hl with | [_], _ => rfl) sc__law_determinant ft__law_determinant
  have D11 := mk_def (mg := mg) (d := ⟨2, 5, b__law_choices⟩) rfl (ps := ["width", "size"]) rfl rfl rfl l11 c11 k11 (PySem.W.mg_of X G a11) (fun _ _ _ _ _ _ us hl => match us, hl with | [_, _], _ => rfl) sc__law_choices ft__law_choices
  have D12 := mk_def (mg := mg) (d := ⟨2, 5, b__law_independent⟩) rfl (ps := ["vectors", "width"]) rfl rfl rfl l12 c12 k12 (PySem.W.mg_of X G a12) (fun _ _ _ _ _ _ us hl => match us, hl with | [_, _], _ => rfl) sc__law_independent ft__law_independent
  have D13 := mk_def (mg := mg) (d := ⟨2, 8, b__law_minors⟩) rfl (ps := ["vectors", "choice"]) rfl rfl rfl l13 c13 k13 (PySem.W.mg_of X G a13) (fun _ _ _ _ _ _ us hl => match us, hl with | [_, _], _ => rfl) sc__law_minors ft__law_minors
  have D14 := mk_def (mg := mg) (d := ⟨2, 10, b__law_due⟩) rfl (ps := ["vectors", "width"]) rfl rfl rfl l14 c14 k14 (PySem.W.mg_of X G a14) (fun _ _ _ _ _ _ us hl => match us, hl with | [_, _], _ => rfl) sc__law_due ft__law_due
  have D15 := mk_def (mg := mg) (d := ⟨2, 3, b__law_first⟩) rfl (ps := ["vectors", "width"]) rfl rfl rfl l15 c15 k15 (PySem.W.mg_of X G a15) (fun _ _ _ _ _ _ us hl => match us, hl with | [_, _], _ => rfl) sc__law_first ft__law_first
  have D16 := mk_def (mg := mg) (d := ⟨4, 9, b__law_vectors⟩) rfl (ps := ["free", "count", "width", "large"]) rfl rfl rfl l16 c16 k16 (PySem.W.mg_of X G a16) (fun _ _ _ _ _ _ us hl => match us, hl with | [_, _, _, _], _ => rfl) sc__law_vectors ft__law_vectors
  have D17 := mk_def (mg := mg) (d := ⟨1, 16, b_law⟩) rfl (ps := ["script"]) rfl rfl rfl l17 c17 k17 (PySem.W.mg_of X G a17) (fun _ _ _ _ _ _ us hl => match us, hl with | [_], _ => rfl) sc_law ft_law
  have T : Tab K mg tbl fns true false := by
    refine ⟨fun x fn np hm => ?_, ?_, ?_⟩
    · have key : ∀ e ∈ fns, ∃ d f fd ps N st, tbl e.2.1 = some d ∧ DefAt K mg fns true false e.1 e.2.2 d f fd ps N st := List.forall_mem_cons.mpr ⟨⟨_, _, _, _, _, _, rfl, D0⟩, List.forall_mem_cons.mpr ⟨⟨_, _, _, _, _, _, rfl, D1⟩, List.forall_mem_cons.mpr ⟨⟨_, _, _, _, _, _, rfl, D2⟩, List.forall_mem_cons.mpr ⟨⟨_, _, _, _, _, _, rfl, D3⟩, List.forall_mem_cons.mpr ⟨⟨_, _, _, _, _, _, rfl, D4⟩, List.forall_mem_cons.mpr ⟨⟨_, _, _, _, _, _, rfl, D5⟩, List.forall_mem_cons.mpr ⟨⟨_, _, _, _, _, _, rfl, D6⟩, List.forall_mem_cons.mpr ⟨⟨_, _, _, _, _, _, rfl, D7⟩, List.forall_mem_cons.mpr ⟨⟨_, _, _, _, _, _, rfl, D8⟩, List.forall_mem_cons.mpr ⟨⟨_, _, _, _, _, _, rfl, D9⟩, List.forall_mem_cons.mpr ⟨⟨_, _, _, _, _, _, rfl, D10⟩, List.forall_mem_cons.mpr ⟨⟨_, _, _, _, _, _, rfl, D11⟩, List.forall_mem_cons.mpr ⟨⟨_, _, _, _, _, _, rfl, D12⟩, List.forall_mem_cons.mpr ⟨⟨_, _, _, _, _, _, rfl, D13⟩, List.forall_mem_cons.mpr ⟨⟨_, _, _, _, _, _, rfl, D14⟩, List.forall_mem_cons.mpr ⟨⟨_, _, _, _, _, _, rfl, D15⟩, List.forall_mem_cons.mpr ⟨⟨_, _, _, _, _, _, rfl, D16⟩, List.forall_mem_cons.mpr ⟨⟨_, _, _, _, _, _, rfl, D17⟩, fun _ h => nomatch h⟩⟩⟩⟩⟩⟩⟩⟩⟩⟩⟩⟩⟩⟩⟩⟩⟩⟩
      exact key _ hm
    · exact List.forall_mem_cons.mpr ⟨PySem.W.mg_none_of X G z0, List.forall_mem_cons.mpr ⟨PySem.W.mg_none_of X G z1, List.forall_mem_cons.mpr ⟨PySem.W.mg_none_of X G z2, List.forall_mem_cons.mpr ⟨PySem.W.mg_none_of X G z3, List.forall_mem_cons.mpr ⟨PySem.W.mg_none_of X G z4, List.forall_mem_cons.mpr ⟨PySem.W.mg_none_of X G z5, List.forall_mem_cons.mpr ⟨PySem.W.mg_none_of X G z6, List.forall_mem_cons.mpr ⟨PySem.W.mg_none_of X G z7, List.forall_mem_cons.mpr ⟨PySem.W.mg_none_of X G z8, List.forall_mem_cons.mpr ⟨PySem.W.mg_none_of X G z9, List.forall_mem_cons.mpr ⟨PySem.W.mg_none_of X G z10, List.forall_mem_cons.mpr ⟨PySem.W.mg_none_of X G z11, List.forall_mem_cons.mpr ⟨PySem.W.mg_none_of X G z12, List.forall_mem_cons.mpr ⟨PySem.W.mg_none_of X G z13, List.forall_mem_cons.mpr ⟨PySem.W.mg_none_of X G z14, List.forall_mem_cons.mpr ⟨PySem.W.mg_none_of X G z15, fun _ h => nomatch h⟩⟩⟩⟩⟩⟩⟩⟩⟩⟩⟩⟩⟩⟩⟩⟩
    · exact fun h => PySem.W.mg_of X G zg
  exact ⟨_, fun s v => .of_eq rfl, fun base _ _ => law_fn T 5 rfl D17⟩
theorem math : ∀ ns : List Int, ns.length ≤ 63 → (∀ z ∈ ns, Builtin.Int.intBits z ≤ 1048576) → FEn tbl 6 17 [.ow (.fz (.scr ns))] = .ok (.fz (.bl true)) := fun ns hn hb =>
  math0 ns hn fun z hz => by
    have h := hb z hz
    unfold Big
    unfold Builtin.Int.intBits at h
    by_cases e : (z == 0) = true
    · have e0 : z = 0 := by simpa using e
      rw [e0]
      decide
    · rw [if_neg e] at h
      omega

end PL.T
open PySem PySem.W PyProof.Rows
set_option maxHeartbeats 0 in
theorem PySem.Challenge.cw_bestbyregions_k01_weights_that_cancel_holds : PySem.Challenge.rw_bestbyregions_k01_weights_that_cancel.Holds := by
  w_on; o_law; k_head; (case hw => w_witness2)
  k_fill
  refine L2.walk_ofB (l := PySem.Challenge.rw_bestbyregions_k01_weights_that_cancel) (n := 63) (k := 6) (x := "script") (CX := fun w => L2.CX PySem.Challenge.pw_bestbyregions_k01_weights_that_cancel w) (sp := fun w => PL.CallSp _ PL.xd0 1 (PL.FEn PL.T.tbl 6 17)) rfl (by decide) rfl ⟨rfl, by decide, by decide⟩ (fun w h Y => PySem.W.kIn_of Y) ?F (fun _ H a ns hl hb _ hS => PL.law_sp PL.T.math H a ns hl hb hS) (fun _ _ _ _ _ h => PL.law_cx h)
  case F =>
    intro w mg fa h KX G hmg
    refine' PL.T.all_mk KX G hmg ?a0 ?l0 ?c0 ?k0 ?a1 ?l1 ?c1 ?k1 ?a2 ?l2 ?c2 ?k2 ?a3 ?l3 ?c3 ?k3 ?a4 ?l4 ?c4 ?k4 ?a5 ?l5 ?c5 ?k5 ?a6 ?l6 ?c6 ?k6 ?a7 ?l7 ?c7 ?k7 ?a8 ?l8 ?c8 ?k8 ?a9 ?l9 ?c9 ?k9 ?a10 ?l10 ?c10 ?k10 ?a11 ?l11 ?c11 ?k11 ?a12 ?l12 ?c12 ?k12 ?a13 ?l13 ?c13 ?k13 ?a14 ?l14 ?c14 ?k14 ?a15 ?l15 ?c15 ?k15 ?a16 ?l16 ?c16 ?k16 ?a17 ?l17 ?c17 ?k17 ?z0 ?z1 ?z2 ?z3 ?z4 ?z5 ?z6 ?z7 ?z8 ?z9 ?z10 ?z11 ?z12 ?z13 ?z14 ?z15 ?zg
    (case a0 => k_is); (case l0 => k_is); (case c0 => k_is); (case k0 => k_is); (case a1 => k_is); (case l1 => k_is); (case c1 => k_is); (case k1 => k_is); (case a2 => k_is); (case l2 => k_is); (case c2 => k_is); (case k2 => k_is); (case a3 => k_is); (case l3 => k_is); (case c3 => k_is); (case k3 => k_is); (case a4 => k_is); (case l4 => k_is); (case c4 => k_is); (case k4 => k_is); (case a5 => k_is); (case l5 => k_is); (case c5 => k_is); (case k5 => k_is); (case a6 => k_is); (case l6 => k_is); (case c6 => k_is); (case k6 => k_is); (case a7 => k_is); (case l7 => k_is); (case c7 => k_is); (case k7 => k_is); (case a8 => k_is); (case l8 => k_is); (case c8 => k_is); (case k8 => k_is); (case a9 => k_is); (case l9 => k_is); (case c9 => k_is); (case k9 => k_is); (case a10 => k_is); (case l10 => k_is); (case c10 => k_is); (case k10 => k_is); (case a11 => k_is); (case l11 => k_is); (case c11 => k_is); (case k11 => k_is); (case a12 => k_is); (case l12 => k_is); (case c12 => k_is); (case k12 => k_is); (case a13 => k_is); (case l13 => k_is); (case c13 => k_is); (case k13 => k_is); (case a14 => k_is); (case l14 => k_is); (case c14 => k_is); (case k14 => k_is); (case a15 => k_is); (case l15 => k_is); (case c15 => k_is); (case k15 => k_is); (case a16 => k_is); (case l16 => k_is); (case c16 => k_is); (case k16 => k_is); (case a17 => k_is); (case l17 => k_is); (case c17 => k_is); (case k17 => k_is); (case z0 => k_is); (case z1 => k_is); (case z2 => k_is); (case z3 => k_is); (case z4 => k_is); (case z5 => k_is); (case z6 => k_is); (case z7 => k_is); (case z8 => k_is); (case z9 => k_is); (case z10 => k_is); (case z11 => k_is); (case z12 => k_is); (case z13 => k_is); (case z14 => k_is); (case z15 => k_is); (case zg => k_is)
