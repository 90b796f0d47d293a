import PyProof.Rows.All
import PySem.Challenge.RW_coverlines_k02_whole_terms_in_cases
import PySem.Str
import Wide.All
import OpenK.AllK
import Wide.FinOn
import HandS.ForMost
import HandS.Exc
import HandS.ExcOwn
import HandS.TryOnly
import HandS.WordsExc
import HandS.CallSlots
import HandS.IsInst
import HandS.Wide
import HandS.TupAny
import HandS.Zip
import HandS.SortInts
import HandS.TupSets
import HandS.Deep
import HandS.Lambda
import HandS.TupMul
import KE.SortData
import HandS.SetFor
import PyProof.Rows.SetFrom
import HandS.Defaults
import HandS.ExcField
import KE.KExcSuper
import HandS.ExcInit
import HandS.HeadHook4
import HandS.HeadWalk
import KE.KStateDown
import HandS.Head0
import HandS.Head1
import HandS.Head2
import HandS.HeadEnd
import HandS.HeadHook1
import HandS.HeadHook2
import HandS.HeadHook3

set_option Elab.async false
set_option linter.all false
set_option maxRecDepth 100000
/-! Core1: plain values, a small syntax, and what it computes (two readings: in passing style, and direct). No model here. -/
namespace Cv
open PySem

/-- plain values; ob: an object that may be changed, by its number -/
inductive PV where
  | non | bl (b : Bool) | int (i : Int) | str (s : Str) | tup (xs : List PV) | lst (xs : List PV) | ob (n : Nat)

/-! ### == of data (True is 1) -/
mutual
def eqP : PV → PV → Bool
  | .non, .non => true
  | .bl a, .bl b => a == b
  | .bl a, .int j => (if a then 1 else 0) == j
  | .int i, .bl b => i == (if b then 1 else 0)
  | .int i, .int j => i == j
  | .str x, .str y => x == y
  | .lst xs, .lst ys => eqL xs ys
  | .tup xs, .tup ys => eqL xs ys
  | _, _ => false
def eqL : List PV → List PV → Bool
  | [], [] => true
  | x :: xs, y :: ys => eqP x y && eqL xs ys
  | _, _ => false
end
mutual
def dat : Nat → PV → Bool
  | _, .non | _, .bl _ | _, .int _ => true
  | _, .str s => s.cps.all (· < 0x110000)
  | 0, .tup _ | 0, .lst _ | _, .ob _ => false
  | n + 1, .tup xs | n + 1, .lst xs => datL n xs
def datL : Nat → List PV → Bool
  | _, [] => true
  | n, x :: xs => dat n x && datL n xs
end

abbrev lineP : Nat := 16777216
inductive SObj where
  | cells (xs : List PV)
abbrev Sto := List SObj
inductive Slt where
  | no | val (v : PV) | own (xs : List PV)
abbrev Evn := List Slt

inductive BO where | add | sub | mul | fdiv | mod | pow
  deriving DecidableEq
inductive CO where | lt | le | gt | ge | eq | ne | isN | notN | inn | notIn
  deriving DecidableEq
inductive TyN where | int | bool | tuple | str | list
  deriving DecidableEq
/-- built-in functions -/
inductive BI where
  | len | abs | int1 | max2 | min2 | maxL | minL | all | any | sum | tuple | list | sorted | isi (t : TyN)
  | range1 | range2 | zip | enum
  | dget (kvs : List (Str × PV))
  | sortSet
/-- targets -/
inductive Tgt where
  | n (i : Nat) | t (ts : Tgt) | nil | cons (t ts : Tgt)
inductive Ce where
  | c (v : PV) | v (i : Nat) | bin (o : BO) (a b : Ce) | neg (a : Ce) | not (a : Ce) | and (a b : Ce) | or (a b : Ce)
  | cmp (o : CO) (a b : Ce) | chain (o o' : CO) (a b c : Ce) | ife (c a b : Ce)
  | tup (es : Ce) | lst (es : Ce) | nil | cons (e es : Ce)
  | ix (a b : Ce) | ixo (i : Nat) (b : Ce) | leno (i : Nat) | sl (a lo hi : Ce) | rev (a : Ce)
  | call (f : Nat) (es : Ce) | callk (f : Nat) (g : List Nat) (es : Ce) | bi (b : BI) (es : Ce) | obj (es : Ce)
  | lc (vs : List Nat) (tg : Tgt) (it cond elt : Ce) | rf (cls : Nat) (els : PV) (e : Ce)
inductive Cs where
  | skip | seq (a b : Cs) | set (i : Nat) (e : Ce) | setL (i : Nat) (e : Ce) | asg (tg : Tgt) (e : Ce) | par (i j : Nat) (a b : Ce) (li lj : Bool)
  | ite (c : Ce) (a b : Cs) | ret (e : Ce) | drop (e : Ce) | for_ (tg : Tgt) (it : Ce) (body : Cs) | while_ (c : Ce) (body : Cs)
  | cont | raise (cls : Nat) (e : Ce) | app (i : Nat) (e : Ce) | ext (i : Nat) (e : Ce) | sti (i : Nat) (a e : Ce)
structure CDef where
  np : Nat
  nl : Nat
  body : Cs

/-- how a def's run ends -/
inductive Res where
  | ok (v : PV) (st : Sto) | ex (cls : Nat) (v : PV) (st : Sto) | fail

/-! ### what operations do -/
def mulOk (i j : Int) : Bool := decide (i.natAbs.log2 + j.natAbs.log2 < 1000000)
def powOk (i j : Int) : Bool := decide (0 ≤ j) && decide (j ≤ 1000000) && decide (i.natAbs < 2 ^ 64)
def divOk (j : Int) : Bool := decide (0 < j) && decide (j.natAbs.log2 < 9000)
def binI : BO → Int → Int → Option PV
  | .add, i, j => some (.int (i + j))
  | .sub, i, j => some (.int (i - j))
  | .mul, i, j => if mulOk i j then some (.int (i * j)) else none
  | .fdiv, i, j => if divOk j then some (.int (i / j)) else none
  | .mod, i, j => if decide (0 < j) then some (.int (i % j)) else none
  | .pow, i, j => if powOk i j then some (.int (i ^ j.toNat)) else none
def fits (n : Nat) : Bool := Nat.ble n lineP
def binP : BO → PV → PV → Option PV
  | o, .int i, .int j => binI o i j
  | .add, .tup xs, .tup ys => if fits (xs.length + ys.length) then some (.tup (xs ++ ys)) else none
  | .add, .lst xs, .lst ys => if fits (xs.length + ys.length) then some (.lst (xs ++ ys)) else none
  | .add, .str x, .str y => if fits (x.length + y.length) then some (.str (x ++ y)) else none
  | .mul, .tup (x :: xs), .int k => if decide (2 ≤ k) && decide (k ≤ 1000) && decide (xs.length < 1000) then some (.tup (List.replicate k.toNat (x :: xs)).flatten) else none
  | _, _, _ => none
def eqO (x y : PV) : Option Bool := if dat 64 x && dat 64 y then some (eqP x y) else none
def cmpI : CO → Int → Int → Option Bool
  | .lt, i, j => some (decide (i < j))
  | .le, i, j => some (decide (i ≤ j))
  | .gt, i, j => some (decide (j < i))
  | .ge, i, j => some (decide (j ≤ i))
  | _, _, _ => none
def itemsOf : PV → Option (List PV)
  | .tup xs | .lst xs => some xs
  | _ => none
def inP (x : PV) (xs : List PV) : Option Bool := if dat 60 x && datL 60 xs then some (xs.any fun y => eqP y x) else none
def isNon : PV → Bool
  | .non => true
  | _ => false
def cmpP : CO → PV → PV → Option Bool
  | .isN, x, .non => some (isNon x)
  | .notN, x, .non => some (!isNon x)
  | .eq, x, y => eqO x y
  | .ne, x, y => (eqO x y).map (!·)
  | .inn, x, .tup ys | .inn, x, .lst ys => inP x ys
  | .notIn, x, .tup ys | .notIn, x, .lst ys => (inP x ys).map (!·)
  | .lt, .int i, .int j => some (decide (i < j))
  | .le, .int i, .int j => some (decide (i ≤ j))
  | .gt, .int i, .int j => some (decide (j < i))
  | .ge, .int i, .int j => some (decide (j ≤ i))
  | _, _, _ => none
/-- the placeOf that an index tells -/
def placeOf (n : Nat) (i : Int) : Option Nat := if 0 ≤ i then (if i < n then some i.toNat else none) else if -(n : Int) ≤ i then some (i + n).toNat else none
def atP (xs : List PV) (i : Int) : Option PV := (placeOf xs.length i).bind fun j => xs[j]?
def ixP : PV → PV → Option PV
  | .tup xs, .int i | .lst xs, .int i => atP xs i
  | _, _ => none
def cutAt (n d : Nat) : Option Int → Nat
  | none => d
  | some v => if v < 0 then (v + n).toNat else min v.toNat n
def cutP (xs : List PV) (lo hi : Option Int) : List PV := (xs.drop (cutAt xs.length 0 lo)).take (cutAt xs.length xs.length hi - cutAt xs.length 0 lo)
def slP : PV → Option Int → Option Int → Option PV
  | .tup xs, lo, hi => some (.tup (cutP xs lo hi))
  | .lst xs, lo, hi => some (.lst (cutP xs lo hi))
  | _, _, _ => none
def partOf : List PV → Option (Option Int)
  | [] => some none
  | [.int i] => some (some i)
  | _ => none
def isiP : TyN → PV → Bool
  | .int, .int _ | .int, .bl _ | .bool, .bl _ | .tuple, .tup _ | .str, .str _ | .list, .lst _ => true
  | _, _ => false
def boolsO : List PV → Option (List Bool)
  | [] => some []
  | .bl b :: r => (boolsO r).map (b :: ·)
  | _ => none
def intsO : List PV → Option (List Int)
  | [] => some []
  | .int b :: r => (intsO r).map (b :: ·)
  | _ => none
/-! order of data that are alike -/
mutual
def alkP : PV → PV → Bool
  | .non, .non => true
  | .bl _, .bl _ => true
  | .int _, .int _ => true
  | .str _, .str _ => true
  | .lst xs, .lst ys => alkL xs ys
  | .tup xs, .tup ys => alkL xs ys
  | _, _ => false
def alkL : List PV → List PV → Bool
  | x :: xs, y :: ys => alkP x y && alkL xs ys
  | [], _ => true
  | _ :: _, [] => true
end
mutual
def ltP : PV → PV → Bool
  | .bl a, .bl b => !a && b
  | .int i, .int j => decide (i < j)
  | .str x, .str y => decide (x.cps.toList < y.cps.toList)
  | .lst xs, .lst ys => ltL xs ys
  | .tup xs, .tup ys => ltL xs ys
  | _, _ => false
def ltL : List PV → List PV → Bool
  | x :: xs, y :: ys => if eqP x y = true then ltL xs ys else ltP x y
  | [], _ :: _ => true
  | _, _ => false
end
def insS (x : PV) : List PV → List PV
  | [] => [x]
  | y :: r => if ltP y x = true then y :: insS x r else x :: y :: r
def sortS : List PV → List PV
  | [] => []
  | x :: r => insS x (sortS r)
/-- put into a rising list, once -/
def insU (x : Int) : List Int → List Int
  | [] => [x]
  | y :: r => if x < y then x :: y :: r else if x = y then y :: r else y :: insU x r
def sortU : List Int → List Int
  | [] => []
  | x :: r => insU x (sortU r)
def tup0 : PV → Bool
  | .tup [] => true
  | _ => false
def tup1 : PV → Bool
  | .tup (_ :: _) => true
  | _ => false
def tupA : PV → Bool
  | .tup _ => true
  | _ => false
def plainK : PV → Bool
  | .tup _ | .non => false
  | _ => true
def srtOk : List PV → Bool
  | [] => true
  | x :: r => ((x :: r).all tup1 || (x :: r).all plainK) || (tup0 x && r.all tupA)
def maxI : Int → List Int → Int
  | m, [] => m
  | m, x :: r => maxI (if x > m then x else m) r
def minI : Int → List Int → Int
  | m, [] => m
  | m, x :: r => minI (if x < m then x else m) r
def sortP (xs : List PV) : Option (List PV) := if fits xs.length && datL 40 xs && xs.all (fun x => xs.all (alkP x)) && srtOk xs then some (sortS xs) else none
def upto (lo : Int) : Nat → List PV
  | 0 => []
  | n + 1 => .int lo :: upto (lo + 1) n
def rngOk (i : Int) : Bool := decide (-(2 ^ 62) ≤ i) && decide (i < 2 ^ 62)
def zipP : List PV → List PV → List PV
  | x :: xs, y :: ys => .tup [x, y] :: zipP xs ys
  | _, _ => []
def enumP (i : Int) : List PV → List PV
  | [] => []
  | x :: xs => .tup [.int i, x] :: enumP (i + 1) xs
/-- of one list -/
def onL (f : List PV → Option PV) : List PV → Option PV
  | [x] => (match x with
    | .lst ys => f ys
    | _ => none)
  | _ => none
def on1I (f : Int → Option PV) : List PV → Option PV
  | [x] => (match x with
    | .int i => f i
    | _ => none)
  | _ => none
def on2I (f : Int → Int → Option PV) : List PV → Option PV
  | [x, y] => (match x, y with
    | .int i, .int j => f i j
    | _, _ => none)
  | _ => none
def lenP : List PV → Option PV
  | [x] => (match x with
    | .tup xs => some (.int xs.length)
    | .lst xs => some (.int xs.length)
    | _ => none)
  | _ => none
def intP : List PV → Option PV
  | [x] => (match x with
    | .int i => some (.int i)
    | .bl b => some (.int (if b then 1 else 0))
    | _ => none)
  | _ => none
def tupleP : List PV → Option PV
  | [x] => (itemsOf x).map .tup
  | _ => none
def listP : List PV → Option PV
  | [x] => (itemsOf x).map .lst
  | _ => none
def maxO : List Int → Option PV
  | x :: r => some (.int (maxI x r))
  | [] => none
def minO : List Int → Option PV
  | x :: r => some (.int (minI x r))
  | [] => none
def zip2 : List PV → Option PV
  | [a, b] => (match a, b with
    | .lst xs, .lst ys => some (.lst (zipP xs ys))
    | .tup xs, .tup ys => some (.lst (zipP xs ys))
    | _, _ => none)
  | _ => none
def dgetP (kvs : List (Str × PV)) : List PV → Option PV
  | [x, d] => (match x with
    | .str k => some ((kvs.lookup k).getD d)
    | _ => none)
  | _ => none
def isiO (t : TyN) : List PV → Option PV
  | [x] => (match x with
    | .ob _ => none
    | x => some (.bl (isiP t x)))
  | _ => none
def biP : BI → List PV → Option PV
  | .len => lenP
  | .abs => on1I fun i => some (.int (if i < 0 then -i else i))
  | .int1 => intP
  | .max2 => on2I fun i j => some (.int (if j > i then j else i))
  | .min2 => on2I fun i j => some (.int (if j < i then j else i))
  | .maxL => onL fun xs => (intsO xs).bind maxO
  | .minL => onL fun xs => (intsO xs).bind minO
  | .all => onL fun xs => (boolsO xs).map fun bs => .bl (bs.all id)
  | .any => onL fun xs => (boolsO xs).map fun bs => .bl (bs.any id)
  | .sum => onL fun xs => (intsO xs).map fun ns => .int ns.sum
  | .tuple => tupleP
  | .list => listP
  | .sorted => onL fun xs => (sortP xs).map .lst
  | .isi t => isiO t
  | .range1 => on1I fun j => if rngOk j then some (.lst (upto 0 j.toNat)) else none
  | .range2 => on2I fun i j => if rngOk i && rngOk j then some (.lst (upto i (j - i).toNat)) else none
  | .zip => zip2
  | .enum => onL fun xs => some (.lst (enumP 0 xs))
  | .dget kvs => dgetP kvs
  | .sortSet => onL fun xs => (intsO xs).bind fun ns => if ns.length < 64 then some (.lst ((sortU ns).map .int)) else none

/-! ### slots -/
def rd : Slt → Option PV
  | .no => none
  | .val v => some v
  | .own xs => some (.lst xs)
def getS : Evn → Nat → Slt
  | [], _ => .no
  | s :: _, 0 => s
  | _ :: r, i + 1 => getS r i
def setS : Evn → Nat → Slt → Evn
  | [], _, _ => []
  | _ :: r, 0, x => x :: r
  | s :: r, i + 1, x => s :: setS r i x
/-- read as a value: a list of one's own is never changed from then on -/
def frz (ρ : Evn) (i : Nat) : Evn := match getS ρ i with
  | .own xs => setS ρ i (.val (.lst xs))
  | _ => ρ
def frzAll (ρ : Evn) : List Nat → Evn
  | [] => ρ
  | i :: r => frzAll (frz ρ i) r
def frzE : Evn → Evn
  | [] => []
  | .own xs :: r => .val (.lst xs) :: frzE r
  | s :: r => s :: frzE r
def wipeS (ρ : Evn) : List Nat → Evn
  | [] => ρ
  | i :: r => setS (wipeS ρ r) i .no
/-- the slots of o at vs put back into ρ -/
def backS (ρ o : Evn) : List Nat → Evn
  | [] => ρ
  | i :: r => setS (backS ρ o r) i (getS o i)
mutual
def bindT : Tgt → PV → Evn → Option Evn
  | .n i, x, ρ => some (setS ρ i (.val x))
  | .t ts, .tup xs, ρ => bindTs ts xs ρ
  | _, _, _ => none
def bindTs : Tgt → List PV → Evn → Option Evn
  | .nil, [], ρ => some ρ
  | .cons t ts, x :: xs, ρ => match bindT t x ρ with
    | some ρ' => bindTs ts xs ρ'
    | none => none
  | _, _, _ => none
end
def cellsAt (st : Sto) (n : Nat) : Option (List PV) := match st[n]? with
  | some (.cells xs) => some xs
  | none => none
def setPl (xs : List PV) (i : Int) (v : PV) : Option (List PV) := (placeOf xs.length i).map fun j => xs.set j v
/-- x[i] of a slot -/
def ixS (st : Sto) : Slt → PV → Option PV
  | .own xs, .int i => atP xs i
  | .val (.ob n), .int i => match cellsAt st n with
    | some xs => atP xs i
    | none => none
  | .val v, b => ixP v b
  | _, _ => none
def lenS : Slt → Option PV
  | .own xs => some (.int xs.length)
  | .val v => biP .len [v]
  | .no => none

/-! ### in passing style: what is behind is handed over -/
abbrev Kv := List PV → Evn → Sto → Res
abbrev Kn := Evn → Sto → Res
abbrev Cl := Nat → List PV → Sto → Res
/-- nothing that is raised leaves -/
def noX (call : Cl) : Cl := fun f vs st => match call f vs st with
  | .ok v st => .ok v st
  | _ => .fail
def giv (o : Option PV) (ρ : Evn) (st : Sto) (k : Kv) : Res := match o with
  | some v => k [v] ρ st
  | none => .fail
def givB (o : Option Bool) (ρ : Evn) (st : Sto) (k : Kv) : Res := match o with
  | some v => k [.bl v] ρ st
  | none => .fail
def back (r : Res) (ρ : Evn) (k : Kv) : Res := match r with
  | .ok v st => k [v] ρ st
  | .ex c v st => .ex c v st
  | .fail => .fail
def on1 (k : PV → Evn → Sto → Res) : Kv := fun vs ρ st => match vs with
  | [v] => k v ρ st
  | _ => .fail
def onB (k : Bool → Evn → Sto → Res) : Kv := fun vs ρ st => match vs with
  | [.bl b] => k b ρ st
  | _ => .fail
def onO (k : Option Int → Evn → Sto → Res) : Kv := fun vs ρ st => match partOf vs with
  | some o => k o ρ st
  | none => .fail
/-- by a truth value -/
def cnd {α : Type} (b : Bool) (x y : α) : α := match b with
  | true => x
  | false => y
def picks (vs : List PV) : List Nat → Option (List PV)
  | [] => some []
  | i :: r => match vs[i]? with
    | some v => (picks vs r).map (v :: ·)
    | none => none
def lcGo (tg : Tgt) (vs : List Nat) (c e : Evn → Sto → Kv → Res) : List PV → Evn → Sto → Kv → Res
  | [], ρ, st, k => k [] ρ st
  | x :: xs, ρ, st, k => match bindT tg x (wipeS ρ vs) with
    | some ρ1 => c ρ1 st (onB fun b ρ2 st2 => cnd b (e ρ2 st2 (on1 fun w ρ3 st3 => lcGo tg vs c e xs ρ3 st3 fun ws ρ4 st4 => k (w :: ws) ρ4 st4)) (lcGo tg vs c e xs ρ2 st2 k))
    | none => .fail
def ev : Ce → Cl → Evn → Sto → Kv → Res
  | .c v, _, ρ, st, k => k [v] ρ st
  | .v i, _, ρ, st, k => match rd (getS ρ i) with
    | some v => k [v] (frz ρ i) st
    | none => .fail
  | .bin o a b, f, ρ, st, k => ev a f ρ st (on1 fun x ρ st => ev b f ρ st (on1 fun y ρ st => giv (binP o x y) ρ st k))
  | .neg a, f, ρ, st, k => ev a f ρ st (on1 fun x ρ st => match x with
    | .int i => k [.int (-i)] ρ st
    | _ => .fail)
  | .not a, f, ρ, st, k => ev a f ρ st (onB fun b ρ st => k [.bl (!b)] ρ st)
  | .and a b, f, ρ, st, k => ev a f ρ st (onB fun x ρ st => cnd x (ev b f ρ st (onB fun y ρ st => k [.bl y] ρ st)) (k [.bl false] ρ st))
  | .or a b, f, ρ, st, k => ev a f ρ st (onB fun x ρ st => cnd x (k [.bl true] ρ st) (ev b f ρ st (onB fun y ρ st => k [.bl y] ρ st)))
  | .cmp o a b, f, ρ, st, k => ev a f ρ st (on1 fun x ρ st => ev b f ρ st (on1 fun y ρ st => givB (cmpP o x y) ρ st k))
  | .chain o o' a b c, f, ρ, st, k => ev a f ρ st (on1 fun x ρ st => ev b f ρ st (on1 fun y ρ st => givB (cmpP o x y) ρ st (onB fun t ρ st => cnd t (ev c f ρ st (on1 fun z ρ st => givB (cmpP o' y z) ρ st k)) (k [.bl false] ρ st))))
  | .ife c a b, f, ρ, st, k => ev c f ρ st (onB fun t ρ st => cnd t (ev a f ρ st (on1 fun v ρ st => k [v] ρ st)) (ev b f ρ st (on1 fun v ρ st => k [v] ρ st)))
  | .nil, _, ρ, st, k => k [] ρ st
  | .cons e es, f, ρ, st, k => ev e f ρ st (on1 fun v ρ st => ev es f ρ st fun vs ρ st => k (v :: vs) ρ st)
  | .tup es, f, ρ, st, k => ev es f ρ st fun vs ρ st => cnd (fits vs.length) (k [.tup vs] ρ st) .fail
  | .lst es, f, ρ, st, k => ev es f ρ st fun vs ρ st => cnd (fits vs.length) (k [.lst vs] ρ st) .fail
  | .ix a b, f, ρ, st, k => ev a f ρ st (on1 fun x ρ st => ev b f ρ st (on1 fun y ρ st => giv (ixP x y) ρ st k))
  | .ixo i b, f, ρ, st, k => match rd (getS ρ i) with
    | some _ => ev b f ρ st (on1 fun y ρ st => giv (ixS st (getS ρ i) y) ρ st k)
    | none => .fail
  | .leno i, _, ρ, st, k => giv (lenS (getS ρ i)) ρ st k
  | .sl a lo hi, f, ρ, st, k => ev a f ρ st (on1 fun x ρ st => ev lo f ρ st (onO fun l ρ st => ev hi f ρ st (onO fun h ρ st => giv (slP x l h) ρ st k)))
  | .rev a, f, ρ, st, k => ev a f ρ st (on1 fun x ρ st => match x with
    | .tup xs => k [.tup xs.reverse] ρ st
    | _ => .fail)
  | .call g es, f, ρ, st, k => ev es f ρ st fun vs ρ st => back (f g vs st) ρ k
  | .callk g p es, f, ρ, st, k => ev es f ρ st fun vs ρ st => match picks vs p with
    | some us => back (f g us st) ρ k
    | none => .fail
  | .bi b es, f, ρ, st, k => ev es f ρ st fun vs ρ st => giv (biP b vs) ρ st k
  | .obj es, f, ρ, st, k => ev es f ρ st fun vs ρ st => cnd (fits vs.length) (k [.ob st.length] ρ (st ++ [.cells vs])) .fail
  | .lc vs tg it c e, f, ρ, st, k => ev it f ρ st (on1 fun x ρ st => match itemsOf x with
    | some xs => lcGo tg vs (ev c (noX f)) (ev e (noX f)) xs (frzAll ρ vs) st fun ws ρ' st' => cnd (fits ws.length) (k [.lst ws] (backS ρ' (frzAll ρ vs) vs) st') .fail
    | none => .fail)
  | .rf cls els e, f, ρ, st, k => match ev e f (frzE ρ) st (on1 fun _ ρ' st' => .ok els st') with
    | .ok v st' => k [v] (frzE ρ) st'
    | .ex c v st' => cnd (decide (c = cls)) (k [v] (frzE ρ) st') .fail
    | .fail => .fail
def forGo (tg : Tgt) (body : Evn → Sto → Kn → Kn → Res) : List PV → Evn → Sto → Kn → Res
  | [], ρ, st, kn => kn ρ st
  | x :: xs, ρ, st, kn => match bindT tg x ρ with
    | some ρ1 => body ρ1 st (fun ρ2 st2 => forGo tg body xs ρ2 st2 kn) (fun ρ2 st2 => forGo tg body xs ρ2 st2 kn)
    | none => .fail
def whGo (c : Evn → Sto → Kv → Res) (body : Evn → Sto → Kn → Kn → Res) : Nat → Evn → Sto → Kn → Res
  | 0, _, _, _ => .fail
  | n + 1, ρ, st, kn => c ρ st (onB fun b ρ st => cnd b (body ρ st (fun ρ st => whGo c body n ρ st kn) (fun ρ st => whGo c body n ρ st kn)) (kn ρ st))
def isOwn : Slt → Bool
  | .own _ => true
  | _ => false
def rounds : Nat := 1000000000000
def appS (v : PV) (ρ : Evn) (i : Nat) : Option Evn := match getS ρ i with
  | .own xs => cnd (Nat.blt xs.length lineP) (some (setS ρ i (.own (xs ++ [v])))) none
  | _ => none
def extS (v : PV) (ρ : Evn) (i : Nat) : Option Evn := match getS ρ i, v with
  | .own xs, .lst ys => cnd (fits (xs.length + ys.length)) (some (setS ρ i (.own (xs ++ ys)))) none
  | _, _ => none
def stiS (a v : PV) (ρ : Evn) (st : Sto) (i : Nat) : Option (Evn × Sto) := match getS ρ i, a with
  | .own xs, .int j => match setPl xs j v with
    | some ys => some (setS ρ i (.own ys), st)
    | none => none
  | .val (.ob n), .int j => match cellsAt st n with
    | some xs => match setPl xs j v with
      | some ys => some (ρ, st.set n (.cells ys))
      | none => none
    | none => none
  | _, _ => none
def kn1 (o : Option Evn) (st : Sto) (kn : Kn) : Res := match o with
  | some ρ => kn ρ st
  | none => .fail
def kn2 (o : Option (Evn × Sto)) (kn : Kn) : Res := match o with
  | some (ρ, st) => kn ρ st
  | none => .fail
def ownS (v : PV) (ρ : Evn) (i : Nat) : Option Evn := match v with
  | .lst xs => some (setS ρ i (.own xs))
  | _ => none
def mkSlot (l : Bool) (v : PV) : Slt := match l, v with
  | true, .lst xs => .own xs
  | _, v => .val v
def exs : Cs → Cl → Evn → Sto → Kn → Kn → Res
  | .skip, _, ρ, st, kn, _ => kn ρ st
  | .seq a b, f, ρ, st, kn, kc => exs a f ρ st (fun ρ st => exs b f ρ st kn kc) kc
  | .set i e, f, ρ, st, kn, _ => ev e f ρ st (on1 fun v ρ st => kn (setS ρ i (.val v)) st)
  | .setL i e, f, ρ, st, kn, _ => ev e f ρ st (on1 fun v ρ st => kn1 (ownS v ρ i) st kn)
  | .asg tg e, f, ρ, st, kn, _ => ev e f ρ st (on1 fun v ρ st => kn1 (bindT tg v ρ) st kn)
  | .par i j a b li lj, f, ρ, st, kn, _ => ev a f ρ st (on1 fun v ρ st => ev b f ρ st (on1 fun w ρ st => kn (setS (setS ρ i (mkSlot li v)) j (mkSlot lj w)) st))
  | .ite c a b, f, ρ, st, kn, kc => ev c f ρ st (onB fun t ρ st => cnd t (exs a f ρ st kn kc) (exs b f ρ st kn kc))
  | .ret e, f, ρ, st, _, _ => ev e f ρ st (on1 fun v _ st => .ok v st)
  | .drop e, f, ρ, st, kn, _ => ev e f ρ st (on1 fun _ ρ st => kn ρ st)
  | .for_ tg it body, f, ρ, st, kn, _ => ev it f ρ st (on1 fun x ρ st => match itemsOf x with
    | some xs => forGo tg (exs body f) xs ρ st kn
    | none => .fail)
  | .while_ c body, f, ρ, st, kn, _ => whGo (ev c f) (exs body f) rounds ρ st kn
  | .cont, _, ρ, st, _, kc => kc ρ st
  | .raise cls e, f, ρ, st, _, _ => ev e f ρ st (on1 fun v _ st => .ex cls v st)
  | .app i e, f, ρ, st, kn, _ => cnd (isOwn (getS ρ i)) (ev e f ρ st (on1 fun v ρ st => kn1 (appS v ρ i) st kn)) .fail
  | .ext i e, f, ρ, st, kn, _ => cnd (isOwn (getS ρ i)) (ev e f ρ st (on1 fun v ρ st => kn1 (extS v ρ i) st kn)) .fail
  | .sti i a e, f, ρ, st, kn, _ => ev e f ρ st (on1 fun v ρ st => match rd (getS ρ i) with
    | some _ => ev a f ρ st (on1 fun a ρ st => kn2 (stiS a v ρ st i) kn)
    | none => .fail)
def newEnv (nl : Nat) (vs : List PV) : Evn := vs.map Slt.val ++ List.replicate nl .no
def runP (T : List CDef) : Nat → Cl
  | 0, _, _, _ => .fail
  | d + 1, f, vs, st => match T[f]? with
    | some D => cnd (Nat.beq vs.length D.np) (exs D.body (runP T d) (newEnv D.nl vs) st (fun _ st => .ok .non st) (fun _ _ => .fail)) .fail
    | none => .fail
end Cv

set_option Elab.async false
set_option linter.all false
set_option maxRecDepth 100000
/-! Core1b: the direct reading, and that it is the same. -/
namespace Cv
open PySem
inductive ResE where
  | ok (vs : List PV) (ρ : Evn) (st : Sto) | ex (c : Nat) (v : PV) (st : Sto) | fail
def ResE.go (r : ResE) (k : Kv) : Res := match r with
  | .ok vs ρ st => k vs ρ st
  | .ex c v st => .ex c v st
  | .fail => .fail
def ResE.bind (r : ResE) (k : List PV → Evn → Sto → ResE) : ResE := match r with
  | .ok vs ρ st => k vs ρ st
  | .ex c v st => .ex c v st
  | .fail => .fail
theorem ResE.go_bind (r : ResE) (g : List PV → Evn → Sto → ResE) (k : Kv) : (r.bind g).go k = r.go fun vs ρ st => (g vs ρ st).go k := by cases r <;> rfl
def givD (o : Option PV) (ρ : Evn) (st : Sto) : ResE := match o with
  | some v => .ok [v] ρ st
  | none => .fail
def givBD (o : Option Bool) (ρ : Evn) (st : Sto) : ResE := match o with
  | some v => .ok [.bl v] ρ st
  | none => .fail
def backD (r : Res) (ρ : Evn) : ResE := match r with
  | .ok v st => .ok [v] ρ st
  | .ex c v st => .ex c v st
  | .fail => .fail
def d1 (k : PV → Evn → Sto → ResE) : List PV → Evn → Sto → ResE := fun vs ρ st => match vs with
  | [v] => k v ρ st
  | _ => .fail
def dB (k : Bool → Evn → Sto → ResE) : List PV → Evn → Sto → ResE := fun vs ρ st => match vs with
  | [.bl b] => k b ρ st
  | _ => .fail
def dO (k : Option Int → Evn → Sto → ResE) : List PV → Evn → Sto → ResE := fun vs ρ st => match partOf vs with
  | some o => k o ρ st
  | none => .fail
def lcD (tg : Tgt) (vs : List Nat) (c e : Evn → Sto → ResE) : List PV → Evn → Sto → ResE
  | [], ρ, st => .ok [] ρ st
  | x :: xs, ρ, st => match bindT tg x (wipeS ρ vs) with
    | some ρ1 => (c ρ1 st).bind (dB fun b ρ2 st2 => cnd b ((e ρ2 st2).bind (d1 fun w ρ3 st3 => (lcD tg vs c e xs ρ3 st3).bind fun ws ρ4 st4 => .ok (w :: ws) ρ4 st4)) (lcD tg vs c e xs ρ2 st2))
    | none => .fail
def evD : Ce → Cl → Evn → Sto → ResE
  | .c v, _, ρ, st => .ok [v] ρ st
  | .v i, _, ρ, st => match rd (getS ρ i) with
    | some v => .ok [v] (frz ρ i) st
    | none => .fail
  | .bin o a b, f, ρ, st => (evD a f ρ st).bind (d1 fun x ρ st => (evD b f ρ st).bind (d1 fun y ρ st => givD (binP o x y) ρ st))
  | .neg a, f, ρ, st => (evD a f ρ st).bind (d1 fun x ρ st => match x with
    | .int i => .ok [.int (-i)] ρ st
    | _ => .fail)
  | .not a, f, ρ, st => (evD a f ρ st).bind (dB fun b ρ st => .ok [.bl (!b)] ρ st)
  | .and a b, f, ρ, st => (evD a f ρ st).bind (dB fun x ρ st => cnd x ((evD b f ρ st).bind (dB fun y ρ st => .ok [.bl y] ρ st)) (.ok [.bl false] ρ st))
  | .or a b, f, ρ, st => (evD a f ρ st).bind (dB fun x ρ st => cnd x (.ok [.bl true] ρ st) ((evD b f ρ st).bind (dB fun y ρ st => .ok [.bl y] ρ st)))
  | .cmp o a b, f, ρ, st => (evD a f ρ st).bind (d1 fun x ρ st => (evD b f ρ st).bind (d1 fun y ρ st => givBD (cmpP o x y) ρ st))
  | .chain o o' a b c, f, ρ, st => (evD a f ρ st).bind (d1 fun x ρ st => (evD b f ρ st).bind (d1 fun y ρ st => (givBD (cmpP o x y) ρ st).bind (dB fun t ρ st => cnd t ((evD c f ρ st).bind (d1 fun z ρ st => givBD (cmpP o' y z) ρ st)) (.ok [.bl false] ρ st))))
  | .ife c a b, f, ρ, st => (evD c f ρ st).bind (dB fun t ρ st => cnd t ((evD a f ρ st).bind (d1 fun v ρ st => .ok [v] ρ st)) ((evD b f ρ st).bind (d1 fun v ρ st => .ok [v] ρ st)))
  | .nil, _, ρ, st => .ok [] ρ st
  | .cons e es, f, ρ, st => (evD e f ρ st).bind (d1 fun v ρ st => (evD es f ρ st).bind fun vs ρ st => .ok (v :: vs) ρ st)
  | .tup es, f, ρ, st => (evD es f ρ st).bind fun vs ρ st => cnd (fits vs.length) (.ok [.tup vs] ρ st) .fail
  | .lst es, f, ρ, st => (evD es f ρ st).bind fun vs ρ st => cnd (fits vs.length) (.ok [.lst vs] ρ st) .fail
  | .ix a b, f, ρ, st => (evD a f ρ st).bind (d1 fun x ρ st => (evD b f ρ st).bind (d1 fun y ρ st => givD (ixP x y) ρ st))
  | .ixo i b, f, ρ, st => match rd (getS ρ i) with
    | some _ => (evD b f ρ st).bind (d1 fun y ρ st => givD (ixS st (getS ρ i) y) ρ st)
    | none => .fail
  | .leno i, _, ρ, st => givD (lenS (getS ρ i)) ρ st
  | .sl a lo hi, f, ρ, st => (evD a f ρ st).bind (d1 fun x ρ st => (evD lo f ρ st).bind (dO fun l ρ st => (evD hi f ρ st).bind (dO fun h ρ st => givD (slP x l h) ρ st)))
  | .rev a, f, ρ, st => (evD a f ρ st).bind (d1 fun x ρ st => match x with
    | .tup xs => .ok [.tup xs.reverse] ρ st
    | _ => .fail)
  | .call g es, f, ρ, st => (evD es f ρ st).bind fun vs ρ st => backD (f g vs st) ρ
  | .callk g p es, f, ρ, st => (evD es f ρ st).bind fun vs ρ st => match picks vs p with
    | some us => backD (f g us st) ρ
    | none => .fail
  | .bi b es, f, ρ, st => (evD es f ρ st).bind fun vs ρ st => givD (biP b vs) ρ st
  | .obj es, f, ρ, st => (evD es f ρ st).bind fun vs ρ st => cnd (fits vs.length) (.ok [.ob st.length] ρ (st ++ [.cells vs])) .fail
  | .lc vs tg it c e, f, ρ, st => (evD it f ρ st).bind (d1 fun x ρ st => match itemsOf x with
    | some xs => (lcD tg vs (evD c (noX f)) (evD e (noX f)) xs (frzAll ρ vs) st).bind fun ws ρ' st' => cnd (fits ws.length) (.ok [.lst ws] (backS ρ' (frzAll ρ vs) vs) st') .fail
    | none => .fail)
  | .rf cls els e, f, ρ, st => match evD e f (frzE ρ) st with
    | .ok [_] ρ' st' => .ok [els] (frzE ρ) st'
    | .ok _ ρ' st' => .fail
    | .ex c v st' => cnd (decide (c = cls)) (.ok [v] (frzE ρ) st') .fail
    | .fail => .fail
inductive ResS where
  | nx (ρ : Evn) (st : Sto) | ct (ρ : Evn) (st : Sto) | rt (v : PV) (st : Sto) | ex (c : Nat) (v : PV) (st : Sto) | fail
def ResS.go (r : ResS) (kn kc : Kn) : Res := match r with
  | .nx ρ st => kn ρ st
  | .ct ρ st => kc ρ st
  | .rt v st => .ok v st
  | .ex c v st => .ex c v st
  | .fail => .fail
def ResE.st (r : ResE) (k : List PV → Evn → Sto → ResS) : ResS := match r with
  | .ok vs ρ st => k vs ρ st
  | .ex c v st => .ex c v st
  | .fail => .fail
def s1 (k : PV → Evn → Sto → ResS) : List PV → Evn → Sto → ResS := fun vs ρ st => match vs with
  | [v] => k v ρ st
  | _ => .fail
def sB (k : Bool → Evn → Sto → ResS) : List PV → Evn → Sto → ResS := fun vs ρ st => match vs with
  | [.bl b] => k b ρ st
  | _ => .fail
def ResS.then (r : ResS) (k : Evn → Sto → ResS) : ResS := match r with
  | .nx ρ st => k ρ st
  | r => r
/-- behind a loop's turn -/
def ResS.turn (r : ResS) (k : Evn → Sto → ResS) : ResS := match r with
  | .nx ρ st => k ρ st
  | .ct ρ st => k ρ st
  | r => r
def forD (tg : Tgt) (body : Evn → Sto → ResS) : List PV → Evn → Sto → ResS
  | [], ρ, st => .nx ρ st
  | x :: xs, ρ, st => match bindT tg x ρ with
    | some ρ1 => (body ρ1 st).turn fun ρ2 st2 => forD tg body xs ρ2 st2
    | none => .fail
def whD (c : Evn → Sto → ResE) (body : Evn → Sto → ResS) : Nat → Evn → Sto → ResS
  | 0, _, _ => .fail
  | n + 1, ρ, st => (c ρ st).st (sB fun b ρ st => cnd b ((body ρ st).turn fun ρ st => whD c body n ρ st) (.nx ρ st))
def nx1 (o : Option Evn) (st : Sto) : ResS := match o with
  | some ρ => .nx ρ st
  | none => .fail
def nx2 (o : Option (Evn × Sto)) : ResS := match o with
  | some (ρ, st) => .nx ρ st
  | none => .fail
def exsD : Cs → Cl → Evn → Sto → ResS
  | .skip, _, ρ, st => .nx ρ st
  | .seq a b, f, ρ, st => (exsD a f ρ st).then fun ρ st => exsD b f ρ st
  | .set i e, f, ρ, st => (evD e f ρ st).st (s1 fun v ρ st => .nx (setS ρ i (.val v)) st)
  | .setL i e, f, ρ, st => (evD e f ρ st).st (s1 fun v ρ st => nx1 (ownS v ρ i) st)
  | .asg tg e, f, ρ, st => (evD e f ρ st).st (s1 fun v ρ st => nx1 (bindT tg v ρ) st)
  | .par i j a b li lj, f, ρ, st => (evD a f ρ st).st (s1 fun v ρ st => (evD b f ρ st).st (s1 fun w ρ st => .nx (setS (setS ρ i (mkSlot li v)) j (mkSlot lj w)) st))
  | .ite c a b, f, ρ, st => (evD c f ρ st).st (sB fun t ρ st => cnd t (exsD a f ρ st) (exsD b f ρ st))
  | .ret e, f, ρ, st => (evD e f ρ st).st (s1 fun v _ st => .rt v st)
  | .drop e, f, ρ, st => (evD e f ρ st).st (s1 fun _ ρ st => .nx ρ st)
  | .for_ tg it body, f, ρ, st => (evD it f ρ st).st (s1 fun x ρ st => match itemsOf x with
    | some xs => forD tg (exsD body f) xs ρ st
    | none => .fail)
  | .while_ c body, f, ρ, st => whD (evD c f) (exsD body f) rounds ρ st
  | .cont, _, ρ, st => .ct ρ st
  | .raise cls e, f, ρ, st => (evD e f ρ st).st (s1 fun v _ st => .ex cls v st)
  | .app i e, f, ρ, st => cnd (isOwn (getS ρ i)) ((evD e f ρ st).st (s1 fun v ρ st => nx1 (appS v ρ i) st)) .fail
  | .ext i e, f, ρ, st => cnd (isOwn (getS ρ i)) ((evD e f ρ st).st (s1 fun v ρ st => nx1 (extS v ρ i) st)) .fail
  | .sti i a e, f, ρ, st => (evD e f ρ st).st (s1 fun v ρ st => match rd (getS ρ i) with
    | some _ => (evD a f ρ st).st (s1 fun a ρ st => nx2 (stiS a v ρ st i))
    | none => .fail)

theorem go_d1 (r : ResE) (g : PV → Evn → Sto → ResE) (k : Kv) : (r.bind (d1 g)).go k = r.go (on1 fun v ρ st => (g v ρ st).go k) := by
  rw [ResE.go_bind]; congr; funext vs ρ st; rcases vs with _ | ⟨v, _ | ⟨w, r⟩⟩ <;> rfl
theorem go_dB (r : ResE) (g : Bool → Evn → Sto → ResE) (k : Kv) : (r.bind (dB g)).go k = r.go (onB fun v ρ st => (g v ρ st).go k) := by
  rw [ResE.go_bind]; congr; funext vs ρ st; rcases vs with _ | ⟨v, _ | ⟨w, r⟩⟩ <;> first | rfl | (cases v <;> rfl)
theorem go_dO (r : ResE) (g : Option Int → Evn → Sto → ResE) (k : Kv) : (r.bind (dO g)).go k = r.go (onO fun v ρ st => (g v ρ st).go k) := by
  rw [ResE.go_bind]; congr; funext vs ρ st; unfold dO onO
  cases partOf vs <;> rfl
theorem go_cnd (b : Bool) (x y : ResE) (k : Kv) : (cnd b x y).go k = cnd b (x.go k) (y.go k) := by cases b <;> rfl
theorem go_giv (o : Option PV) (ρ : Evn) (st : Sto) (k : Kv) : (givD o ρ st).go k = giv o ρ st k := by cases o <;> rfl
theorem go_givB (o : Option Bool) (ρ : Evn) (st : Sto) (k : Kv) : (givBD o ρ st).go k = givB o ρ st k := by cases o <;> rfl
theorem go_back (r : Res) (ρ : Evn) (k : Kv) : (backD r ρ).go k = back r ρ k := by cases r <;> rfl
theorem go_ok (vs : List PV) (ρ : Evn) (st : Sto) (k : Kv) : (ResE.ok vs ρ st).go k = k vs ρ st := rfl
theorem go_fail (k : Kv) : (ResE.fail).go k = .fail := rfl
theorem go_lc1 (r : ResE) (g : PV → Evn → Sto → ResE) (k : Kv) : (r.bind (d1 fun w ρ3 st3 => (g w ρ3 st3).bind fun ws ρ4 st4 => .ok (w :: ws) ρ4 st4)).go k = r.go (on1 fun w ρ st => (g w ρ st).go fun ws ρ4 st4 => k (w :: ws) ρ4 st4) := by
  rw [go_d1]; congr; funext w ρ st; rw [ResE.go_bind]; rfl
theorem lc_eq (tg : Tgt) (vs : List Nat) (c e : Evn → Sto → Kv → Res) (cD eD : Evn → Sto → ResE) (hc : ∀ ρ st k, c ρ st k = (cD ρ st).go k) (he : ∀ ρ st k, e ρ st k = (eD ρ st).go k) :
    ∀ xs ρ st k, lcGo tg vs c e xs ρ st k = (lcD tg vs cD eD xs ρ st).go k
  | [], ρ, st, k => rfl
  | x :: xs, ρ, st, k => by
    unfold lcGo lcD
    cases bindT tg x (wipeS ρ vs) with
    | none => rfl
    | some ρ1 =>
      simp only [hc, he, lc_eq tg vs c e cD eD hc he xs, go_dB, go_cnd, go_lc1]
theorem ev_eq : ∀ (c : Ce) (f : Cl) (ρ : Evn) (st : Sto) (k : Kv), ev c f ρ st k = (evD c f ρ st).go k := by
  intro c
  induction c with
  | c v => intros; rfl
  | v i => intro f ρ st k; simp only [ev, evD]; cases rd (getS ρ i) <;> rfl
  | bin o a b ha hb => intro f ρ st k; simp only [ev, evD, ha, hb, go_d1, go_giv]
  | neg a ha =>
    intro f ρ st k; simp only [ev, evD, ha, go_d1]; congr; funext x ρ st; cases x <;> rfl
  | not a ha => intro f ρ st k; simp only [ev, evD, ha, go_dB, go_ok]
  | and a b ha hb => intro f ρ st k; simp only [ev, evD, ha, hb, go_dB, go_cnd, go_ok]
  | or a b ha hb => intro f ρ st k; simp only [ev, evD, ha, hb, go_dB, go_cnd, go_ok]
  | cmp o a b ha hb => intro f ρ st k; simp only [ev, evD, ha, hb, go_d1, go_givB]
  | chain o o' a b c ha hb hc => intro f ρ st k; simp only [ev, evD, ha, hb, hc, go_d1, go_dB, go_givB, go_cnd, go_ok]
  | ife c a b hc ha hb => intro f ρ st k; simp only [ev, evD, ha, hb, hc, go_d1, go_dB, go_cnd, go_ok]
  | nil => intros; rfl
  | cons e es he hes =>
    intro f ρ st k; simp only [ev, evD, he]; rw [go_d1]
    congr; funext x ρ st; rw [ResE.go_bind, hes]; rfl
  | tup es h => intro f ρ st k; simp only [ev, evD, h, ResE.go_bind, go_cnd, go_ok, go_fail]
  | lst es h => intro f ρ st k; simp only [ev, evD, h, ResE.go_bind, go_cnd, go_ok, go_fail]
  | obj es h => intro f ρ st k; simp only [ev, evD, h, ResE.go_bind, go_cnd, go_ok, go_fail]
  | ix a b ha hb => intro f ρ st k; simp only [ev, evD, ha, hb, go_d1, go_giv]
  | ixo i b hb =>
    intro f ρ st k; simp only [ev, evD]
    cases rd (getS ρ i) with
    | none => rfl
    | some v => simp only [hb, go_d1, go_giv]
  | leno i => intro f ρ st k; simp only [ev, evD, go_giv]
  | sl a lo hi ha hl hh => intro f ρ st k; simp only [ev, evD, ha, hl, hh, go_d1, go_dO, go_giv]
  | rev a ha =>
    intro f ρ st k; simp only [ev, evD, ha, go_d1]; congr; funext x ρ st; cases x <;> rfl
  | call g es h => intro f ρ st k; simp only [ev, evD, h, ResE.go_bind, go_back]
  | callk g p es h =>
    intro f ρ st k; simp only [ev, evD, h, ResE.go_bind]; congr; funext vs ρ st
    cases picks vs p <;> simp only [go_back, go_fail]
  | bi b es h => intro f ρ st k; simp only [ev, evD, h, ResE.go_bind, go_giv]
  | lc vs tg it c e hi hc he =>
    intro f ρ st k; simp only [ev, evD, hi, go_d1]; congr; funext x ρ st
    cases itemsOf x with
    | none => rfl
    | some xs =>
      simp only [ResE.go_bind, go_cnd, go_ok, go_fail]
      exact lc_eq tg vs _ _ _ _ (hc (noX f)) (he (noX f)) xs _ st _
  | rf cls els e h =>
    intro f ρ st k; simp only [ev, evD, h]
    cases evD e f (frzE ρ) st with
    | ok vs ρ' st' => rcases vs with _ | ⟨v, _ | ⟨w, r⟩⟩ <;> rfl
    | ex c v st' => simp only [ResE.go, go_cnd]; cases decide (c = cls) <;> rfl
    | fail => rfl
theorem st_go (r : ResE) (g : List PV → Evn → Sto → ResS) (kn kc : Kn) : (r.st g).go kn kc = r.go fun vs ρ st => (g vs ρ st).go kn kc := by cases r <;> rfl
theorem go_s1 (r : ResE) (g : PV → Evn → Sto → ResS) (kn kc : Kn) : (r.st (s1 g)).go kn kc = r.go (on1 fun v ρ st => (g v ρ st).go kn kc) := by
  rw [st_go]; congr; funext vs ρ st; rcases vs with _ | ⟨v, _ | ⟨w, r⟩⟩ <;> rfl
theorem go_sB (r : ResE) (g : Bool → Evn → Sto → ResS) (kn kc : Kn) : (r.st (sB g)).go kn kc = r.go (onB fun v ρ st => (g v ρ st).go kn kc) := by
  rw [st_go]; congr; funext vs ρ st; rcases vs with _ | ⟨v, _ | ⟨w, r⟩⟩ <;> first | rfl | (cases v <;> rfl)
theorem go_then (r : ResS) (g : Evn → Sto → ResS) (kn kc : Kn) : (r.then g).go kn kc = r.go (fun ρ st => (g ρ st).go kn kc) kc := by cases r <;> rfl
theorem go_turn (r : ResS) (g : Evn → Sto → ResS) (kn kc : Kn) : (r.turn g).go kn kc = r.go (fun ρ st => (g ρ st).go kn kc) (fun ρ st => (g ρ st).go kn kc) := by cases r <;> rfl
theorem go_scnd (b : Bool) (x y : ResS) (kn kc : Kn) : (cnd b x y).go kn kc = cnd b (x.go kn kc) (y.go kn kc) := by cases b <;> rfl
theorem go_nx (ρ : Evn) (st : Sto) (kn kc : Kn) : (ResS.nx ρ st).go kn kc = kn ρ st := rfl
theorem go_nx1 (o : Option Evn) (st : Sto) (kn kc : Kn) : (nx1 o st).go kn kc = kn1 o st kn := by cases o <;> rfl
theorem go_nx2 (o : Option (Evn × Sto)) (kn kc : Kn) : (nx2 o).go kn kc = kn2 o kn := by
  rcases o with _ | ⟨ρ, st⟩ <;> rfl
theorem for_eq (tg : Tgt) (b : Evn → Sto → Kn → Kn → Res) (bD : Evn → Sto → ResS) (kc0 : Kn) (hb : ∀ ρ st kn kc, b ρ st kn kc = (bD ρ st).go kn kc) :
    ∀ xs ρ st kn, forGo tg b xs ρ st kn = (forD tg bD xs ρ st).go kn kc0
  | [], ρ, st, k => rfl
  | x :: xs, ρ, st, k => by
    unfold forGo forD
    cases bindT tg x ρ with
    | none => rfl
    | some ρ1 => simp only [hb, for_eq tg b bD kc0 hb xs, go_turn]
theorem wh_eq (c : Evn → Sto → Kv → Res) (cD : Evn → Sto → ResE) (b : Evn → Sto → Kn → Kn → Res) (bD : Evn → Sto → ResS) (kc0 : Kn) (hc : ∀ ρ st k, c ρ st k = (cD ρ st).go k) (hb : ∀ ρ st kn kc, b ρ st kn kc = (bD ρ st).go kn kc) :
    ∀ n ρ st kn, whGo c b n ρ st kn = (whD cD bD n ρ st).go kn kc0
  | 0, ρ, st, k => rfl
  | n + 1, ρ, st, k => by
    unfold whGo whD
    simp only [hc, hb, wh_eq c cD b bD kc0 hc hb n, go_sB, go_scnd, go_turn, go_nx]
theorem exs_eq : ∀ (c : Cs) (f : Cl) (ρ : Evn) (st : Sto) (kn kc : Kn), exs c f ρ st kn kc = (exsD c f ρ st).go kn kc := by
  intro c
  induction c with
  | skip => intros; rfl
  | seq a b ha hb => intro f ρ st kn kc; simp only [exs, exsD, ha, hb, go_then]
  | set i e => intro f ρ st kn kc; simp only [exs, exsD, ev_eq, go_s1, go_nx]
  | setL i e => intro f ρ st kn kc; simp only [exs, exsD, ev_eq, go_s1, go_nx1]
  | asg tg e => intro f ρ st kn kc; simp only [exs, exsD, ev_eq, go_s1, go_nx1]
  | par i j a b li lj => intro f ρ st kn kc; simp only [exs, exsD, ev_eq, go_s1, go_nx]
  | ite c a b ha hb => intro f ρ st kn kc; simp only [exs, exsD, ev_eq, ha, hb, go_sB, go_scnd]
  | ret e => intro f ρ st kn kc; simp only [exs, exsD, ev_eq, go_s1]; rfl
  | drop e => intro f ρ st kn kc; simp only [exs, exsD, ev_eq, go_s1, go_nx]
  | for_ tg it body h =>
    intro f ρ st kn kc; simp only [exs, exsD, ev_eq, go_s1]
    congr; funext x ρ st
    cases itemsOf x with
    | none => rfl
    | some xs => exact for_eq tg _ _ kc (h f) xs ρ st kn
  | while_ c body h =>
    intro f ρ st kn kc; simp only [exs, exsD]
    exact wh_eq _ _ _ _ kc (ev_eq c f) (h f) rounds ρ st kn
  | cont => intros; rfl
  | raise cls e => intro f ρ st kn kc; simp only [exs, exsD, ev_eq, go_s1]; rfl
  | app i e => intro f ρ st kn kc; simp only [exs, exsD, ev_eq, go_s1, go_nx1]; cases isOwn (getS ρ i) <;> simp only [cnd, go_s1, go_nx1] <;> rfl
  | ext i e => intro f ρ st kn kc; simp only [exs, exsD, ev_eq, go_s1, go_nx1]; cases isOwn (getS ρ i) <;> simp only [cnd, go_s1, go_nx1] <;> rfl
  | sti i a e =>
    intro f ρ st kn kc; simp only [exs, exsD, ev_eq, go_s1]
    congr; funext v ρ st
    cases rd (getS ρ i) with
    | none => rfl
    | some w => simp only [go_s1, go_nx2]
end Cv

set_option Elab.async false
set_option linter.all false
set_option maxRecDepth 100000
set_option maxHeartbeats 4000000
/-! Core2: how plain values stand in the heap, and how a def's slots stand. -/
namespace Cv
open PySem PySem.Spec PyProof.Rows L2
abbrev Fg := PySem.W.Frag
/-- what is in the one heap is in the other -/
def Sb (F H : Hp) : Prop := ∀ a o, F a = some o → H a = some o
theorem Sb.rfl' {F : Hp} : Sb F F := fun _ _ h => h
theorem Sb.tr {F G H : Hp} (a : Sb F G) (b : Sb G H) : Sb F H := fun c o h => b c o (a c o h)
theorem Sb.rd {F H : Hp} (s : Sb F H) {a : Addr} {u : HO} (h : Rd F a u) : Rd H a u := by
  rcases h with h | ⟨o, h⟩
  · exact .inl (s _ _ h)
  · exact .inr ⟨o, s _ _ h⟩
theorem Sb.sl {K : Fg} {F H : Hp} (s : Sb F H) {a : Addr} {xs : List V} (h : SqL K F a xs) : SqL K H a xs := by
  rcases h with h | h
  · exact .inl (s.rd h)
  · exact .inr h
theorem Sb.stp {K : Fg} {F H : Hp} (s : Sb F H) {a : Addr} {xs : List V} (h : SqT K F a xs) : SqT K H a xs := by
  rcases h with h | h
  · exact .inl (s.rd h)
  · exact .inr h
theorem Sb.up {F H : Hp} (s : Sb F H) {a : Addr} {o : HO} (n : F a = none) : Sb F (upd H a o) := fun b u h => by
  rw [upd_ne (fun e => by rw [e, n] at h; cases h)]; exact s b u h
theorem Sb.up2 {F H : Hp} (s : Sb F H) {a : Addr} {o : HO} : Sb (upd F a o) (upd H a o) := fun b u h => by
  by_cases e : b = a
  · subst e; rw [upd_same] at h ⊢; exact h
  · rw [upd_ne e] at h ⊢; exact s b u h
theorem sub_upd {H : Hp} {a : Addr} {o : HO} (n : H a = none) : Sb H (upd H a o) := Sb.rfl'.up n

/-! a plain value in the heap: K the written partOf, F what never changes any more, ι where the changeable objects stand -/
mutual
def Rep (K : Fg) (F : Hp) (ι : List Addr) : PV → V → Prop
  | .non, v => v = .non
  | .bl b, v => v = .bl b
  | .int i, v => v = .int i
  | .str s, v => v = .str s
  | .tup xs, v => ∃ a vs, v = .ref a ∧ SqT K F a vs ∧ Reps K F ι xs vs
  | .lst xs, v => ∃ a vs, v = .ref a ∧ Rd F a (.lst vs) ∧ Reps K F ι xs vs
  | .ob n, v => ∃ a, v = .ref a ∧ ι[n]? = some a
def Reps (K : Fg) (F : Hp) (ι : List Addr) : List PV → List V → Prop
  | [], vs => vs = []
  | x :: xs, vs => ∃ v r, vs = v :: r ∧ Rep K F ι x v ∧ Reps K F ι xs r
end
/-- ι goes on -/
def Ex (ι ι' : List Addr) : Prop := ∃ l, ι' = ι ++ l
theorem Ex.rfl' {ι : List Addr} : Ex ι ι := ⟨[], by simp⟩
theorem Ex.tr {ι ι1 ι2 : List Addr} (a : Ex ι ι1) (b : Ex ι1 ι2) : Ex ι ι2 := by
  obtain ⟨l, rfl⟩ := a; obtain ⟨m, rfl⟩ := b; exact ⟨l ++ m, by simp⟩
theorem Ex.get {ι ι' : List Addr} (e : Ex ι ι') {n : Nat} {a : Addr} (h : ι[n]? = some a) : ι'[n]? = some a := by
  obtain ⟨l, rfl⟩ := e
  rw [List.getElem?_append_left (List.getElem?_eq_some_iff.mp h).1]; exact h
theorem Ex.mem {ι ι' : List Addr} (e : Ex ι ι') {a : Addr} (h : a ∈ ι) : a ∈ ι' := by
  obtain ⟨l, rfl⟩ := e; exact List.mem_append_left _ h
section
variable {K : Fg} {F F' H : Hp} {ι ι' : List Addr}
mutual
theorem Rep.mono (s : Sb F F') (e : Ex ι ι') : ∀ {x : PV} {v : V}, Rep K F ι x v → Rep K F' ι' x v
  | .non, _, h | .bl _, _, h | .int _, _, h | .str _, _, h => by unfold Rep at h ⊢; exact h
  | .tup xs, v, h => by
    unfold Rep at h ⊢
    obtain ⟨a, vs, h1, h2, h3⟩ := h
    exact ⟨a, vs, h1, s.stp h2, Reps.mono s e h3⟩
  | .lst xs, v, h => by
    unfold Rep at h ⊢
    obtain ⟨a, vs, h1, h2, h3⟩ := h
    exact ⟨a, vs, h1, s.rd h2, Reps.mono s e h3⟩
  | .ob n, v, h => by
    unfold Rep at h ⊢
    obtain ⟨a, h1, h2⟩ := h
    exact ⟨a, h1, e.get h2⟩
theorem Reps.mono (s : Sb F F') (e : Ex ι ι') : ∀ {xs : List PV} {vs : List V}, Reps K F ι xs vs → Reps K F' ι' xs vs
  | [], vs, h => by unfold Reps at h ⊢; exact h
  | x :: xs, vs, h => by
    unfold Reps at h ⊢
    obtain ⟨v, r, h1, h2, h3⟩ := h
    exact ⟨v, r, h1, Rep.mono s e h2, Reps.mono s e h3⟩
end
theorem Reps.nil : Reps K F ι [] [] := by unfold Reps; rfl
theorem Reps.cons {x : PV} {v : V} {xs : List PV} {vs : List V} (h : Rep K F ι x v) (t : Reps K F ι xs vs) : Reps K F ι (x :: xs) (v :: vs) := by unfold Reps; exact ⟨v, vs, rfl, h, t⟩
theorem Reps.uncons {x : PV} {xs : List PV} {vs : List V} (h : Reps K F ι (x :: xs) vs) : ∃ v r, vs = v :: r ∧ Rep K F ι x v ∧ Reps K F ι xs r := by unfold Reps at h; exact h
theorem Reps.len : ∀ {xs : List PV} {vs : List V}, Reps K F ι xs vs → vs.length = xs.length
  | [], vs, h => by unfold Reps at h; rw [h]; rfl
  | x :: xs, vs, h => by
    obtain ⟨v, r, rfl, _, t⟩ := h.uncons
    simp [t.len]
theorem Reps.app : ∀ {xs ys : List PV} {vs ws : List V}, Reps K F ι xs vs → Reps K F ι ys ws → Reps K F ι (xs ++ ys) (vs ++ ws)
  | [], ys, vs, ws, h, t => by unfold Reps at h; subst h; exact t
  | x :: xs, ys, vs, ws, h, t => by
    obtain ⟨v, r, rfl, h1, h2⟩ := h.uncons
    exact .cons h1 (h2.app t)
theorem Reps.get : ∀ {xs : List PV} {vs : List V} {n : Nat} {x : PV}, Reps K F ι xs vs → xs[n]? = some x → ∃ v, vs[n]? = some v ∧ Rep K F ι x v
  | [], _, _, _, _, e => by simp at e
  | y :: ys, vs, n, x, h, e => by
    obtain ⟨v, r, rfl, h1, h2⟩ := h.uncons
    cases n with
    | zero => simp at e; subst e; exact ⟨v, rfl, h1⟩
    | succ n => simp at e; obtain ⟨w, e1, e2⟩ := h2.get e; exact ⟨w, by simpa using e1, e2⟩
theorem Reps.drop : ∀ {xs : List PV} {vs : List V} (n : Nat), Reps K F ι xs vs → Reps K F ι (xs.drop n) (vs.drop n)
  | xs, vs, 0, h => by simpa using h
  | [], vs, n + 1, h => by unfold Reps at h; subst h; exact .nil
  | x :: xs, vs, n + 1, h => by
    obtain ⟨v, r, rfl, h1, h2⟩ := h.uncons
    simpa using h2.drop n
theorem Reps.take : ∀ {xs : List PV} {vs : List V} (n : Nat), Reps K F ι xs vs → Reps K F ι (xs.take n) (vs.take n)
  | xs, vs, 0, h => by simpa using (Reps.nil : Reps K F ι [] [])
  | [], vs, n + 1, h => by unfold Reps at h; subst h; exact .nil
  | x :: xs, vs, n + 1, h => by
    obtain ⟨v, r, rfl, h1, h2⟩ := h.uncons
    simpa using Reps.cons h1 (h2.take n)
theorem Reps.rev : ∀ {xs : List PV} {vs : List V}, Reps K F ι xs vs → Reps K F ι xs.reverse vs.reverse
  | [], vs, h => by unfold Reps at h; subst h; exact .nil
  | x :: xs, vs, h => by
    obtain ⟨v, r, rfl, h1, h2⟩ := h.uncons
    simpa using h2.rev.app (.cons h1 .nil)
theorem Reps.set : ∀ {xs : List PV} {vs : List V} {x : PV} {v : V} (n : Nat), Reps K F ι xs vs → Rep K F ι x v → Reps K F ι (xs.set n x) (vs.set n v)
  | [], vs, _, _, n, h, _ => by unfold Reps at h; subst h; exact .nil
  | y :: ys, vs, x, v, n, h, hx => by
    obtain ⟨w, r, rfl, h1, h2⟩ := h.uncons
    cases n with
    | zero => exact .cons hx h2
    | succ n => exact .cons h1 (h2.set n hx)
theorem Rep.int_of {i : Int} {v : V} (h : Rep K F ι (.int i) v) : v = .int i := by unfold Rep at h; exact h
theorem Rep.bl_of {b : Bool} {v : V} (h : Rep K F ι (.bl b) v) : v = .bl b := by unfold Rep at h; exact h
theorem Rep.str_of {s : Str} {v : V} (h : Rep K F ι (.str s) v) : v = .str s := by unfold Rep at h; exact h
theorem Rep.non_of {v : V} (h : Rep K F ι .non v) : v = .non := by unfold Rep at h; exact h
theorem Rep.tup_of {xs : List PV} {v : V} (h : Rep K F ι (.tup xs) v) : ∃ a vs, v = .ref a ∧ SqT K F a vs ∧ Reps K F ι xs vs := by unfold Rep at h; exact h
theorem Rep.lst_of {xs : List PV} {v : V} (h : Rep K F ι (.lst xs) v) : ∃ a vs, v = .ref a ∧ Rd F a (.lst vs) ∧ Reps K F ι xs vs := by unfold Rep at h; exact h
theorem Rep.ob_of {n : Nat} {v : V} (h : Rep K F ι (.ob n) v) : ∃ a, v = .ref a ∧ ι[n]? = some a := by unfold Rep at h; exact h
theorem Rep.int {i : Int} : Rep K F ι (.int i) (.int i) := by unfold Rep; rfl
theorem Rep.bl {b : Bool} : Rep K F ι (.bl b) (.bl b) := by unfold Rep; rfl
theorem Rep.str {s : Str} : Rep K F ι (.str s) (.str s) := by unfold Rep; rfl
theorem Rep.non : Rep K F ι .non .non := by unfold Rep; rfl
theorem Rep.tup {xs : List PV} {a : Addr} {vs : List V} (h : SqT K F a vs) (t : Reps K F ι xs vs) : Rep K F ι (.tup xs) (.ref a) := by unfold Rep; exact ⟨a, vs, rfl, h, t⟩
theorem Rep.lst {xs : List PV} {a : Addr} {vs : List V} (h : Rd F a (.lst vs)) (t : Reps K F ι xs vs) : Rep K F ι (.lst xs) (.ref a) := by unfold Rep; exact ⟨a, vs, rfl, h, t⟩
theorem Rep.ob {n : Nat} {a : Addr} (h : ι[n]? = some a) : Rep K F ι (.ob n) (.ref a) := by unfold Rep; exact ⟨a, rfl, h⟩
theorem Reps.one {x : PV} {vs : List V} (h : Reps K F ι [x] vs) : ∃ v, vs = [v] ∧ Rep K F ι x v := by
  obtain ⟨v, r, rfl, h1, h2⟩ := h.uncons
  unfold Reps at h2; subst h2; exact ⟨v, rfl, h1⟩
theorem Reps.two {x y : PV} {vs : List V} (h : Reps K F ι [x, y] vs) : ∃ v w, vs = [v, w] ∧ Rep K F ι x v ∧ Rep K F ι y w := by
  obtain ⟨v, r, rfl, h1, h2⟩ := h.uncons
  obtain ⟨w, rfl, h3⟩ := h2.one
  exact ⟨v, w, rfl, h1, h3⟩
theorem Reps.nil_of {vs : List V} (h : Reps K F ι [] vs) : vs = [] := by unfold Reps at h; exact h
theorem reps_ints : ∀ {ns : List Int} {vs : List V}, Reps K F ι (ns.map PV.int) vs → vs = ns.map V.int
  | [], vs, h => h.nil_of
  | n :: ns, vs, h => by
    obtain ⟨v, r, rfl, h1, h2⟩ := h.uncons
    rw [h1.int_of, reps_ints h2]; rfl
theorem reps_of_ints : ∀ {ns : List Int}, Reps K F ι (ns.map PV.int) (ns.map V.int)
  | [] => .nil
  | n :: ns => .cons .int reps_of_ints
theorem reps_bools : ∀ {ns : List Bool} {vs : List V}, Reps K F ι (ns.map PV.bl) vs → vs = ns.map V.bl
  | [], vs, h => h.nil_of
  | n :: ns, vs, h => by
    obtain ⟨v, r, rfl, h1, h2⟩ := h.uncons
    rw [h1.bl_of, reps_bools h2]; rfl

/-! ### data as the library tells it -/
mutual
def toD : PV → PyData
  | .non => .none
  | .bl b => .bool b
  | .int i => .int i
  | .str s => .str s
  | .tup xs => .tuple (toDs xs)
  | .lst xs => .list (toDs xs)
  | .ob _ => .none
def toDs : List PV → List PyData
  | [] => []
  | x :: xs => toD x :: toDs xs
end
mutual
theorem dat_ok : ∀ {n : Nat} {x : PV}, dat n x = true → (toD x).canLay0 = true ∧ (toD x).depth ≤ n
  | n, .non, _ | n, .bl _, _ | n, .int _, _ => ⟨rfl, Nat.zero_le _⟩
  | n, .str s, h => by
    refine ⟨?_, Nat.zero_le _⟩
    cases n <;> (unfold dat at h; exact h)
  | 0, .tup xs, h => by unfold dat at h; cases h
  | 0, .lst xs, h => by unfold dat at h; cases h
  | n + 1, .tup xs, h => by
    unfold dat at h
    obtain ⟨h1, h2⟩ := datL_ok h
    exact ⟨h1, Nat.succ_le_succ h2⟩
  | n + 1, .lst xs, h => by
    unfold dat at h
    obtain ⟨h1, h2⟩ := datL_ok h
    exact ⟨h1, Nat.succ_le_succ h2⟩
  | n, .ob _, h => by cases n <;> (unfold dat at h; cases h)
theorem datL_ok : ∀ {n : Nat} {xs : List PV}, datL n xs = true → PyData.canLayAll0 (toDs xs) = true ∧ PyData.depthAll (toDs xs) ≤ n
  | n, [], _ => ⟨rfl, Nat.zero_le _⟩
  | n, x :: xs, h => by
    have h' : (dat n x && datL n xs) = true := h
    rw [Bool.and_eq_true] at h'
    obtain ⟨a1, a2⟩ := dat_ok h'.1
    obtain ⟨b1, b2⟩ := datL_ok h'.2
    refine ⟨?_, ?_⟩
    · show (PyData.canLay0 (toD x) && PyData.canLayAll0 (toDs xs)) = true
      rw [a1, b1]; rfl
    · show max (PyData.depth (toD x)) (PyData.depthAll (toDs xs)) ≤ n
      omega
end
mutual
theorem eqP_ok : ∀ {n m : Nat} {x y : PV}, dat n x = true → dat m y = true → PyData.eqv (toD x) (toD y) = eqP x y
  | n, m, .ob _, y, h, _ => by cases n <;> (unfold dat at h; cases h)
  | n, m, x, .ob _, _, h => by cases m <;> (unfold dat at h; cases h)
  | n, m, .non, .non, _, _ | n, m, .non, .bl _, _, _ | n, m, .non, .int _, _, _ | n, m, .non, .str _, _, _ | n, m, .non, .tup _, _, _ | n, m, .non, .lst _, _, _ => by simp [toD, PyData.eqv, eqP]
  | n, m, .bl _, .non, _, _ | n, m, .bl _, .bl _, _, _ | n, m, .bl _, .int _, _, _ | n, m, .bl _, .str _, _, _ | n, m, .bl _, .tup _, _, _ | n, m, .bl _, .lst _, _, _ => by simp [toD, PyData.eqv, eqP]
  | n, m, .int _, .non, _, _ | n, m, .int _, .bl _, _, _ | n, m, .int _, .int _, _, _ | n, m, .int _, .str _, _, _ | n, m, .int _, .tup _, _, _ | n, m, .int _, .lst _, _, _ => by simp [toD, PyData.eqv, eqP]
  | n, m, .str _, .non, _, _ | n, m, .str _, .bl _, _, _ | n, m, .str _, .int _, _, _ | n, m, .str _, .str _, _, _ | n, m, .str _, .tup _, _, _ | n, m, .str _, .lst _, _, _ => by simp [toD, PyData.eqv, eqP]
  | n, m, .tup _, .non, _, _ | n, m, .tup _, .bl _, _, _ | n, m, .tup _, .int _, _, _ | n, m, .tup _, .str _, _, _ | n, m, .tup _, .lst _, _, _ => by simp [toD, PyData.eqv, eqP]
  | n, m, .lst _, .non, _, _ | n, m, .lst _, .bl _, _, _ | n, m, .lst _, .int _, _, _ | n, m, .lst _, .str _, _, _ | n, m, .lst _, .tup _, _, _ => by simp [toD, PyData.eqv, eqP]
  | 0, _, .tup _, .tup _, h, _ => by unfold dat at h; cases h
  | 0, _, .lst _, .lst _, h, _ => by unfold dat at h; cases h
  | _ + 1, 0, .tup _, .tup _, _, h => by unfold dat at h; cases h
  | _ + 1, 0, .lst _, .lst _, _, h => by unfold dat at h; cases h
  | n + 1, m + 1, .tup xs, .tup ys, h, h' => by
    unfold dat at h h'
    simp only [toD, PyData.eqv, eqP]
    exact eqL_ok h h'
  | n + 1, m + 1, .lst xs, .lst ys, h, h' => by
    unfold dat at h h'
    simp only [toD, PyData.eqv, eqP]
    exact eqL_ok h h'
theorem eqL_ok : ∀ {n m : Nat} {xs ys : List PV}, datL n xs = true → datL m ys = true → PyData.eqvAll (toDs xs) (toDs ys) = eqL xs ys
  | _, _, [], [], _, _ | _, _, [], _ :: _, _, _ | _, _, _ :: _, [], _, _ => by simp [toDs, PyData.eqvAll, eqL]
  | n, m, x :: xs, y :: ys, h, h' => by
    have h1 : (dat n x && datL n xs) = true := h
    have h2 : (dat m y && datL m ys) = true := h'
    rw [Bool.and_eq_true] at h1 h2
    simp only [toDs, PyData.eqvAll, eqL]
    rw [eqP_ok h1.1 h2.1, eqL_ok h1.2 h2.2]
end
mutual
theorem Rep.dp : ∀ {n : Nat} {x : PV} {v : V}, Rep K F ι x v → dat n x = true → Dp K F v (toD x)
  | n, .non, v, h, _ => by rw [h.non_of]; exact .non
  | n, .bl b, v, h, _ => by rw [h.bl_of]; exact .bl b
  | n, .int b, v, h, _ => by rw [h.int_of]; exact .int b
  | n, .str b, v, h, _ => by rw [h.str_of]; exact .str b
  | n, .ob _, v, _, h => by cases n <;> (unfold dat at h; cases h)
  | 0, .tup _, _, _, h => by unfold dat at h; cases h
  | 0, .lst _, _, _, h => by unfold dat at h; cases h
  | n + 1, .tup xs, v, h, d => by
    unfold dat at d
    obtain ⟨a, vs, rfl, h1, h2⟩ := h.tup_of
    exact .tup h1 (h2.dps d)
  | n + 1, .lst xs, v, h, d => by
    unfold dat at d
    obtain ⟨a, vs, rfl, h1, h2⟩ := h.lst_of
    exact .lst (.inl h1) (h2.dps d)
theorem Reps.dps : ∀ {n : Nat} {xs : List PV} {vs : List V}, Reps K F ι xs vs → datL n xs = true → DpAll K F vs (toDs xs)
  | n, [], vs, h, _ => by rw [h.nil_of]; exact .nil
  | n, x :: xs, vs, h, d => by
    obtain ⟨v, r, rfl, h1, h2⟩ := h.uncons
    have d' : (dat n x && datL n xs) = true := d
    rw [Bool.and_eq_true] at d'
    exact .cons (h1.dp d'.1) (h2.dps d'.2)
end
mutual
theorem dp_mono (s : Sb F H) : ∀ {d : PyData} {v : V}, Dp K F v d → Dp K H v d
  | _, _, .non => .non
  | _, _, .bl b => .bl b
  | _, _, .int b => .int b
  | _, _, .str b => .str b
  | _, _, .lst h t => .lst (s.sl h) (dps_mono s t)
  | _, _, .tup h t => .tup (s.stp h) (dps_mono s t)
theorem dps_mono (s : Sb F H) : ∀ {ds : List PyData} {vs : List V}, DpAll K F vs ds → DpAll K H vs ds
  | _, _, .nil => .nil
  | _, _, .cons h t => .cons (dp_mono s h) (dps_mono s t)
end
end
end Cv

set_option Elab.async false
set_option linter.all false
set_option maxRecDepth 100000
set_option maxHeartbeats 4000000
/-! Core3: how a def's slots and the changeable objects stand; what is wanted behind an expression. -/
namespace Cv
open PySem PySem.Spec PyProof.Rows L2
/-- what is fixed: the written partOf, the tables of code objects, the classes of errors (address, field) -/
structure Fx where
  K : Fg
  T : List (Addr × Str)
  X : List (Addr × Str)
def StoOk (K : Fg) (F H : Hp) (ι : List Addr) (st : Sto) : Prop :=
  ι.length = st.length ∧ ∀ (n : Nat) (xs : List PV), st[n]? = some (SObj.cells xs) → ∃ a vs, ι[n]? = some a ∧ H a = some (.lst vs) ∧ Reps K F ι xs vs
/-- tables may grow at any time: nothing is told of them -/
def NoTb (h : Hp) : Prop := ∀ a ps, h a ≠ some (.tbl ps)
theorem NoTb.up {h : Hp} {p : Addr} {o : HO} (n : NoTb h) (ho : ∀ ps, o ≠ .tbl ps) : NoTb (upd h p o) := fun a ps e => by
  by_cases z : a = p
  · subst z; rw [upd_same] at e; exact ho ps (Option.some.inj e)
  · rw [upd_ne z] at e; exact n a ps e
theorem NoTb.lst {h : Hp} {p : Addr} {vs : List V} (n : NoTb h) : NoTb (upd h p (.lst vs)) := n.up fun ps z => by cases z
/-- all but the slots. P: what must stand as it stood when the def was entered, F0: what F was then -/
structure Rel0 (Z : Fx) (P F0 F : Hp) (ι : List Addr) (H : Hp) (st : Sto) : Prop where
  fh : Sb F H
  ph : Sb P H
  pf : ∀ a o, P a = some o → F a = F0 a
  f0 : Sb F0 F
  pi : ∀ a ∈ ι, P a = none ∧ F a = none
  pt : NoTb P ∧ NoTb F
  nd : ι.Nodup
  tb : LamX.Tabs Z.T H
  sto : StoOk Z.K F H ι st
def OwnAt (σ : L2.St) (ρ : Evn) (i : Nat) (a : Addr) : Prop := ∃ xs, getS ρ i = .own xs ∧ σ[i]? = some (some (.ref a))
def SlotOk (K : Fg) (P F : Hp) (ι : List Addr) (H : Hp) (o : Option (Option V)) : Slt → Prop
  | .no => True
  | .val x => ∃ v, o = some (some v) ∧ Rep K F ι x v
  | .own xs => ∃ a vs, o = some (some (.ref a)) ∧ H a = some (.lst vs) ∧ Reps K F ι xs vs ∧ F a = none ∧ P a = none ∧ a ∉ ι
structure Rel (Z : Fx) (P F0 F : Hp) (ι : List Addr) (σ : L2.St) (H : Hp) (ρ : Evn) (st : Sto) : Prop where
  r : Rel0 Z P F0 F ι H st
  len : σ.length = ρ.length
  sl : ∀ i, SlotOk Z.K P F ι H σ[i]? (getS ρ i)
  ap : ∀ i j a, OwnAt σ ρ i a → OwnAt σ ρ j a → i = j

theorem get_set_self : ∀ {ρ : Evn} {i : Nat} {x : Slt}, i < ρ.length → getS (setS ρ i x) i = x
  | _ :: _, 0, _, _ => rfl
  | _ :: r, i + 1, x, h => get_set_self (ρ := r) (i := i) (by simpa using h)
  | [], _, _, h => by simp at h
theorem get_set_ne : ∀ {ρ : Evn} {i j : Nat} {x : Slt}, i ≠ j → getS (setS ρ i x) j = getS ρ j
  | [], _, _, _, _ => rfl
  | _ :: _, 0, 0, _, h => absurd rfl h
  | _ :: _, 0, j + 1, _, _ => rfl
  | _ :: _, i + 1, 0, _, _ => rfl
  | _ :: r, i + 1, j + 1, _, h => get_set_ne (ρ := r) (fun e => h (by rw [e]))
theorem set_len : ∀ {ρ : Evn} {i : Nat} {x : Slt}, (setS ρ i x).length = ρ.length
  | [], _, _ => rfl
  | _ :: _, 0, _ => rfl
  | _ :: r, i + 1, _ => by simp [setS, set_len (ρ := r)]
theorem get_out : ∀ {ρ : Evn} {i : Nat}, ρ.length ≤ i → getS ρ i = .no
  | [], _, _ => rfl
  | _ :: _, 0, h => by simp at h
  | _ :: r, i + 1, h => get_out (ρ := r) (by simpa using h)
theorem get_lt {ρ : Evn} {i : Nat} (h : getS ρ i ≠ .no) : i < ρ.length := by
  by_cases c : i < ρ.length
  · exact c
  · exact absurd (get_out (by omega)) h
theorem set_cases (ρ : Evn) (i j : Nat) (x : Slt) : (i = j ∧ getS (setS ρ i x) j = x ∧ i < ρ.length) ∨ (getS (setS ρ i x) j = getS ρ j ∧ (i = j → getS ρ j = .no)) := by
  by_cases e : i = j
  · subst e
    by_cases c : i < ρ.length
    · exact .inl ⟨rfl, get_set_self c, c⟩
    · right
      have h1 : getS ρ i = .no := get_out (by omega)
      have h2 : getS (setS ρ i x) i = .no := get_out (by rw [set_len]; omega)
      exact ⟨by rw [h1, h2], fun _ => h1⟩
  · exact .inr ⟨get_set_ne e, fun q => absurd q e⟩

section
variable {Z : Fx} {P F0 F F' H H' : Hp} {ι ι' : List Addr} {σ σ' : L2.St} {ρ ρ' : Evn} {st st' : Sto}
theorem Rel0.ptN (r : Rel0 Z P F0 F ι H st) {p : Addr × Str} (hp : p ∈ Z.T) : P p.1 = none ∧ F p.1 = none := by
  obtain ⟨ps, h1, _⟩ := r.tb p hp
  refine ⟨?_, ?_⟩
  · cases e : P p.1 with
    | none => rfl
    | some o =>
      have := r.ph _ _ e
      rw [h1] at this; cases this
      exact absurd e (r.pt.1 _ _)
  · cases e : F p.1 with
    | none => rfl
    | some o =>
      have := r.fh _ _ e
      rw [h1] at this; cases this
      exact absurd e (r.pt.2 _ _)
theorem StoOk.mono (s : Sb F F') (h : StoOk Z.K F H ι st) (hh : ∀ (n : Nat) (a : Addr), ι[n]? = some a → H' a = H a) : StoOk Z.K F' H' ι st := by
  refine ⟨h.1, fun n xs e => ?_⟩
  obtain ⟨a, vs, h1, h2, h3⟩ := h.2 n xs e
  exact ⟨a, vs, h1, by rw [hh n a h1]; exact h2, h3.mono s .rfl'⟩
theorem cells_at {n : Nat} (h : n < st.length) : ∃ xs, st[n]? = some (SObj.cells xs) := by
  rw [List.getElem?_eq_getElem h]
  cases st[n] with
  | cells xs => exact ⟨xs, rfl⟩
theorem Rel0.fresh (r : Rel0 Z P F0 F ι H st) {p : Addr} (hp : H p = none) : F p = none ∧ P p = none ∧ p ∉ ι := by
  refine ⟨?_, ?_, fun hm => ?_⟩
  · cases e : F p with
    | none => rfl
    | some u => rw [r.fh _ _ e] at hp; cases hp
  · cases e : P p with
    | none => rfl
    | some u => rw [r.ph _ _ e] at hp; cases hp
  · obtain ⟨n, hn⟩ := List.mem_iff_getElem?.mp hm
    have hl : n < st.length := by rw [← r.sto.1]; exact (List.getElem?_eq_some_iff.mp hn).1
    obtain ⟨xs, hx⟩ := cells_at hl
    obtain ⟨a, vs, h1, h2, _⟩ := r.sto.2 n xs hx
    rw [hn] at h1; cases h1
    rw [hp] at h2; cases h2
/-- a new object is laid, and never changes -/
theorem Rel0.new {p : Addr} {o : HO} (r : Rel0 Z P F0 F ι H st) (hp : H p = none) (ht : ∀ ps, o ≠ .tbl ps) : Rel0 Z P F0 (upd F p o) ι (upd H p o) st := by
  obtain ⟨fp, pp, np⟩ := r.fresh hp
  have nt : ∀ q ∈ Z.T, q.1 ≠ p := fun q hq e => by
    obtain ⟨ps, h1, _⟩ := r.tb q hq
    rw [e, hp] at h1; cases h1
  refine ⟨r.fh.up2, r.ph.up pp, fun a u e => ?_, r.f0.tr (Sb.rfl'.up fp), fun a ha => ?_, ⟨r.pt.1, r.pt.2.up ht⟩, r.nd, r.tb.ext (sub_upd hp), ?_⟩
  · rw [upd_ne (fun z => by rw [z, pp] at e; cases e)]; exact r.pf a u e
  · have ne : a ≠ p := fun z => np (by rw [← z]; exact ha)
    rw [upd_ne ne]; exact r.pi a ha
  · refine r.sto.mono (Sb.rfl'.up fp) fun n a e => upd_ne fun z => np (by rw [← z]; exact List.mem_of_getElem? e)
/-- a new object is laid, one's own yet -/
theorem Rel0.newOwn {p : Addr} {o : HO} (r : Rel0 Z P F0 F ι H st) (hp : H p = none) : Rel0 Z P F0 F ι (upd H p o) st := by
  obtain ⟨fp, pp, np⟩ := r.fresh hp
  refine ⟨r.fh.up fp, r.ph.up pp, r.pf, r.f0, r.pi, r.pt, r.nd, r.tb.ext (sub_upd hp), ?_⟩
  exact r.sto.mono .rfl' fun n a e => upd_ne fun z => np (by rw [← z]; exact List.mem_of_getElem? e)
/-- the slots, where what stands is kept -/
theorem SlotOk.mono {K : Fg} {o : Option (Option V)} {s : Slt} (h : SlotOk K P F ι H o s) (hs : Sb F F') (he : Ex ι ι') (own : ∀ a vs, H a = some (.lst vs) → F a = none → P a = none → a ∉ ι → H' a = some (.lst vs) ∧ F' a = none ∧ a ∉ ι') : SlotOk K P F' ι' H' o s := by
  cases s with
  | no => trivial
  | val x => obtain ⟨v, h1, h2⟩ := h; exact ⟨v, h1, h2.mono hs he⟩
  | own xs =>
    obtain ⟨a, vs, h1, h2, h3, h4, h5, h6⟩ := h
    obtain ⟨z1, z2, z3⟩ := own a vs h2 h4 h5 h6
    exact ⟨a, vs, h1, z1, h3.mono hs he, z2, h5, z3⟩
theorem Rel.to (r : Rel Z P F0 F ι σ H ρ st) (r' : Rel0 Z P F0 F' ι' H' st') (hs : Sb F F') (he : Ex ι ι') (own : ∀ a vs, H a = some (.lst vs) → F a = none → P a = none → a ∉ ι → H' a = some (.lst vs) ∧ F' a = none ∧ a ∉ ι') : Rel Z P F0 F' ι' σ H' ρ st' :=
  ⟨r', r.len, fun i => (r.sl i).mono hs he own, r.ap⟩
theorem Rel.new {p : Addr} {o : HO} (r : Rel Z P F0 F ι σ H ρ st) (hp : H p = none) (ht : ∀ ps, o ≠ .tbl ps) : Rel Z P F0 (upd F p o) ι σ (upd H p o) ρ st :=
  r.to (r.r.new hp ht) (Sb.rfl'.up (r.r.fresh hp).1) .rfl' fun a vs h1 h2 h3 h4 => by
    have ne : a ≠ p := fun z => by rw [z, hp] at h1; cases h1
    exact ⟨by rw [upd_ne ne]; exact h1, by rw [upd_ne ne]; exact h2, h4⟩
theorem Rel.newOwn {p : Addr} {o : HO} (r : Rel Z P F0 F ι σ H ρ st) (hp : H p = none) : Rel Z P F0 F ι σ (upd H p o) ρ st :=
  r.to (r.r.newOwn hp) .rfl' .rfl' fun a vs h1 h2 h3 h4 => by
    have ne : a ≠ p := fun z => by rw [z, hp] at h1; cases h1
    exact ⟨by rw [upd_ne ne]; exact h1, h2, h4⟩
/-- a list of one's own is never changed from then on -/
theorem Rel.frz (r : Rel Z P F0 F ι σ H ρ st) (i : Nat) : ∃ F', Sb F F' ∧ Rel Z P F0 F' ι σ H (Cv.frz ρ i) st ∧ (∀ x, rd (getS ρ i) = some x → ∃ v, σ[i]? = some (some v) ∧ Rep Z.K F' ι x v) := by
  unfold Cv.frz
  cases e : getS ρ i with
  | no => exact ⟨F, .rfl', r, fun x h => by cases h⟩
  | val y =>
    refine ⟨F, .rfl', r, fun x h => ?_⟩
    cases h
    have := r.sl i
    rw [e] at this
    exact this
  | own xs =>
    have h := r.sl i
    rw [e] at h
    obtain ⟨a, vs, h1, h2, h3, h4, h5, h6⟩ := h
    have hs : Sb F (upd F a (.lst vs)) := Sb.rfl'.up h4
    have hi : i < ρ.length := get_lt (by rw [e]; intro z; cases z)
    have nt : ∀ q ∈ Z.T, q.1 ≠ a := fun q hq z => by
      obtain ⟨ps, t1, _⟩ := r.r.tb q hq
      rw [z, h2] at t1; cases t1
    have r0 : Rel0 Z P F0 (upd F a (.lst vs)) ι H st := by
      refine ⟨fun b o hb => ?_, r.r.ph, fun b o hb => ?_, r.r.f0.tr hs, fun b hb => ?_, ⟨r.r.pt.1, r.r.pt.2.lst⟩, r.r.nd, r.r.tb, r.r.sto.mono hs fun _ _ _ => rfl⟩
      · by_cases z : b = a
        · subst z; rw [upd_same] at hb; cases hb; exact h2
        · rw [upd_ne z] at hb; exact r.r.fh b o hb
      · rw [upd_ne (fun z => by rw [z, h5] at hb; cases hb)]; exact r.r.pf b o hb
      · rw [upd_ne (fun z => h6 (by rw [← z]; exact hb))]; exact r.r.pi b hb
    have hv : Rep Z.K (upd F a (.lst vs)) ι (.lst xs) (.ref a) := .lst (.of upd_same) (h3.mono hs .rfl')
    refine ⟨_, hs, ⟨r0, by rw [set_len]; exact r.len, fun j => ?_, fun j k b h1' h2' => ?_⟩, fun x h => ?_⟩
    · rcases set_cases ρ i j (.val (.lst xs)) with ⟨z1, z2, z3⟩ | ⟨z1, z2⟩
      · subst z1; rw [z2]; exact ⟨_, h1, hv⟩
      · rw [z1]
        have hj := r.sl j
        cases ej : getS ρ j with
        | no => trivial
        | val y => rw [ej] at hj; obtain ⟨v, q1, q2⟩ := hj; exact ⟨v, q1, q2.mono hs .rfl'⟩
        | own ys =>
          rw [ej] at hj
          obtain ⟨b, ws, q1, q2, q3, q4, q5, q6⟩ := hj
          have nij : i ≠ j := fun z => by have := z2 z; rw [ej] at this; cases this
          have ne : b ≠ a := fun z => nij (r.ap i j a ⟨xs, e, h1⟩ ⟨ys, ej, by rw [← z]; exact q1⟩)
          exact ⟨b, ws, q1, q2, q3.mono hs .rfl', by rw [upd_ne ne]; exact q4, q5, q6⟩
    · refine r.ap j k b ?_ ?_
      · obtain ⟨ys, y1, y2⟩ := h1'
        rcases set_cases ρ i j (.val (.lst xs)) with ⟨_, z2, _⟩ | ⟨z1, _⟩
        · rw [z2] at y1; cases y1
        · exact ⟨ys, by rw [← z1]; exact y1, y2⟩
      · obtain ⟨ys, y1, y2⟩ := h2'
        rcases set_cases ρ i k (.val (.lst xs)) with ⟨_, z2, _⟩ | ⟨z1, _⟩
        · rw [z2] at y1; cases y1
        · exact ⟨ys, by rw [← z1]; exact y1, y2⟩
    · cases h
      exact ⟨_, h1, hv⟩
theorem Rel.frzAll : ∀ (vs : List Nat) {F : Hp} {ρ : Evn}, Rel Z P F0 F ι σ H ρ st → ∃ F', Sb F F' ∧ Rel Z P F0 F' ι σ H (Cv.frzAll ρ vs) st
  | [], F, ρ, r => ⟨F, .rfl', r⟩
  | i :: vs, F, ρ, r => by
    obtain ⟨F1, s1, r1, _⟩ := r.frz i
    obtain ⟨F2, s2, r2⟩ := Rel.frzAll vs r1
    exact ⟨F2, s1.tr s2, r2⟩
/-- a slot is stored -/
theorem Rel.set (r : Rel Z P F0 F ι σ H ρ st) (i : Nat) {x : PV} {v : V} (h : Rep Z.K F ι x v) : Rel Z P F0 F ι (σ.set i (some v)) H (setS ρ i (.val x)) st := by
  refine ⟨r.r, by rw [set_len, List.length_set]; exact r.len, fun j => ?_, fun j k b h1 h2 => ?_⟩
  · rcases set_cases ρ i j (.val x) with ⟨z1, z2, z3⟩ | ⟨z1, z2⟩
    · subst z1; rw [z2]; exact ⟨v, List.getElem?_set_self (by rw [r.len]; exact z3), h⟩
    · rw [z1]
      by_cases e : i = j
      · rw [z2 e]; trivial
      · rw [List.getElem?_set_ne e]; exact r.sl j
  · have go : ∀ {j b}, OwnAt (σ.set i (some v)) (setS ρ i (.val x)) j b → OwnAt σ ρ j b := fun {j b} ⟨ys, y1, y2⟩ => by
      rcases set_cases ρ i j (.val x) with ⟨_, z2, _⟩ | ⟨z1, z2⟩
      · rw [z2] at y1; cases y1
      · rw [z1] at y1
        have ne : i ≠ j := fun z => by rw [z2 z] at y1; cases y1
        rw [List.getElem?_set_ne ne] at y2
        exact ⟨ys, y1, y2⟩
    exact r.ap j k b (go h1) (go h2)
/-- a slot gets a list of its own, at an address that nothing else has -/
theorem Rel.setOwn (r : Rel Z P F0 F ι σ H ρ st) (i : Nat) {xs : List PV} {a : Addr} {vs : List V} (h : Reps Z.K F ι xs vs) (hH : H a = some (.lst vs)) (hF : F a = none) (hP : P a = none) (hi : a ∉ ι) (hn : ∀ j, OwnAt σ ρ j a → i = j) :
    Rel Z P F0 F ι (σ.set i (some (.ref a))) H (setS ρ i (.own xs)) st := by
  refine ⟨r.r, by rw [set_len, List.length_set]; exact r.len, fun j => ?_, fun j k b h1 h2 => ?_⟩
  · rcases set_cases ρ i j (.own xs) with ⟨z1, z2, z3⟩ | ⟨z1, z2⟩
    · subst z1; rw [z2]; exact ⟨a, vs, List.getElem?_set_self (by rw [r.len]; exact z3), hH, h, hF, hP, hi⟩
    · rw [z1]
      by_cases e : i = j
      · rw [z2 e]; trivial
      · rw [List.getElem?_set_ne e]; exact r.sl j
  · have go : ∀ {j b}, OwnAt (σ.set i (some (.ref a))) (setS ρ i (.own xs)) j b → (i = j ∧ b = a) ∨ (i ≠ j ∧ OwnAt σ ρ j b) := fun {j b} ⟨ys, y1, y2⟩ => by
      rcases set_cases ρ i j (.own xs) with ⟨z0, z2, z3⟩ | ⟨z1, z2⟩
      · subst z0
        rw [List.getElem?_set_self (by rw [r.len]; exact z3)] at y2
        cases y2
        exact .inl ⟨rfl, rfl⟩
      · rw [z1] at y1
        have ne : i ≠ j := fun z => by rw [z2 z] at y1; cases y1
        rw [List.getElem?_set_ne ne] at y2
        exact .inr ⟨ne, ys, y1, y2⟩
    rcases go h1 with ⟨e1, b1⟩ | ⟨n1, o1⟩ <;> rcases go h2 with ⟨e2, b2⟩ | ⟨n2, o2⟩
    · rw [← e1, ← e2]
    · rw [b1] at o2; exact absurd (hn k o2) n2
    · rw [b2] at o1; exact absurd (hn j o1) n1
    · exact r.ap j k b o1 o2
/-- a list of one's own is changed -/
theorem Rel.chg (r : Rel Z P F0 F ι σ H ρ st) {i : Nat} {xs ys : List PV} {a : Addr} {vs : List V} (e : getS ρ i = .own xs) (hs : σ[i]? = some (some (.ref a))) (h : Reps Z.K F ι ys vs) :
    Rel Z P F0 F ι σ (upd H a (.lst vs)) (setS ρ i (.own ys)) st := by
  have hi := r.sl i
  rw [e] at hi
  obtain ⟨b, ws, h1, h2, h3, h4, h5, h6⟩ := hi
  rw [hs] at h1; cases h1
  have il : i < ρ.length := get_lt (by rw [e]; intro z; cases z)
  have nt : ∀ q ∈ Z.T, q.1 ≠ a := fun q hq z => by
    obtain ⟨ps, t1, _⟩ := r.r.tb q hq
    rw [z, h2] at t1; cases t1
  have r0 : Rel0 Z P F0 F ι (upd H a (.lst vs)) st := by
    refine ⟨r.r.fh.up h4, r.r.ph.up h5, r.r.pf, r.r.f0, r.r.pi, r.r.pt, r.r.nd, fun q hq => ?_, r.r.sto.mono .rfl' fun n b z => upd_ne fun q => h6 (by rw [← q]; exact List.mem_of_getElem? z)⟩
    obtain ⟨ps, t1, t2, t3⟩ := r.r.tb q hq
    refine ⟨ps, by rw [upd_ne (nt q hq)]; exact t1, t2, fun pos cv hc => ?_⟩
    obtain ⟨c, c1, c2⟩ := t3 pos cv hc
    refine ⟨c, c1, ?_⟩
    rw [upd_ne (fun z => by rw [z, h2] at c2; cases c2)]; exact c2
  refine ⟨r0, by rw [set_len]; exact r.len, fun j => ?_, fun j k b h1 h2 => ?_⟩
  · rcases set_cases ρ i j (.own ys) with ⟨z1, z2, z3⟩ | ⟨z1, z2⟩
    · subst z1; rw [z2]; exact ⟨a, vs, hs, upd_same, h, h4, h5, h6⟩
    · rw [z1]
      have hj := r.sl j
      cases ej : getS ρ j with
      | no => trivial
      | val y => rw [ej] at hj; exact hj
      | own zs =>
        rw [ej] at hj
        obtain ⟨b, ws', q1, q2, q3, q4, q5, q6⟩ := hj
        have nij : i ≠ j := fun z => by have := z2 z; rw [ej] at this; cases this
        have ne : b ≠ a := fun z => nij (r.ap i j a ⟨xs, e, hs⟩ ⟨zs, ej, by rw [← z]; exact q1⟩)
        exact ⟨b, ws', q1, by rw [upd_ne ne]; exact q2, q3, q4, q5, q6⟩
  · have go : ∀ {j b}, OwnAt σ (setS ρ i (.own ys)) j b → OwnAt σ ρ j b := fun {j b} ⟨zs, y1, y2⟩ => by
      rcases set_cases ρ i j (.own ys) with ⟨z0, z2, z3⟩ | ⟨z1, z2⟩
      · subst z0; exact ⟨xs, e, y2⟩
      · rw [z1] at y1; exact ⟨zs, y1, y2⟩
    exact r.ap j k b (go h1) (go h2)
end
end Cv

set_option Elab.async false
set_option linter.all false
set_option maxRecDepth 100000
set_option maxHeartbeats 4000000
/-! Core4: what is wanted behind an expression; operations on values. -/
namespace Cv
open PySem PySem.Spec PyProof.Rows L2
/-- an error left: its class, its own dict with the field, and how all stands -/
def ExnOk (Z : Fx) (P F0 F : Hp) (ι : List Addr) (c : Nat) (x : PV) (st : Sto) (cls : Value) (d : Option Addr) (H' : Hp) : Prop :=
  ∃ F' ι' dx v CA fd, Sb F F' ∧ Ex ι ι' ∧ Rel0 Z P F0 F' ι' H' st ∧ Z.X[c]? = some (CA, fd) ∧ cls = .ref CA ∧ d = some dx ∧ H' dx = some (.xd [(fd, v)]) ∧ Rep Z.K F' ι' x v
def APost (Z : Fx) (P F0 : Hp) (σ : L2.St) (F : Hp) (ι : List Addr) (E : XK) (Q : List V → Hp → Prop) : ResE → Prop
  | .ok xs ρ st => ∀ F' ι' H' vs, Sb F F' → Ex ι ι' → Rel Z P F0 F' ι' σ H' ρ st → Reps Z.K F' ι' xs vs → Q vs H'
  | .ex c x st => ∀ cls d H', ExnOk Z P F0 F ι c x st cls d H' → E cls d H'
  | .fail => False
def EPost (Z : Fx) (P F0 : Hp) (σ : L2.St) (F : Hp) (ι : List Addr) (E : XK) (Q : VK) : ResE → Prop
  | .ok [x] ρ st => ∀ F' ι' H' v, Sb F F' → Ex ι ι' → Rel Z P F0 F' ι' σ H' ρ st → Rep Z.K F' ι' x v → Q v H'
  | .ok _ _ _ => False
  | .ex c x st => ∀ cls d H', ExnOk Z P F0 F ι c x st cls d H' → E cls d H'
  | .fail => False
section
variable {Z : Fx} {P F0 F F1 H : Hp} {ι ι1 : List Addr} {σ : L2.St} {ρ : Evn} {st : Sto} {E : XK} {Q Q1 : VK}
theorem ExnOk.weak {c : Nat} {x : PV} {cls : Value} {d : Option Addr} (hs : Sb F F1) (he : Ex ι ι1) (h : ExnOk Z P F0 F1 ι1 c x st cls d H) : ExnOk Z P F0 F ι c x st cls d H := by
  obtain ⟨F', ι', dx, v, CA, fd, h1, h2, r⟩ := h
  exact ⟨F', ι', dx, v, CA, fd, hs.tr h1, he.tr h2, r⟩
theorem EPost.weak {r : ResE} (hs : Sb F F1) (he : Ex ι ι1) (h : EPost Z P F0 σ F ι E Q r) : EPost Z P F0 σ F1 ι1 E Q r := by
  cases r with
  | ok xs ρ st =>
    match xs, h with
    | [x], h => exact fun F' ι' H' v a b => h F' ι' H' v (hs.tr a) (he.tr b)
  | ex c x st => exact fun cls d H' q => h cls d H' (q.weak hs he)
  | fail => exact h
theorem APost.weak {r : ResE} {Q : List V → Hp → Prop} (hs : Sb F F1) (he : Ex ι ι1) (h : APost Z P F0 σ F ι E Q r) : APost Z P F0 σ F1 ι1 E Q r := by
  cases r with
  | ok xs ρ st => exact fun F' ι' H' v a b => h F' ι' H' v (hs.tr a) (he.tr b)
  | ex c x st => exact fun cls d H' q => h cls d H' (q.weak hs he)
  | fail => exact h
theorem EPost.imp {r : ResE} (h : EPost Z P F0 σ F ι E Q r) (q : ∀ v H, Q v H → Q1 v H) : EPost Z P F0 σ F ι E Q1 r := by
  cases r with
  | ok xs ρ st =>
    match xs, h with
    | [x], h => exact fun F' ι' H' v a b c d => q _ _ (h F' ι' H' v a b c d)
  | ex c x st => exact h
  | fail => exact h
/-- one value, then the rest -/
theorem EPost.b1 {k : PV → Evn → Sto → ResE} {r : ResE} (h : EPost Z P F0 σ F ι E Q (r.bind (d1 k)))
    (hk : ∀ x ρ st F1 ι1 H1 v, Sb F F1 → Ex ι ι1 → Rel Z P F0 F1 ι1 σ H1 ρ st → Rep Z.K F1 ι1 x v → EPost Z P F0 σ F1 ι1 E Q (k x ρ st) → Q1 v H1) : EPost Z P F0 σ F ι E Q1 r := by
  cases r with
  | ok xs ρ st =>
    match xs, h with
    | [x], h => exact fun F' ι' H' v a b c d => hk x ρ st F' ι' H' v a b c d (EPost.weak a b h)
    | [], h => exact (show False from h).elim
    | _ :: _ :: _, h => exact (show False from h).elim
  | ex c x st => exact h
  | fail => exact h
theorem EPost.bB {k : Bool → Evn → Sto → ResE} {r : ResE} (h : EPost Z P F0 σ F ι E Q (r.bind (dB k)))
    (hk : ∀ b ρ st F1 ι1 H1, Sb F F1 → Ex ι ι1 → Rel Z P F0 F1 ι1 σ H1 ρ st → EPost Z P F0 σ F1 ι1 E Q (k b ρ st) → Q1 (.bl b) H1) : EPost Z P F0 σ F ι E Q1 r := by
  cases r with
  | ok xs ρ st =>
    match xs, h with
    | [.bl b], h =>
      intro F' ι' H' v a b' c d
      rw [d.bl_of]
      exact hk b ρ st F' ι' H' a b' c (EPost.weak a b' h)
    | [], h => exact (show False from h).elim
    | [.non], h | [.int _], h | [.str _], h | [.tup _], h | [.lst _], h | [.ob _], h => exact (show False from h).elim
    | .non :: _ :: _, h | .bl _ :: _ :: _, h | .int _ :: _ :: _, h | .str _ :: _ :: _, h | .tup _ :: _ :: _, h | .lst _ :: _ :: _, h | .ob _ :: _ :: _, h => exact (show False from h).elim
  | ex c x st => exact h
  | fail => exact h
/-- many values, then the rest -/
theorem EPost.bA {k : List PV → Evn → Sto → ResE} {r : ResE} {QA : List V → Hp → Prop} (h : EPost Z P F0 σ F ι E Q (r.bind k))
    (hk : ∀ xs ρ st F1 ι1 H1 vs, Sb F F1 → Ex ι ι1 → Rel Z P F0 F1 ι1 σ H1 ρ st → Reps Z.K F1 ι1 xs vs → EPost Z P F0 σ F1 ι1 E Q (k xs ρ st) → QA vs H1) : APost Z P F0 σ F ι E QA r := by
  cases r with
  | ok xs ρ st => exact fun F' ι' H' v a b c d => hk xs ρ st F' ι' H' v a b c d (EPost.weak a b h)
  | ex c x st => exact h
  | fail => exact h
theorem APost.b1 {k : PV → Evn → Sto → ResE} {r : ResE} {QA : List V → Hp → Prop} (h : APost Z P F0 σ F ι E QA (r.bind (d1 k)))
    (hk : ∀ x ρ st F1 ι1 H1 v, Sb F F1 → Ex ι ι1 → Rel Z P F0 F1 ι1 σ H1 ρ st → Rep Z.K F1 ι1 x v → APost Z P F0 σ F1 ι1 E QA (k x ρ st) → Q1 v H1) : EPost Z P F0 σ F ι E Q1 r := by
  cases r with
  | ok xs ρ st =>
    match xs, h with
    | [x], h => exact fun F' ι' H' v a b c d => hk x ρ st F' ι' H' v a b c d (APost.weak a b h)
    | [], h => exact (show False from h).elim
    | _ :: _ :: _, h => exact (show False from h).elim
  | ex c x st => exact h
  | fail => exact h
theorem APost.bA {k : List PV → Evn → Sto → ResE} {r : ResE} {QA QB : List V → Hp → Prop} (h : APost Z P F0 σ F ι E QB (r.bind k))
    (hk : ∀ xs ρ st F1 ι1 H1 vs, Sb F F1 → Ex ι ι1 → Rel Z P F0 F1 ι1 σ H1 ρ st → Reps Z.K F1 ι1 xs vs → APost Z P F0 σ F1 ι1 E QB (k xs ρ st) → QA vs H1) : APost Z P F0 σ F ι E QA r := by
  cases r with
  | ok xs ρ st => exact fun F' ι' H' v a b c d => hk xs ρ st F' ι' H' v a b c d (APost.weak a b h)
  | ex c x st => exact h
  | fail => exact h
end

/-! ### readings -/
def tE (Z : Fx) (E : XK) (g : Cl) (c : Ce) : TE := fun σ H Q => ∃ P F0 F ι ρ st, Rel Z P F0 F ι σ H ρ st ∧ EPost Z P F0 σ F ι E Q (evD c g ρ st)
def tA (Z : Fx) (E : XK) (g : Cl) (c : Ce) : TA := fun σ H Q => ∃ P F0 F ι ρ st, Rel Z P F0 F ι σ H ρ st ∧ APost Z P F0 σ F ι E Q (evD c g ρ st)
theorem pe_imp {X : Cx} {e : Expr} {t t' : TE} (h : PE X e t) (q : ∀ σ H Q, t' σ H Q → t σ H Q) : PE X e t' := ⟨fun pins s σ H Q I w => h.run pins s σ H Q I (q σ H Q w)⟩
theorem pt_imp {X : Cx} {e : Expr} {t t' : TT} (h : PT X e t) (q : ∀ σ H Q, t' σ H Q → t σ H Q) : PT X e t' := ⟨fun pins s σ H Q I w => h.run pins s σ H Q I (q σ H Q w)⟩
theorem pw_imp {X : Cx} {e : Expr} {t t' : TT} (h : PW X e t) (q : ∀ σ H Q, t' σ H Q → t σ H Q) : PW X e t' := ⟨fun wh pins s σ H Q I w => h.run wh pins s σ H Q I (q σ H Q w)⟩
theorem pa_imp {X : Cx} {e : List Expr} {t t' : TA} (h : PA X e t) (q : ∀ σ H Q, t' σ H Q → t σ H Q) : PA X e t' := ⟨fun pos pins s σ H Q I w => h.run pos pins s σ H Q I (q σ H Q w)⟩
theorem ps_imp {X : Cx} {e : Stmt} {t t' : TS} (h : PS X e t) (q : ∀ D σ H, t' D σ H → t D σ H) : PS X e t' := ⟨fun pins s σ H D I w => h.run pins s σ H D I (q D σ H w)⟩
theorem pss_imp {X : Cx} {e : List Stmt} {t t' : TS} (h : PSs X e t) (q : ∀ D σ H, t' D σ H → t D σ H) : PSs X e t' := ⟨fun pins s σ H D I w => h.run pins s σ H D I (q D σ H w)⟩
theorem cr_imp {X : Cx} {f : Value} {r r' : List V → Hp → VK → Prop} (h : CallR X f r) (q : ∀ xs H Q, r' xs H Q → r xs H Q) : CallR X f r' := fun pins s σ H xs us Q I v w => h pins s σ H xs us Q I v (q xs H Q w)
theorem or_imp {X : Cx} {f : Value → Value → Sem Value} {r r' : R2} (h : OpR X f r) (q : ∀ x y H Q, r' x y H Q → r x y H Q) : OpR X f r' := fun pins s σ H x y v u Q I a b w => h pins s σ H x y v u Q I a b (q x y H Q w)

/-- what is wanted behind an operation that makes r -/
def VPost (Z : Fx) (P F0 : Hp) (σ : L2.St) (F : Hp) (ι : List Addr) (ρ : Evn) (st : Sto) (Q : VK) (r : Option PV) : Prop := match r with
  | some x => ∀ F' H' v, Sb F F' → Rel Z P F0 F' ι σ H' ρ st → Rep Z.K F' ι x v → Q v H'
  | none => False
theorem EPost.giv {Z : Fx} {P F0 F : Hp} {ι : List Addr} {σ : L2.St} {ρ : Evn} {st : Sto} {E : XK} {Q : VK} {o : Option PV} (h : EPost Z P F0 σ F ι E Q (givD o ρ st)) : VPost Z P F0 σ F ι ρ st Q o := by
  cases o with
  | none => exact h
  | some x => exact fun F' H' v a b c => h F' ι H' v a .rfl' b c
theorem EPost.givB {Z : Fx} {P F0 F : Hp} {ι : List Addr} {σ : L2.St} {ρ : Evn} {st : Sto} {E : XK} {Q : VK} {o : Option Bool} (h : EPost Z P F0 σ F ι E Q (givBD o ρ st)) : VPost Z P F0 σ F ι ρ st Q (o.map PV.bl) := by
  cases o with
  | none => exact h
  | some x => exact fun F' H' v a b c => h F' ι H' v a .rfl' b c
section
variable {Z : Fx} {P F0 F H : Hp} {ι : List Addr} {σ : L2.St} {ρ : Evn} {st : Sto} {Q : VK} {X : Cx}
/-- the value needs no new object -/
theorem VPost.here {x : PV} {v : V} (h : VPost Z P F0 σ F ι ρ st Q (some x)) (r : Rel Z P F0 F ι σ H ρ st) (p : Rep Z.K F ι x v) : Q v H := h F H v .rfl' r p
theorem VPost.tup {xs : List PV} {vs : List V} {p : Addr} (h : VPost Z P F0 σ F ι ρ st Q (some (.tup xs))) (r : Rel Z P F0 F ι σ H ρ st) (rs : Reps Z.K F ι xs vs) (hp : H p = none) : Q (.ref p) (upd H p (.tup vs)) := by
  have hs : Sb F (upd F p (.tup vs)) := Sb.rfl'.up (r.r.fresh hp).1
  exact h _ _ _ hs (r.new hp fun ps z => by cases z) (.tup (.of upd_same) (rs.mono hs .rfl'))
theorem VPost.lst {xs : List PV} {vs : List V} {p : Addr} (h : VPost Z P F0 σ F ι ρ st Q (some (.lst xs))) (r : Rel Z P F0 F ι σ H ρ st) (rs : Reps Z.K F ι xs vs) (hp : H p = none) : Q (.ref p) (upd H p (.lst vs)) := by
  have hs : Sb F (upd F p (.lst vs)) := Sb.rfl'.up (r.r.fresh hp).1
  exact h _ _ _ hs (r.new hp fun ps z => by cases z) (.lst (.of upd_same) (rs.mono hs .rfl'))
/-- an operation on two values, as the plain reading has it -/
def rP (Z : Fx) (f : PV → PV → Option PV) : R2 := fun x y H Q => ∃ P F0 F ι σ ρ st a b, Rel Z P F0 F ι σ H ρ st ∧ Rep Z.K F ι a x ∧ Rep Z.K F ι b y ∧ VPost Z P F0 σ F ι ρ st Q (f a b)
theorem fits_le {n : Nat} (h : fits n = true) : n ≤ sizeLine := by
  rw [sizeLine_eq]; exact Nat.le_of_ble_eq_true h
def isArith : Operator → Option BO
  | .Add => some .add | .Sub => some .sub | .Mult => some .mul | .FloorDiv => some .fdiv | .Mod => some .mod | .Pow => some .pow | _ => none
theorem vif {c : Bool} {x : PV} (h : VPost Z P F0 σ F ι ρ st Q (if c = true then some x else none)) : c = true ∧ VPost Z P F0 σ F ι ρ st Q (some x) := by
  cases c with
  | true => exact ⟨rfl, h⟩
  | false => exact h.elim
/-- list + list -/
theorem op_catL : OpR X (binaryOp .Add) (fun x y H Q => ∃ l b xs zs, x = .ref l ∧ y = .ref b ∧ Rd H l (.lst xs) ∧ Rd H b (.lst zs) ∧ xs.length + zs.length ≤ sizeLine ∧ ∀ p, H p = none → Q (.ref p) (upd H p (.lst (xs ++ zs)))) := by
  intro pins s σ0 H x y v u Q I rx ry h
  obtain ⟨l, b, xs, zs, rfl, rfl, h1, h2, hz, q⟩ := h
  cases rx; cases ry
  obtain ⟨_, its, n, r, e⟩ := h1.ok I.hok
  obtain ⟨_, its2, n2, r2, e2⟩ := h2.ok I.hok
  have k1 := r.length
  have k2 := r2.length
  refine PySem.P.add_list e e2 ?_ (by rw [List.size_toArray, List.size_toArray]; omega)
  rw [show its.toArray ++ its2.toArray = (its ++ its2).toArray by simp]
  exact ⟨.ref _, _, I.lnew (t' := s.toks) (r.append r2) (by rw [List.length_append]; omega), rfl, q _ I.fresh⟩
theorem op_int (hK : X.K = Z.K) {op : Operator} {o : BO} (ho : isArith op = some o) (i j : Int) {pins : List (Addr × Obj)} {s : Shared} {σ0 : L2.St} {v u : Value} (I : L2.Inv X pins σ0 H s) (rx : RelV (.int i) v) (ry : RelV (.int j) u)
    (r : Rel Z P F0 F ι σ H ρ st) (p : VPost Z P F0 σ F ι ρ st Q (binI o i j)) : wpAny (model X.prog X.w) X.A (binaryOp op v u) (EP X pins σ0 Q) X.xe s := by
  have fin : ∀ k, VPost Z P F0 σ F ι ρ st Q (some (.int k)) → Q (.int k) H := fun k q => q.here r .int
  cases op <;> cases ho
  · exact op_add pins s σ0 H _ _ v u Q I rx ry ⟨i, j, rfl, rfl, fin _ p⟩
  · exact op_sub pins s σ0 H _ _ v u Q I rx ry ⟨i, j, rfl, rfl, fin _ p⟩
  · obtain ⟨c, p'⟩ := vif p
    exact op_mulW pins s σ0 H _ _ v u Q I rx ry ⟨i, j, rfl, rfl, (show i.natAbs.log2 + j.natAbs.log2 < 1000000 from of_decide_eq_true c), fin _ p'⟩
  · obtain ⟨c, p'⟩ := vif p
    exact op_mod pins s σ0 H _ _ v u Q I rx ry ⟨i, j, rfl, rfl, of_decide_eq_true c, fin _ p'⟩
  · obtain ⟨c, p'⟩ := vif p
    unfold powOk at c
    simp only [Bool.and_eq_true, decide_eq_true_eq] at c
    exact op_pow pins s σ0 H _ _ v u Q I rx ry ⟨i, j, rfl, rfl, ⟨c.1.1, c.1.2, c.2⟩, fin _ p'⟩
  · obtain ⟨c, p'⟩ := vif p
    unfold divOk at c
    simp only [Bool.and_eq_true, decide_eq_true_eq] at c
    exact op_fdivW pins s σ0 H _ _ v u Q I rx ry ⟨i, j, rfl, rfl, c, fin _ p'⟩
theorem op_plus (hK : X.K = Z.K) {a b : PV} {x y : V} {pins : List (Addr × Obj)} {s : Shared} {σ0 : L2.St} {v u : Value} (I : L2.Inv X pins σ0 H s) (rx : RelV x v) (ry : RelV y u)
    (r : Rel Z P F0 F ι σ H ρ st) (ra : Rep Z.K F ι a x) (rb : Rep Z.K F ι b y) (p : VPost Z P F0 σ F ι ρ st Q (binP .add a b)) : wpAny (model X.prog X.w) X.A (binaryOp .Add v u) (EP X pins σ0 Q) X.xe s := by
  cases a with
  | int i =>
    cases b with
    | int j =>
      have ex := ra.int_of
      have ey := rb.int_of
      subst ex ey
      exact op_int hK (o := .add) rfl i j I rx ry r p
    | _ => exact (show False from p).elim
  | tup xs =>
    cases b with
    | tup ys =>
      obtain ⟨c, p'⟩ := vif p
      obtain ⟨a1, vs, rfl, h1, h2⟩ := ra.tup_of
      obtain ⟨a2, ws, rfl, h3, h4⟩ := rb.tup_of
      have z1 := h2.len
      have z2 := h4.len
      refine op_catA pins s σ0 H _ _ v u Q I rx ry ⟨a1, a2, vs, ws, rfl, rfl, by rw [hK]; exact r.r.fh.stp h1, by rw [hK]; exact r.r.fh.stp h3, by rw [z1, z2]; exact fits_le c, fun ev => ?_, fun _ ew => ?_, fun _ _ pp hp => p'.tup r (h2.app h4) hp⟩
      · subst ev
        have : xs = [] := List.eq_nil_of_length_eq_zero z1.symm
        subst this
        exact p'.here r rb
      · subst ew
        have : ys = [] := List.eq_nil_of_length_eq_zero z2.symm
        subst this
        rw [List.append_nil] at p'
        exact p'.here r ra
    | _ => exact (show False from p).elim
  | lst xs =>
    cases b with
    | lst ys =>
      obtain ⟨c, p'⟩ := vif p
      obtain ⟨a1, vs, rfl, h1, h2⟩ := ra.lst_of
      obtain ⟨a2, ws, rfl, h3, h4⟩ := rb.lst_of
      exact op_catL pins s σ0 H _ _ v u Q I rx ry ⟨a1, a2, vs, ws, rfl, rfl, r.r.fh.rd h1, r.r.fh.rd h3, by rw [h2.len, h4.len]; exact fits_le c, fun pp hp => p'.lst r (h2.app h4) hp⟩
    | _ => exact (show False from p).elim
  | str x' =>
    cases b with
    | str y' =>
      obtain ⟨c, p'⟩ := vif p
      have ex := ra.str_of
      have ey := rb.str_of
      subst ex ey
      exact op_add_str pins s σ0 H _ _ v u Q I rx ry ⟨x', y', rfl, rfl, fits_le c, p'.here r .str⟩
    | _ => exact (show False from p).elim
  | _ => cases b <;> exact (show False from p).elim
theorem reps_rep {xs : List PV} {vs : List V} (h : Reps Z.K F ι xs vs) : ∀ n : Nat, Reps Z.K F ι (List.replicate n xs).flatten (List.replicate n vs).flatten
  | 0 => .nil
  | n + 1 => by
    rw [List.replicate_succ, List.replicate_succ, List.flatten_cons, List.flatten_cons]
    exact h.app (reps_rep h n)
theorem op_bin (hK : X.K = Z.K) {op : Operator} {o : BO} (ho : isArith op = some o) : OpR X (binaryOp op) (rP Z (binP o)) := by
  intro pins s σ0 H x y v u Q I rx ry h
  obtain ⟨P, F0, F, ι, σ, ρ, st, a, b, r, ra, rb, p⟩ := h
  by_cases hadd : o = .add
  · subst hadd
    have : op = .Add := by cases op <;> first | rfl | (cases ho)
    subst this
    exact op_plus hK I rx ry r ra rb p
  · cases a with
    | int i =>
      cases b with
      | int j =>
        have ex := ra.int_of
        have ey := rb.int_of
        subst ex ey
        exact op_int hK ho i j I rx ry r (by cases o <;> exact p)
      | _ => exact (show False by cases o <;> first | exact p | exact hadd rfl).elim
    | tup xs =>
      cases b with
      | int k =>
        by_cases hm : o = .mul
        · subst hm
          have : op = .Mult := by cases op <;> first | rfl | (cases ho)
          subst this
          cases xs with
          | nil => exact (show False from p).elim
          | cons e es =>
            obtain ⟨c, p'⟩ := vif p
            simp only [Bool.and_eq_true, decide_eq_true_eq] at c
            obtain ⟨a1, vs, rfl, h1, h2⟩ := ra.tup_of
            have ey := rb.int_of
            subst ey
            have z1 := h2.len
            have hne : vs ≠ [] := fun z => by rw [z] at z1; cases z1
            have hlen : (e :: es).length = es.length + 1 := rfl
            exact op_repT pins s σ0 H _ _ v u Q I rx ry ⟨a1, k, vs, rfl, rfl, by rw [hK]; exact r.r.fh.stp h1, hne, c.1.1, c.1.2, by rw [z1, hlen]; have := c.2; omega, fun pp hp => p'.tup r (reps_rep h2 _) hp⟩
        · exact (show False by cases o <;> first | exact (hadd rfl).elim | exact (hm rfl).elim | (cases xs <;> exact p)).elim
      | _ => exact (show False by cases o <;> first | exact (hadd rfl).elim | (cases xs <;> exact p)).elim
    | _ => cases b <;> exact (show False by cases o <;> first | exact p | exact hadd rfl).elim

/-! ### comparisons -/
theorem rep_non {a : PV} {x : V} (h : Rep Z.K F ι a x) : decide (x = .non) = isNon a := by
  cases a with
  | non => rw [h.non_of]; rfl
  | bl b => rw [h.bl_of]; rfl
  | int b => rw [h.int_of]; rfl
  | str b => rw [h.str_of]; rfl
  | tup xs => obtain ⟨_, _, rfl, _⟩ := h.tup_of; rfl
  | lst xs => obtain ⟨_, _, rfl, _⟩ := h.lst_of; rfl
  | ob n => obtain ⟨_, rfl, _⟩ := h.ob_of; rfl
theorem shaped_of {a : PV} {n : Nat} (h : dat n a = true) (hn : n ≤ 64) : SeqAt.shaped (toD a) = true := by
  obtain ⟨h1, h2⟩ := dat_ok h
  unfold SeqAt.shaped
  rw [h1, Bool.true_and]
  exact decide_eq_true (Nat.le_trans h2 hn)
theorem any_eq {x : PV} {n m : Nat} (hx : dat n x = true) : ∀ {ys : List PV}, datL m ys = true → (toDs ys).any (fun z => PyData.eqv z (toD x)) = ys.any fun y => eqP y x
  | [], _ => rfl
  | y :: ys, h => by
    have h' : (dat m y && datL m ys) = true := h
    rw [Bool.and_eq_true] at h'
    show (PyData.eqv (toD y) (toD x) || (toDs ys).any _) = (eqP y x || ys.any _)
    rw [eqP_ok h'.1 hx, any_eq hx h'.2]
def isCmp : CmpOp → CO
  | .Eq => .eq | .NotEq => .ne | .Lt => .lt | .LtE => .le | .Gt => .gt | .GtE => .ge | .Is => .isN | .IsNot => .notN | .In => .inn | .NotIn => .notIn
/-- x in ys, ys a list or a tuple of data -/
theorem op_inT (hu : X.A.units + 65 < cLine) : OpR X (compareOp .In) (fun x y H Q => ∃ d a vs ds, y = .ref a ∧ Dp X.K H x d ∧ (SqL X.K H a vs ∨ SqT X.K H a vs) ∧ DpAll X.K H vs ds ∧ SeqAt.shaped d = true ∧ SeqAt.shaped (.list ds) = true ∧ Q (.bl (ds.any fun z => PyData.eqv z d)) H) := by
  intro pins s σ0 H x y v u Q I rx ry h
  obtain ⟨d, a, vs, ds, rfl, hd, hs, he, sd, se, q⟩ := h
  obtain ⟨as, r1⟩ := Dp.reads I d x v hd rx
  have cl : PyData.canLayAll0 ds = true := SeqAt.canLay_of_shaped se
  rcases hs with hs | hs
  · obtain ⟨bs, r2⟩ := Dp.reads I (.list ds) _ u (.lst hs he) ry
    exact SeqAt.in_list_reads r2 r1 cl (SeqAt.canLay_of_shaped sd) (room_in_shaped sd hu) ⟨.bl _, H, I, rfl, q⟩
  · obtain ⟨bs, r2⟩ := Dp.reads I (.tuple ds) _ u (.tup hs he) ry
    exact SeqAt.in_tuple_reads r2 r1 cl (SeqAt.canLay_of_shaped sd) (room_in_shaped sd hu) ⟨.bl _, H, I, rfl, q⟩
theorem op_notInT (hu : X.A.units + 65 < cLine) : OpR X (compareOp .NotIn) (fun x y H Q => ∃ d a vs ds, y = .ref a ∧ Dp X.K H x d ∧ (SqL X.K H a vs ∨ SqT X.K H a vs) ∧ DpAll X.K H vs ds ∧ SeqAt.shaped d = true ∧ SeqAt.shaped (.list ds) = true ∧ Q (.bl (!ds.any fun z => PyData.eqv z d)) H) := by
  intro pins s σ0 H x y v u Q I rx ry h
  obtain ⟨d, a, vs, ds, rfl, hd, hs, he, sd, se, q⟩ := h
  obtain ⟨as, r1⟩ := Dp.reads I d x v hd rx
  have cl : PyData.canLayAll0 ds = true := SeqAt.canLay_of_shaped se
  rcases hs with hs | hs
  · obtain ⟨bs, r2⟩ := Dp.reads I (.list ds) _ u (.lst hs he) ry
    exact SeqAt.notIn_list_reads r2 r1 cl (SeqAt.canLay_of_shaped sd) (room_in_shaped sd hu) ⟨.bl _, H, I, rfl, q⟩
  · obtain ⟨bs, r2⟩ := Dp.reads I (.tuple ds) _ u (.tup hs he) ry
    exact SeqAt.notIn_tuple_reads r2 r1 cl (SeqAt.canLay_of_shaped sd) (room_in_shaped sd hu) ⟨.bl _, H, I, rfl, q⟩
theorem op_cmp (hK : X.K = Z.K) (hu5 : X.A.units + 65 < cLine) (op : CmpOp) : OpR X (compareOp op) (rP Z fun a b => (cmpP (isCmp op) a b).map PV.bl) := by
  intro pins s σ0 H x y v u Q I rx ry h
  obtain ⟨P, F0, F, ι, σ, ρ, st, a, b, r, ra, rb, p⟩ := h
  have hu : X.A.units + 64 < cLine := Nat.lt_of_succ_lt hu5
  have fin : ∀ k, VPost Z P F0 σ F ι ρ st Q (some (.bl k)) → Q (.bl k) H := fun k q => q.here r .bl
  have eq2 : ∀ (neg : Bool), VPost Z P F0 σ F ι ρ st Q (((eqO a b).map fun z => if neg then !z else z).map PV.bl) → dat 64 a = true ∧ dat 64 b = true ∧ Q (.bl (if neg then !eqP a b else eqP a b)) H := fun neg q => by
    unfold eqO at q
    by_cases c : (dat 64 a && dat 64 b) = true
    · rw [if_pos c] at q
      rw [Bool.and_eq_true] at c
      exact ⟨c.1, c.2, fin _ q⟩
    · rw [if_neg c] at q; exact q.elim
  have in2 : ∀ (neg : Bool) (ys : List PV), VPost Z P F0 σ F ι ρ st Q (((inP a ys).map fun z => if neg then !z else z).map PV.bl) → dat 60 a = true ∧ datL 60 ys = true ∧ Q (.bl (if neg then !(ys.any fun y => eqP y a) else ys.any fun y => eqP y a)) H := fun neg ys q => by
    unfold inP at q
    by_cases c : (dat 60 a && datL 60 ys) = true
    · rw [if_pos c] at q
      rw [Bool.and_eq_true] at c
      exact ⟨c.1, c.2, fin _ q⟩
    · rw [if_neg c] at q; exact q.elim
  cases op with
  | Eq =>
    obtain ⟨d1, d2, q⟩ := eq2 false (by
      have e : ((eqO a b).map fun z => if false = true then !z else z) = eqO a b := by cases eqO a b <;> rfl
      rw [e]; exact p)
    rw [← eqP_ok d1 d2] at q
    exact op_eqD hu pins s σ0 H x y v u Q I rx ry ⟨toD a, toD b, by rw [hK]; exact dp_mono r.r.fh (ra.dp d1), by rw [hK]; exact dp_mono r.r.fh (rb.dp d2), shaped_of d1 (Nat.le_refl _), shaped_of d2 (Nat.le_refl _), q⟩
  | NotEq =>
    obtain ⟨d1, d2, q⟩ := eq2 true p
    rw [← eqP_ok d1 d2] at q
    exact op_neD hu pins s σ0 H x y v u Q I rx ry ⟨toD a, toD b, by rw [hK]; exact dp_mono r.r.fh (ra.dp d1), by rw [hK]; exact dp_mono r.r.fh (rb.dp d2), shaped_of d1 (Nat.le_refl _), shaped_of d2 (Nat.le_refl _), q⟩
  | Is =>
    cases b with
    | non =>
      have ey := rb.non_of
      subst ey
      have p' : VPost Z P F0 σ F ι ρ st Q (some (.bl (isNon a))) := by cases a <;> exact p
      exact op_isN pins s σ0 H x _ v u Q I rx ry ⟨rfl, by rw [rep_non ra]; exact fin _ p'⟩
    | _ => cases a <;> exact (show False from p).elim
  | IsNot =>
    cases b with
    | non =>
      have ey := rb.non_of
      subst ey
      have p' : VPost Z P F0 σ F ι ρ st Q (some (.bl (!isNon a))) := by cases a <;> exact p
      exact op_notN pins s σ0 H x _ v u Q I rx ry ⟨rfl, by rw [rep_non ra]; exact fin _ p'⟩
    | _ => cases a <;> exact (show False from p).elim
  | In =>
    have go : ∀ (ys : List PV) (a2 : Addr) (ws : List V), y = .ref a2 → (SqL X.K H a2 ws ∨ SqT X.K H a2 ws) → Reps Z.K F ι ys ws → VPost Z P F0 σ F ι ρ st Q ((inP a ys).map PV.bl) → wpAny (model X.prog X.w) X.A (compareOp .In v u) (EP X pins σ0 Q) X.xe s := fun ys a2 ws ey hs hr hp => by
      obtain ⟨d1, d2, q⟩ := in2 false ys (by
        have e : ((inP a ys).map fun z => if false = true then !z else z) = inP a ys := by cases inP a ys <;> rfl
        rw [e]; exact hp)
      have q' : Q (.bl (ys.any fun y => eqP y a)) H := q
      rw [← any_eq d1 d2] at q'
      refine op_inT hu5 pins s σ0 H x y v u Q I rx ry ⟨toD a, a2, ws, toDs ys, ey, by rw [hK]; exact dp_mono r.r.fh (ra.dp d1), hs, by rw [hK]; exact dps_mono r.r.fh (hr.dps d2), shaped_of d1 (by decide), ?_, q'⟩
      have : dat 61 (.lst ys) = true := by unfold dat; exact d2
      exact shaped_of this (by decide)
    cases b with
    | tup ys =>
      obtain ⟨a2, ws, e, h1, h2⟩ := rb.tup_of
      exact go ys a2 ws e (.inr (by rw [hK]; exact r.r.fh.stp h1)) h2 (by cases a <;> exact p)
    | lst ys =>
      obtain ⟨a2, ws, e, h1, h2⟩ := rb.lst_of
      exact go ys a2 ws e (.inl (.inl (r.r.fh.rd h1))) h2 (by cases a <;> exact p)
    | _ => cases a <;> exact (show False from p).elim
  | NotIn =>
    have go : ∀ (ys : List PV) (a2 : Addr) (ws : List V), y = .ref a2 → (SqL X.K H a2 ws ∨ SqT X.K H a2 ws) → Reps Z.K F ι ys ws → VPost Z P F0 σ F ι ρ st Q (((inP a ys).map (!·)).map PV.bl) → wpAny (model X.prog X.w) X.A (compareOp .NotIn v u) (EP X pins σ0 Q) X.xe s := fun ys a2 ws ey hs hr hp => by
      obtain ⟨d1, d2, q⟩ := in2 true ys hp
      have q' : Q (.bl (!ys.any fun y => eqP y a)) H := q
      rw [← any_eq d1 d2] at q'
      refine op_notInT hu5 pins s σ0 H x y v u Q I rx ry ⟨toD a, a2, ws, toDs ys, ey, by rw [hK]; exact dp_mono r.r.fh (ra.dp d1), hs, by rw [hK]; exact dps_mono r.r.fh (hr.dps d2), shaped_of d1 (by decide), ?_, q'⟩
      have : dat 61 (.lst ys) = true := by unfold dat; exact d2
      exact shaped_of this (by decide)
    cases b with
    | tup ys =>
      obtain ⟨a2, ws, e, h1, h2⟩ := rb.tup_of
      exact go ys a2 ws e (.inr (by rw [hK]; exact r.r.fh.stp h1)) h2 (by cases a <;> exact p)
    | lst ys =>
      obtain ⟨a2, ws, e, h1, h2⟩ := rb.lst_of
      exact go ys a2 ws e (.inl (.inl (r.r.fh.rd h1))) h2 (by cases a <;> exact p)
    | _ => cases a <;> exact (show False from p).elim
  | _ =>
    cases a with
    | int i =>
      cases b with
      | int j =>
        have ex := ra.int_of
        have ey := rb.int_of
        subst ex ey
        first
          | exact op_lt pins s σ0 H _ _ v u Q I rx ry ⟨i, j, rfl, rfl, fin _ p⟩
          | exact op_le pins s σ0 H _ _ v u Q I rx ry ⟨i, j, rfl, rfl, fin _ p⟩
          | exact op_gt pins s σ0 H _ _ v u Q I rx ry ⟨i, j, rfl, rfl, fin _ p⟩
          | exact op_ge pins s σ0 H _ _ v u Q I rx ry ⟨i, j, rfl, rfl, fin _ p⟩
      | _ => exact (show False from p).elim
    | _ => cases b <;> exact (show False from p).elim
end
end Cv

set_option Elab.async false
set_option linter.all false
set_option maxRecDepth 100000
set_option maxHeartbeats 4000000
/-! Core5: places, cuts, built-in functions. -/
namespace Cv
open PySem PySem.Spec PyProof.Rows L2
section
variable {Z : Fx} {P F0 F H : Hp} {ι : List Addr} {σ : L2.St} {ρ : Evn} {st : Sto} {Q : VK} {X : Cx}
theorem place_ix {n : Nat} {i : Int} : placeOf n i = ixN n i := rfl
theorem atI_of {xs : List PV} {vs : List V} {i : Int} {x : PV} (h : Reps Z.K F ι xs vs) (e : atP xs i = some x) : ∃ v, atI vs i = some v ∧ Rep Z.K F ι x v := by
  unfold atP at e
  cases q : placeOf xs.length i with
  | none => rw [q] at e; cases e
  | some j =>
    rw [q] at e
    obtain ⟨v, h1, h2⟩ := h.get (show xs[j]? = some x from e)
    refine ⟨v, ?_, h2⟩
    unfold atI
    rw [h.len, ← place_ix, q]
    exact h1
theorem ix_ok (hK : X.K = Z.K) : IxR X (rP Z ixP) := by
  have key : IxR X (rIx X.K) := ix_seq
  intro a b pins s σ0 H x y v u Q I rx ry h hb
  refine key a b pins s σ0 H x y v u Q I rx ry ?_ hb
  obtain ⟨P, F0, F, ι, σ, ρ, st, p, q, r, rp, rq, post⟩ := h
  have at_ : ∀ xs i vs, q = .int i → Reps Z.K F ι xs vs → VPost Z P F0 σ F ι ρ st Q (atP xs i) → ∃ v, atI vs i = some v ∧ Q v H := fun xs i vs eq hr hp => by
    cases e : atP xs i with
    | none => rw [e] at hp; exact hp.elim
    | some z =>
      rw [e] at hp
      obtain ⟨v, h1, h2⟩ := atI_of hr e
      exact ⟨v, h1, hp.here r h2⟩
  cases p with
  | tup xs =>
    cases q with
    | int i =>
      obtain ⟨a1, vs, rfl, h1, h2⟩ := rp.tup_of
      have e2 := rq.int_of
      subst e2
      obtain ⟨w, w1, w2⟩ := at_ xs i vs rfl h2 post
      exact .inr (.inl ⟨a1, vs, i, w, rfl, rfl, by rw [hK]; exact r.r.fh.stp h1, w1, w2⟩)
    | _ => exact (show False from post).elim
  | lst xs =>
    cases q with
    | int i =>
      obtain ⟨a1, vs, rfl, h1, h2⟩ := rp.lst_of
      have e2 := rq.int_of
      subst e2
      obtain ⟨w, w1, w2⟩ := at_ xs i vs rfl h2 post
      exact .inl ⟨a1, vs, i, w, rfl, rfl, .inl (r.r.fh.rd h1), w1, w2⟩
    | _ => exact (show False from post).elim
  | _ => exact (show False from post).elim
theorem cut_eq (n d : Nat) (o : Option Int) : cutAt n d o = HT.sIx n d o := by
  cases o with
  | none => rfl
  | some v =>
    unfold cutAt HT.sIx
    first
      | rfl
      | (show (if v < 0 then (v + n).toNat else min v.toNat n) = _
         split <;> split <;> omega)
      | (simp only []
         split <;> omega)
theorem reps_cut {xs : List PV} {vs : List V} (h : Reps Z.K F ι xs vs) (lo hi : Option Int) : Reps Z.K F ι (cutP xs lo hi) (cutV vs lo hi) := by
  unfold cutP cutV
  rw [cut_eq, cut_eq, h.len]
  exact (h.drop _).take _
theorem cut_whole (xs : List PV) (lo hi : Option Int) (h : HT.sIx xs.length 0 lo = 0 ∧ HT.sIx xs.length xs.length hi = xs.length) : cutP xs lo hi = xs := by
  unfold cutP
  rw [cut_eq, cut_eq, h.1, h.2]
  simp
/-- a list's slice -/
theorem sl_listR : SlR X (fun x lo hi H Q => ∃ a xs, x = .ref a ∧ Rd H a (.lst xs) ∧ ∀ p, H p = none → Q (.ref p) (upd H p (.lst (cutV xs lo hi)))) := by
  intro pins s σ H x v vl vu lo hi sl Q I rx hs pl pu h
  obtain ⟨a, xs, e, h1, h2⟩ := h
  exact sl_list pins s σ H x v vl vu lo hi sl Q I rx hs pl pu ⟨a, xs, e, .inl h1, h2⟩
def rSl (Z : Fx) : V → Option Int → Option Int → Hp → VK → Prop := fun x lo hi H Q => ∃ P F0 F ι σ ρ st a, Rel Z P F0 F ι σ H ρ st ∧ Rep Z.K F ι a x ∧ VPost Z P F0 σ F ι ρ st Q (slP a lo hi)
theorem sl_ok (hK : X.K = Z.K) : SlR X (rSl Z) := by
  intro pins s σ0 H x v vl vu lo hi sl Q I rx hs pl pu h
  obtain ⟨P, F0, F, ι, σ, ρ, st, a, r, ra, post⟩ := h
  cases a with
  | tup xs =>
    obtain ⟨a1, vs, rfl, h1, h2⟩ := ra.tup_of
    refine sl_tupA pins s σ0 H _ v vl vu lo hi sl Q I rx hs pl pu ⟨a1, vs, rfl, by rw [hK]; exact r.r.fh.stp h1, fun hw => ?_, fun _ p hp => VPost.tup (xs := cutP xs lo hi) post r (reps_cut h2 lo hi) hp⟩
    rw [h2.len] at hw
    have e := cut_whole xs lo hi hw
    have p2 : VPost Z P F0 σ F ι ρ st Q (some (.tup (cutP xs lo hi))) := post
    rw [e] at p2
    exact p2.here r ra
  | lst xs =>
    obtain ⟨a1, vs, rfl, h1, h2⟩ := ra.lst_of
    exact sl_listR pins s σ0 H _ v vl vu lo hi sl Q I rx hs pl pu ⟨a1, vs, rfl, r.r.fh.rd h1, fun p hp => VPost.lst (xs := cutP xs lo hi) post r (reps_cut h2 lo hi) hp⟩
  | _ => exact (show False from post).elim

/-! ### built-in functions -/
def rB (Z : Fx) (f : List PV → Option PV) : List V → Hp → VK → Prop := fun vs H Q => ∃ P F0 F ι σ ρ st xs, Rel Z P F0 F ι σ H ρ st ∧ Reps Z.K F ι xs vs ∧ VPost Z P F0 σ F ι ρ st Q (f xs)
theorem cr_len (hK : X.K = Z.K) : CallR X (.builtin "len") (rB Z (biP .len)) := by
  refine cr_imp call_len_seq fun vs H Q h => ?_
  obtain ⟨P, F0, F, ι, σ, ρ, st, xs, r, rs, p⟩ := h
  match xs, rs, p with
  | [x], rs, p =>
    obtain ⟨v, rfl, rv⟩ := rs.one
    cases x with
    | tup ys =>
      obtain ⟨a, ws, rfl, h1, h2⟩ := rv.tup_of
      exact ⟨a, ws, rfl, .inr (by rw [hK]; exact r.r.fh.stp h1), by rw [h2.len]; exact VPost.here (x := .int ys.length) p r .int⟩
    | lst ys =>
      obtain ⟨a, ws, rfl, h1, h2⟩ := rv.lst_of
      exact ⟨a, ws, rfl, .inl (.inl (r.r.fh.rd h1)), by rw [h2.len]; exact VPost.here (x := .int ys.length) p r .int⟩
    | _ => exact (show False from p).elim
theorem cr_int1 : CallR X (.type "int") (rB Z (biP .int1)) := by
  refine cr_imp call_int1 fun vs H Q h => ?_
  obtain ⟨P, F0, F, ι, σ, ρ, st, xs, r, rs, p⟩ := h
  match xs, rs, p with
  | [x], rs, p =>
    obtain ⟨v, rfl, rv⟩ := rs.one
    cases x with
    | int i =>
      have e := rv.int_of
      subst e
      exact .inl ⟨i, rfl, VPost.here (x := .int _) p r .int⟩
    | bl i =>
      have e := rv.bl_of
      subst e
      exact .inr ⟨i, rfl, VPost.here (x := .int _) p r .int⟩
    | _ => exact (show False from p).elim
theorem ints_map : ∀ {xs : List PV} {ns : List Int}, intsO xs = some ns → xs = ns.map PV.int
  | [], ns, h => by cases h; rfl
  | .int i :: r, ns, h => by
    unfold intsO at h
    cases e : intsO r with
    | none => rw [e] at h; cases h
    | some ms => rw [e] at h; cases h; rw [ints_map e]; rfl
  | .non :: _, _, h | .bl _ :: _, _, h | .str _ :: _, _, h | .tup _ :: _, _, h | .lst _ :: _, _, h | .ob _ :: _, _, h => by cases h
theorem bools_map : ∀ {xs : List PV} {ns : List Bool}, boolsO xs = some ns → xs = ns.map PV.bl
  | [], ns, h => by cases h; rfl
  | .bl i :: r, ns, h => by
    unfold boolsO at h
    cases e : boolsO r with
    | none => rw [e] at h; cases h
    | some ms => rw [e] at h; cases h; rw [bools_map e]; rfl
  | .non :: _, _, h | .int _ :: _, _, h | .str _ :: _, _, h | .tup _ :: _, _, h | .lst _ :: _, _, h | .ob _ :: _, _, h => by cases h
theorem maxI_mem : ∀ (r : List Int) (m : Int), maxI m r ∈ m :: r
  | [], m => List.mem_cons_self
  | x :: r, m => by
    unfold maxI
    split
    · exact List.mem_cons_of_mem _ (maxI_mem r x)
    · rcases List.mem_cons.mp (maxI_mem r m) with e | e
      · rw [e]; exact List.mem_cons_self
      · exact List.mem_cons_of_mem _ (List.mem_cons_of_mem _ e)
theorem maxI_le : ∀ (r : List Int) (m y : Int), y ∈ m :: r → y ≤ maxI m r
  | [], m, y, h => by simp at h; subst h; exact Int.le_refl _
  | x :: r, m, y, h => by
    unfold maxI
    rcases List.mem_cons.mp h with e | h
    · subst e
      split
      · have := maxI_le r x x List.mem_cons_self; omega
      · exact maxI_le r y y List.mem_cons_self
    · rcases List.mem_cons.mp h with e | h
      · subst e
        split
        · exact maxI_le r y y List.mem_cons_self
        · have := maxI_le r m m List.mem_cons_self; omega
      · split <;> exact maxI_le r _ y (List.mem_cons_of_mem _ h)
theorem minI_mem : ∀ (r : List Int) (m : Int), minI m r ∈ m :: r
  | [], m => List.mem_cons_self
  | x :: r, m => by
    unfold minI
    split
    · exact List.mem_cons_of_mem _ (minI_mem r x)
    · rcases List.mem_cons.mp (minI_mem r m) with e | e
      · rw [e]; exact List.mem_cons_self
      · exact List.mem_cons_of_mem _ (List.mem_cons_of_mem _ e)
theorem minI_le : ∀ (r : List Int) (m y : Int), y ∈ m :: r → minI m r ≤ y
  | [], m, y, h => by simp at h; subst h; exact Int.le_refl _
  | x :: r, m, y, h => by
    unfold minI
    rcases List.mem_cons.mp h with e | h
    · subst e
      split
      · have := minI_le r x x List.mem_cons_self; omega
      · exact minI_le r y y List.mem_cons_self
    · rcases List.mem_cons.mp h with e | h
      · subst e
        split
        · exact minI_le r y y List.mem_cons_self
        · have := minI_le r m m List.mem_cons_self; omega
      · split <;> exact minI_le r _ y (List.mem_cons_of_mem _ h)
theorem onL_of {f : List PV → Option PV} {vs : List V} (h : rB Z (onL f) vs H Q) :
    ∃ P F0 F ι σ ρ st a ys ws, Rel Z P F0 F ι σ H ρ st ∧ vs = [V.ref a] ∧ Rd H a (.lst ws) ∧ Reps Z.K F ι ys ws ∧ VPost Z P F0 σ F ι ρ st Q (f ys) := by
  obtain ⟨P, F0, F, ι, σ, ρ, st, xs, r, rs, p⟩ := h
  match xs, rs, p with
  | [x], rs, p =>
    cases x with
    | lst ys =>
      obtain ⟨v, rfl, rv⟩ := rs.one
      obtain ⟨a, ws, rfl, h1, h2⟩ := rv.lst_of
      exact ⟨P, F0, F, ι, σ, ρ, st, a, ys, ws, r, rfl, r.r.fh.rd h1, h2, p⟩
    | _ => exact (show False from p).elim
/-- one list of intsO -/
theorem intsArg {f : List Int → Option PV} {vs : List V} (h : rB Z (onL fun xs => (intsO xs).bind f) vs H Q) :
    ∃ P F0 F ι σ ρ st a ns, Rel Z P F0 F ι σ H ρ st ∧ vs = [V.ref a] ∧ Rd H a (.lst (ns.map V.int)) ∧ VPost Z P F0 σ F ι ρ st Q (f ns) := by
  obtain ⟨P, F0, F, ι, σ, ρ, st, a, ys, ws, r, rfl, h1, h2, p⟩ := onL_of h
  cases e : intsO ys with
  | none => rw [e] at p; exact (show False from p).elim
  | some ns =>
    rw [e] at p
    rw [ints_map e] at h2
    rw [reps_ints h2] at h1
    exact ⟨P, F0, F, ι, σ, ρ, st, a, ns, r, rfl, h1, p⟩
theorem boolsArg {f : List Bool → Option PV} {vs : List V} (h : rB Z (onL fun xs => (boolsO xs).bind f) vs H Q) :
    ∃ P F0 F ι σ ρ st a ns, Rel Z P F0 F ι σ H ρ st ∧ vs = [V.ref a] ∧ Rd H a (.lst (ns.map V.bl)) ∧ VPost Z P F0 σ F ι ρ st Q (f ns) := by
  obtain ⟨P, F0, F, ι, σ, ρ, st, a, ys, ws, r, rfl, h1, h2, p⟩ := onL_of h
  cases e : boolsO ys with
  | none => rw [e] at p; exact (show False from p).elim
  | some ns =>
    rw [e] at p
    rw [bools_map e] at h2
    rw [reps_bools h2] at h1
    exact ⟨P, F0, F, ι, σ, ρ, st, a, ns, r, rfl, h1, p⟩
theorem on2_of {f : Int → Int → Option PV} {vs : List V} (h : rB Z (on2I f) vs H Q) :
    ∃ P F0 F ι σ ρ st i j, Rel Z P F0 F ι σ H ρ st ∧ vs = [V.int i, V.int j] ∧ VPost Z P F0 σ F ι ρ st Q (f i j) := by
  obtain ⟨P, F0, F, ι, σ, ρ, st, xs, r, rs, p⟩ := h
  match xs, rs, p with
  | [x, y], rs, p =>
    cases x with
    | int i =>
      cases y with
      | int j =>
        obtain ⟨v, w, rfl, rv, rw'⟩ := rs.two
        have e1 := rv.int_of
        have e2 := rw'.int_of
        subst e1 e2
        exact ⟨P, F0, F, ι, σ, ρ, st, i, j, r, rfl, p⟩
      | _ => exact (show False from p).elim
    | _ => cases y <;> exact (show False from p).elim
theorem on1_of {f : Int → Option PV} {vs : List V} (h : rB Z (on1I f) vs H Q) :
    ∃ P F0 F ι σ ρ st i, Rel Z P F0 F ι σ H ρ st ∧ vs = [V.int i] ∧ VPost Z P F0 σ F ι ρ st Q (f i) := by
  obtain ⟨P, F0, F, ι, σ, ρ, st, xs, r, rs, p⟩ := h
  match xs, rs, p with
  | [x], rs, p =>
    cases x with
    | int i =>
      obtain ⟨v, rfl, rv⟩ := rs.one
      have e1 := rv.int_of
      subst e1
      exact ⟨P, F0, F, ι, σ, ρ, st, i, r, rfl, p⟩
    | _ => exact (show False from p).elim
theorem map_bind {α : Type} {o : Option α} {f : α → PV} : o.map f = o.bind fun x => some (f x) := by cases o <;> rfl
theorem rB_congr {f g : List PV → Option PV} {vs : List V} (e : f = g) (h : rB Z f vs H Q) : rB Z g vs H Q := by rw [← e]; exact h
theorem cr_abs : CallR X (.builtin "abs") (rB Z (biP .abs)) := by
  refine cr_imp call_abs fun vs H Q h => ?_
  obtain ⟨P, F0, F, ι, σ, ρ, st, i, r, rfl, p⟩ := on1_of h
  exact ⟨i, rfl, VPost.here (x := .int _) p r .int⟩
theorem cr_sumP (hc : X.calm = true) : CallR X (.builtin "sum") (rB Z (biP .sum)) := by
  refine cr_imp (cr_sum hc) fun vs H Q h => ?_
  obtain ⟨P, F0, F, ι, σ, ρ, st, a, ns, r, rfl, h1, p⟩ := intsArg (rB_congr (g := onL fun xs => (intsO xs).bind fun ns => some (.int ns.sum)) (by funext xs; simp only [biP, map_bind]) h)
  exact ⟨a, ns, rfl, .inl h1, VPost.here (x := .int _) p r .int⟩
theorem cr_allP (hc : X.calm = true) : CallR X (.builtin "all") (rB Z (biP .all)) := by
  refine cr_imp (cr_all hc) fun vs H Q h => ?_
  obtain ⟨P, F0, F, ι, σ, ρ, st, a, ns, r, rfl, h1, p⟩ := boolsArg (rB_congr (g := onL fun xs => (boolsO xs).bind fun bs => some (.bl (bs.all id))) (by funext xs; simp only [biP, map_bind]) h)
  exact ⟨a, ns, rfl, .inl h1, VPost.here (x := .bl _) p r .bl⟩
theorem cr_anyP (hc : X.calm = true) : CallR X (.builtin "any") (rB Z (biP .any)) := by
  refine cr_imp (cr_any hc) fun vs H Q h => ?_
  obtain ⟨P, F0, F, ι, σ, ρ, st, a, ns, r, rfl, h1, p⟩ := boolsArg (rB_congr (g := onL fun xs => (boolsO xs).bind fun bs => some (.bl (bs.any id))) (by funext xs; simp only [biP, map_bind]) h)
  exact ⟨a, ns, rfl, .inl h1, VPost.here (x := .bl _) p r .bl⟩
theorem cr_maxP (hc : X.calm = true) : CallR X (.builtin "max") (fun vs H Q => rB Z (biP .maxL) vs H Q ∨ rB Z (biP .max2) vs H Q) := by
  refine CallR.or (cr_imp (cr_max hc) fun vs H Q h => ?_) (cr_imp (call_max2 hc) fun vs H Q h => ?_)
  · obtain ⟨P, F0, F, ι, σ, ρ, st, a, ns, r, rfl, h1, p⟩ := intsArg h
    cases ns with
    | nil => exact (show False from p).elim
    | cons n ns =>
      refine ⟨a, n :: ns, rfl, .inl h1, by simp, fun m hm hle => ?_⟩
      have e : m = maxI n ns := Int.le_antisymm (maxI_le ns n m hm) (hle _ (maxI_mem ns n))
      rw [e]; exact VPost.here (x := .int _) p r .int
  · obtain ⟨P, F0, F, ι, σ, ρ, st, i, j, r, rfl, p⟩ := on2_of h
    exact ⟨i, j, rfl, VPost.here (x := .int _) p r .int⟩
theorem cr_minP (hc : X.calm = true) : CallR X (.builtin "min") (fun vs H Q => rB Z (biP .minL) vs H Q ∨ rB Z (biP .min2) vs H Q) := by
  refine CallR.or (cr_imp (cr_min hc) fun vs H Q h => ?_) (cr_imp (call_min2 hc) fun vs H Q h => ?_)
  · obtain ⟨P, F0, F, ι, σ, ρ, st, a, ns, r, rfl, h1, p⟩ := intsArg h
    cases ns with
    | nil => exact (show False from p).elim
    | cons n ns =>
      refine ⟨a, n :: ns, rfl, .inl h1, by simp, fun m hm hle => ?_⟩
      have e : m = minI n ns := Int.le_antisymm (hle _ (minI_mem ns n)) (minI_le ns n m hm)
      rw [e]; exact VPost.here (x := .int _) p r .int
  · obtain ⟨P, F0, F, ι, σ, ρ, st, i, j, r, rfl, p⟩ := on2_of h
    exact ⟨i, j, rfl, VPost.here (x := .int _) p r .int⟩
theorem cr_tupleP (hK : X.K = Z.K) : CallR X (.type "tuple") (rB Z (biP .tuple)) := by
  refine cr_imp call_tuple_of fun vs H Q h => ?_
  obtain ⟨P, F0, F, ι, σ, ρ, st, xs, r, rs, p⟩ := h
  match xs, rs, p with
  | [x], rs, p =>
    obtain ⟨v, rfl, rv⟩ := rs.one
    cases x with
    | tup ys =>
      obtain ⟨a, ws, rfl, h1, h2⟩ := id rv.tup_of
      exact ⟨a, ws, rfl, .inr ⟨by rw [hK]; exact r.r.fh.stp h1, VPost.here (x := .tup ys) p r rv⟩⟩
    | lst ys =>
      obtain ⟨a, ws, rfl, h1, h2⟩ := rv.lst_of
      exact ⟨a, ws, rfl, .inl ⟨.inl (r.r.fh.rd h1), fun l hl => VPost.tup (xs := ys) p r h2 hl⟩⟩
    | _ => exact (show False from p).elim
theorem cr_listP (hK : X.K = Z.K) : CallR X (.type "list") (rB Z (biP .list)) := by
  refine cr_imp call_list_of fun vs H Q h => ?_
  obtain ⟨P, F0, F, ι, σ, ρ, st, xs, r, rs, p⟩ := h
  match xs, rs, p with
  | [x], rs, p =>
    obtain ⟨v, rfl, rv⟩ := rs.one
    cases x with
    | tup ys =>
      obtain ⟨a, ws, rfl, h1, h2⟩ := rv.tup_of
      exact ⟨a, ws, rfl, .inr (by rw [hK]; exact r.r.fh.stp h1), fun l hl => VPost.lst (xs := ys) p r h2 hl⟩
    | lst ys =>
      obtain ⟨a, ws, rfl, h1, h2⟩ := rv.lst_of
      exact ⟨a, ws, rfl, .inl (.inl (r.r.fh.rd h1)), fun l hl => VPost.lst (xs := ys) p r h2 hl⟩
    | _ => exact (show False from p).elim
/-! ### isinstance -/
def tyId : TyN → String
  | .int => "int" | .bool => "bool" | .tuple => "tuple" | .str => "str" | .list => "list"
theorem ty_of (hK : X.K = Z.K) {a : PV} {x : V} (hF : Sb F H) (h : Rep Z.K F ι a x) (t : TyN) (ho : ∀ n, a ≠ .ob n) : ∃ u, TyX X.K H x u ∧ PySem.W.kitOne X.K u (.type (tyId t)) = some (isiP t a) := by
  cases a with
  | non => rw [h.non_of]; exact ⟨_, .base .non, kit_ty (by cases t <;> (simp only [isiP, tyId]; decide +kernel))⟩
  | bl b => rw [h.bl_of]; exact ⟨_, .base (.bl b), kit_ty (by cases t <;> (simp only [isiP, tyId]; decide +kernel))⟩
  | int b => rw [h.int_of]; exact ⟨_, .base (.int b), kit_ty (by cases t <;> (simp only [isiP, tyId]; decide +kernel))⟩
  | str b => rw [h.str_of]; exact ⟨_, .base (.str b), kit_ty (by cases t <;> (simp only [isiP, tyId]; decide +kernel))⟩
  | tup xs =>
    obtain ⟨a, ws, rfl, h1, h2⟩ := h.tup_of
    refine ⟨.type "tuple", ?_, kit_ty (by cases t <;> (simp only [isiP, tyId]; decide +kernel))⟩
    rcases hF.stp h1 with (h1 | ⟨o, h1⟩) | ⟨o, its, n, q1, q2, q3⟩
    · exact .base (.tup h1)
    · exact .fTuple h1
    · exact .kTuple (by rw [hK]; exact q1) q2
  | lst xs =>
    obtain ⟨a, ws, rfl, h1, h2⟩ := h.lst_of
    refine ⟨.type "list", ?_, kit_ty (by cases t <;> (simp only [isiP, tyId]; decide +kernel))⟩
    rcases hF.rd h1 with h1 | ⟨o, h1⟩
    · exact .base (.lst h1)
    · exact .base (.frz h1)
  | ob n => exact absurd rfl (ho n)
/-- isinstance(x, T) -/
theorem cr_isi (hK : X.K = Z.K) (t : TyN) : CallR X (.builtin "isinstance") (fun vs H Q => ∃ v, vs = [v, .ty (tyId t)] ∧ rB Z (biP (.isi t)) [v] H Q) := by
  refine cr_imp call_isi fun vs H Q h => ?_
  obtain ⟨v, rfl, P, F0, F, ι, σ, ρ, st, xs, r, rs, p⟩ := h
  match xs, rs, p with
  | [x], rs, p =>
    obtain ⟨v', e, rv⟩ := rs.one
    cases e
    have ho : ∀ n, x ≠ .ob n := fun n e => by subst e; exact p
    obtain ⟨u, u1, u2⟩ := ty_of hK r.r.fh rv t ho
    have p' : VPost Z P F0 σ F ι ρ st Q (some (.bl (isiP t x))) := by
      cases x <;> first | exact p | exact absurd rfl (ho _)
    exact ⟨v, .ty (tyId t), u, .type (tyId t), _, rfl, .ty _, u1, u2, p'.here r .bl⟩
end
end Cv

set_option Elab.async false
set_option linter.all false
set_option maxRecDepth 100000
set_option maxHeartbeats 4000000
/-! Core6: from the model's syntax to the small one, and that the readings agree: expressions. -/
namespace Cv
open PySem PySem.Spec PyProof.Rows L2
structure CC where
  N : List Str
  fns : List (Str × List Str)
  gl : List (Str × PV)
  bl : List Str
  /-- written dicts of texts -/
  dts : List (Str × List (Str × PV)) := []
  /-- defs that tell an error's field: the error's class (its number), what they tell if there is none -/
  rfs : List (Str × Nat × PV) := []
  /-- the classes of errors -/
  exn : List Str := []
  /-- the def that makes lambdas -/
  mks : Option Scope := none
  /-- calls by keywords: the def, the keywords as written, where each parameter stands among them -/
  kws : List (Nat × List Str × List Nat) := []
def nIxG (N : List Str) (x : Str) : Nat → Option Nat := fun n => match N with
  | [] => none
  | y :: r => if y = x then some n else nIxG r x (n + 1)
def nIx (N : List Str) (x : Str) : Option Nat := nIxG N x 0
theorem nIxG_ok : ∀ {N : List Str} {x : Str} {n i : Nat}, nIxG N x n = some i → n ≤ i ∧ N[i - n]? = some x
  | y :: r, x, n, i, h => by
    unfold nIxG at h
    by_cases e : y = x
    · rw [if_pos e] at h; cases h; subst e; simp
    · rw [if_neg e] at h
      obtain ⟨h1, h2⟩ := nIxG_ok h
      refine ⟨by omega, ?_⟩
      obtain ⟨k, rfl⟩ : ∃ k, i = n + 1 + k := ⟨i - (n + 1), by omega⟩
      have e1 : n + 1 + k - (n + 1) = k := by omega
      have e2 : n + 1 + k - n = k + 1 := by omega
      rw [e1] at h2
      rw [e2]; simpa using h2
  | [], _, _, _, h => by cases h
theorem nIx_ok {N : List Str} {x : Str} {i : Nat} (h : nIx N x = some i) : N[i]? = some x := by simpa using (nIxG_ok h).2
def fnIxG (x : Str) : List (Str × List Str) → Nat → Option (Nat × List Str)
  | [], _ => none
  | (y, ps) :: r, n => if y = x then some (n, ps) else fnIxG x r (n + 1)
theorem fnIx_ok {x : Str} : ∀ {l : List (Str × List Str)} {n i : Nat} {ps : List Str}, fnIxG x l n = some (i, ps) → n ≤ i ∧ l[i - n]? = some (x, ps)
  | (y, qs) :: r, n, i, ps, h => by
    unfold fnIxG at h
    by_cases e : y = x
    · rw [if_pos e] at h; cases h; subst e; simp
    · rw [if_neg e] at h
      obtain ⟨h1, h2⟩ := fnIx_ok h
      refine ⟨by omega, ?_⟩
      obtain ⟨k, rfl⟩ : ∃ k, i = n + 1 + k := ⟨i - (n + 1), by omega⟩
      have e1 : n + 1 + k - (n + 1) = k := by omega
      have e2 : n + 1 + k - n = k + 1 := by omega
      rw [e1] at h2
      rw [e2]; simpa using h2
  | [], _, _, _, h => by cases h
def visB (sc : Scope) (x : Str) : Bool := match sc.names.lookup x with
  | some .local | some .cell | some .free => true
  | _ => false
def glbB (sc : Scope) (x : Str) : Bool := match sc.names.lookup x with
  | some .globalImplicit => true
  | _ => false
def plainN (x : Str) : Bool := !(x == ("__debug__" : Str)) && !(x == ("__classdict__" : Str)) && !(x == ("__name__" : Str))
theorem visB_ok {sc : Scope} {x : Str} (h : visB sc x = true) : Vis sc x := by
  unfold visB at h
  split at h
  · exact .inl (by assumption)
  · exact .inr (.inl (by assumption))
  · exact .inr (.inr (by assumption))
  · cases h
theorem glbB_ok {X : Cx} {x : Str} (h : glbB X.env.scope x = true) : Gl X x := by
  unfold glbB at h
  split at h
  · assumption
  · cases h
theorem plainN_ok {x : Str} (h : plainN x = true) : (x == ("__debug__" : Str)) = false ∧ (x == ("__classdict__" : Str)) = false ∧ x ≠ "__name__" := by
  unfold plainN at h
  simp only [Bool.and_eq_true, Bool.not_eq_true'] at h
  exact ⟨h.1.1, h.1.2, beq_eq_false_iff_ne.mp h.2⟩
def noStar : Expr → Bool
  | .Starred .. => false
  | _ => true
theorem star_cons {e : Expr} {es : List Expr} {env : PySem.Env} (h : noStar e = true) : starEach (e :: es) env = (false, eval e env) :: starEach es env := by
  cases e <;> first | rfl | cases h
theorem star_plain {env : PySem.Env} {pos : Pos} : ∀ {es : List Expr}, es.all noStar = true → (backTo pos (starEach es env)).any (·.1) = false
  | [], _ => rfl
  | e :: es, h => by
    have h' : (noStar e && es.all noStar) = true := h
    rw [Bool.and_eq_true] at h'
    rw [star_cons h'.1]
    show (false || (backTo pos (starEach es env)).any (·.1)) = false
    rw [star_plain h'.2]; rfl
def isSet : Expr → Bool
  | .Set .. => true
  | _ => false
theorem noFold {e : Expr} {env : PySem.Env} (h : isSet e = false) : ∀ x, foldedSetIterable e env x = pure x := by
  intro x; cases e <;> first | rfl | cases h
theorem noMark {op : CmpOp} {e : Expr} (h : isSet e = false) : behindInMarks op e = false := by
  cases e <;> first | rfl | cases h

abbrev Rc := Bool → Scope → Expr → Option Ce
def cmpL (f : Expr → Option Ce) : List Expr → Option Ce
  | [] => some .nil
  | e :: es => match f e with
    | some a => (match cmpL f es with
      | some b => some (.cons a b)
      | none => none)
    | none => none
def jn (o : BoolOp) (a b : Ce) : Ce := match o with
  | .And => .and a b
  | .Or => .or a b
def boolL (f : Expr → Option Ce) (o : BoolOp) : List Expr → Option Ce
  | [] => none
  | e :: es => match es with
    | [] => f e
    | _ :: _ => match f e with
      | some a => (match boolL f o es with
        | some b => some (jn o a b)
        | none => none)
      | none => none
def cmpC (f : Expr → Option Ce) (a : Expr) (os : List CmpOp) (bs : List Expr) : Option Ce := match os, bs with
  | [o], [b] => if isSet b then none else (match f a, f b with
    | some a, some b => some (.cmp (isCmp o) a b)
    | _, _ => none)
  | [o, o'], [b, c] => if isSet c then none else (match f a, f b, f c with
    | some a, some b, some c => some (.chain (isCmp o) (isCmp o') a b c)
    | _, _, _ => none)
  | _, _ => none
def constP : Const → Option PV
  | .none => some .non
  | .bool b => some (.bl b)
  | .int i => some (.int i)
  | .str s => some (.str s)
  | _ => none
def oneOf (f : Expr → Option Ce) (b : BI) : List Expr → Option Ce
  | [e] => (f e).map fun a => .bi b (.cons a .nil)
  | _ => none
def tyOf (x : Str) : Option TyN := if x = ("int" : Str) then some .int else if x = ("bool" : Str) then some .bool else if x = ("tuple" : Str) then some .tuple else if x = ("str" : Str) then some .str else if x = ("list" : Str) then some .list else none
def cmpBi (C : CC) (sc : Scope) (f : Expr → Option Ce) (x : Str) (as : List Expr) : Option Ce :=
  if x = ("len" : Str) then (match as with
    | [e] => (match e with
      | .Name y _ => if visB sc y && plainN y then (nIx C.N y).map .leno else none
      | e => (f e).map fun a => .bi .len (.cons a .nil))
    | _ => none)
  else if x = ("isinstance" : Str) then (match as with
    | [e, t] => (match t with
      | .Name y _ => if glbB sc y && plainN y && C.bl.contains y then (match tyOf y, f e with
        | some t, some a => some (.bi (.isi t) (.cons a .nil))
        | _, _ => none) else none
      | _ => none)
    | _ => none)
  else if x = ("max" : Str) then (match as with
    | [e] => (f e).map fun a => .bi .maxL (.cons a .nil)
    | [e, d] => (match f e, f d with
      | some a, some b => some (.bi .max2 (.cons a (.cons b .nil)))
      | _, _ => none)
    | _ => none)
  else if x = ("min" : Str) then (match as with
    | [e] => (f e).map fun a => .bi .minL (.cons a .nil)
    | [e, d] => (match f e, f d with
      | some a, some b => some (.bi .min2 (.cons a (.cons b .nil)))
      | _, _ => none)
    | _ => none)
  else if x = ("abs" : Str) then oneOf f .abs as
  else if x = ("int" : Str) then oneOf f .int1 as
  else if x = ("all" : Str) then oneOf f .all as
  else if x = ("any" : Str) then oneOf f .any as
  else if x = ("sum" : Str) then oneOf f .sum as
  else if x = ("tuple" : Str) then oneOf f .tuple as
  else if x = ("list" : Str) then oneOf f .list as
  else none
def cmpCall (C : CC) (sc : Scope) (f : Expr → Option Ce) (x : Str) (as : List Expr) (kws : List Keyword) : Option Ce :=
  if glbB sc x && plainN x && as.all noStar && kws.isEmpty then
    (match fnIxG x C.fns 0 with
    | some (i, ps) => if as.length = ps.length then (cmpL f as).map (.call i) else none
    | none => if C.bl.contains x then cmpBi C sc f x as else none)
  else none
def cmpO (f : Expr → Option Ce) : Option Expr → Option Ce
  | none => some .nil
  | some e => (f e).map fun a => .cons a .nil
def cmpV (C : CC) (r : Rc) (sc : Scope) : Expr → Option Ce
  | .Constant k _ _ => (constP k).map .c
  | .Name x _ => if plainN x then (if visB sc x then (nIx C.N x).map .v else if glbB sc x then (C.gl.lookup x).map .c else none) else none
  | .BinOp a o b _ => match isArith o, r false sc a, r false sc b with
    | some o, some a, some b => some (.bin o a b)
    | _, _, _ => none
  | .UnaryOp o a _ => match o with
    | .USub => (r false sc a).map .neg
    | .Not => (r false sc a).map .not
    | _ => none
  | .BoolOp o es _ => boolL (r false sc) o es
  | .Compare a os bs _ => cmpC (r false sc) a os bs
  | .IfExp c a b _ => match r true sc c, r false sc a, r false sc b with
    | some c, some a, some b => some (.ife c a b)
    | _, _, _ => none
  | .Tuple es _ _ => if es.all noStar then (cmpL (r false sc) es).map .tup else none
  | .List es _ => if es.all noStar then (cmpL (r false sc) es).map .lst else none
  | .Subscript a b _ => match b with
    | .Slice lo hi st _ => (match st with
      | none => (match r false sc a, cmpO (r false sc) lo, cmpO (r false sc) hi with
        | some a, some l, some h => some (.sl a l h)
        | _, _, _ => none)
      | some _ => none)
    | b => match a with
      | .Name x _ => if visB sc x && plainN x then (match nIx C.N x, r false sc b with
        | some i, some b => some (.ixo i b)
        | _, _ => none) else (match r false sc a, r false sc b with
        | some a, some b => some (.ix a b)
        | _, _ => none)
      | a => match r false sc a, r false sc b with
        | some a, some b => some (.ix a b)
        | _, _ => none
  | .Call g as kws _ => match g with
    | .Name x _ => cmpCall C sc (r false sc) x as kws
    | _ => none
  | _ => none

/-! ### the context -/
def CPost (Z : Fx) (P F : Hp) (ι : List Addr) (Q : VK) (E : XK) : Res → Prop
  | .ok x st => ∀ F' ι' H' v, Sb F F' → Ex ι ι' → Rel0 Z P F F' ι' H' st → Rep Z.K F' ι' x v → Q v H'
  | .ex c x st => ∀ cls d H', ExnOk Z P F F ι c x st cls d H' → E cls d H'
  | .fail => False
/-- what a def promises: it hands back what the plain reading f of the i-th def tells -/
def spD (Z : Fx) (f : Cl) (i np : Nat) : Sp := fun vs H Q E => ∃ P F ι st xs, Rel0 Z P F F ι H st ∧ Reps Z.K F ι xs vs ∧ xs.length = np ∧ CPost Z P F ι Q E (f i xs st)
/-- how keywords bind -/
def KB (fd : FuncData) (ps ks : List Str) (gp : List Nat) : Prop := gp.length = ps.length ∧ (∀ j ∈ gp, j < ks.length) ∧
  ∀ ws : List Value, ws.length = ks.length → bindArgs fd ⟨[], ks.zip ws⟩ = pure (ps.zip (gp.map fun j => ws.getD j .none))
/-- a def that calls what it got: an error's field, or els -/
def TRf (Z : Fx) (k : Nat) (els : PV) : (XK → Hp → VK → Prop) → Hp → VK → Prop := fun tl H Q => ∃ w, (∀ F ι, Rep Z.K F ι els w) ∧
  tl (fun cls d H' => ∃ CA fd v dx, Z.X[k]? = some (CA, fd) ∧ cls = .ref CA ∧ d = some dx ∧ H' dx = some (.xd [(fd, v)]) ∧ Q v H') H fun _ H' => Q w H'
def noArgs : Arguments := ⟨[], [], none, [], [], none, []⟩
def noPar : Arguments → Bool
  | ⟨[], [], none, [], [], none, []⟩ => true
  | _ => false
theorem noPar_ok {a : Arguments} (h : noPar a = true) : a = noArgs := by
  unfold noPar at h
  split at h
  · rfl
  · cases h
structure Cw (Z : Fx) (C : CC) (f : Cl) (lv : Nat) (sc : Scope) (X : Cx) (E : XK) : Prop where
  k : X.K = Z.K
  n : X.N = C.N
  sc : X.env.scope = sc
  calm : X.calm = true
  nd : C.N.Nodup
  tk : Takes X (fun cls d _ H => E cls d H)
  rm : Room (lv + 2) X.A
  bl : ∀ x, C.bl.contains x = true → X.mg x = none
  gl : ∀ x v, C.gl.lookup x = some v → ∃ u w, X.mg x = some u ∧ RelV w u ∧ ∀ F ι, Rep Z.K F ι v w
  fn : ∀ (i : Nat) (x : Str) (ps : List Str), C.fns[i]? = some (x, ps) → ∃ a fd, X.mg x = some (.ref a) ∧ PySem.W.keepIn X.K (.ref a) = true ∧ Binds X.K fd ps [] ∧
    FnOk X.prog X.w X.K X.mg X.base (L2.CX X.prog X.w) lv a fd ps (spD Z f i ps.length) ∧ ∀ ks gp, (i, ks, gp) ∈ C.kws → KB fd ps ks gp
  dt : ∀ x kvs, C.dts.lookup x = some kvs → ∃ a es n, X.mg x = some (.ref a) ∧ KDict X.K X.w a es n ∧ ∀ k, match kvs.lookup k with
    | some v => ∃ u w, PySem.W.nsIn X.K a k = some (some u) ∧ RelV w u ∧ ∀ F ι, Rep Z.K F ι v w
    | none => PySem.W.nsIn X.K a k = some none
  rf : C.mks = some X.env.scope → ∀ x k els, (x, k, els) ∈ C.rfs → Gl X x → ∀ (t : XK → TE) (body : Expr) (scope : Scope) (lpos p pos : Pos), LamX.lamSB X.env.scope scope = true →
    (∀ (A : Around) (outer : List PySem.Env) (s : Shared) (H : Hp) (E : XK) (f c' : Addr), Room (lv + 2) (A.deeper (LamX.lamEnv X scope s.heap.objs.size f c')) → PE (LamX.lamCx X A outer s H E scope f c') body (t E)) →
    PE X (.Call (.Name x p) [.Lambda noArgs body scope lpos] [] pos) (LamX.tLam Z.T (TRf Z k els) t)
/-- the one never tells more than the other -/
def Le (g f : Cl) : Prop := ∀ i xs st, g i xs st = .fail ∨ g i xs st = f i xs st
theorem Le.rfl' {f : Cl} : Le f f := fun _ _ _ => .inr rfl
theorem Le.noX {g f : Cl} (h : Le g f) : Le (noX g) f := fun i xs st => by
  unfold Cv.noX
  rcases h i xs st with e | e
  · rw [e]; exact .inl rfl
  · rw [e]
    cases f i xs st with
    | ok v s => exact .inr rfl
    | ex c v s => exact .inl rfl
    | fail => exact .inl rfl
section
variable {Z : Fx} {P F0 F F' H H' : Hp} {ι ι' : List Addr} {σ : L2.St} {ρ : Evn} {st st' : Sto} {Q : VK} {E : XK} {X : Cx} {C : CC} {f g : Cl} {lv : Nat} {sc : Scope}
/-- all that stands, but for the tables and what may be changed -/
def cut (ι : List Addr) (H : Hp) : Hp := fun a => if a ∈ ι then none else match H a with
  | some (.tbl _) => none
  | o => o
theorem cut_some {a : Addr} {o : HO} (h : cut ι H a = some o) : a ∉ ι ∧ (∀ ps, o ≠ .tbl ps) ∧ H a = some o := by
  unfold cut at h
  by_cases c : a ∈ ι
  · rw [if_pos c] at h; cases h
  · rw [if_neg c] at h
    split at h
    · cases h
    · rename_i q
      exact ⟨c, fun ps z => q ps (by rw [h, z]), h⟩
theorem cut_of {a : Addr} {o : HO} (h1 : a ∉ ι) (h2 : ∀ ps, o ≠ .tbl ps) (h : H a = some o) : cut ι H a = some o := by
  unfold cut
  rw [if_neg h1, h]
  cases o <;> first | rfl | exact absurd rfl (h2 _)
theorem cut_in {a : Addr} (h : a ∈ ι) : cut ι H a = none := by unfold cut; rw [if_pos h]
theorem cut_tb : NoTb (cut ι H) := fun a ps e => (cut_some e).2.1 ps rfl
theorem Rel0.enter (r : Rel0 Z P F0 F ι H st) : Rel0 Z (cut ι H) F F ι H st :=
  ⟨r.fh, fun a o h => (cut_some h).2.2, fun _ _ _ => rfl, .rfl', fun a h => ⟨cut_in h, (r.pi a h).2⟩, ⟨cut_tb, r.pt.2⟩, r.nd, r.tb, r.sto⟩
theorem Rel0.back (r : Rel0 Z P F0 F ι H st) (r' : Rel0 Z (cut ι H) F F' ι' H' st') (hs : Sb F F') : Rel0 Z P F0 F' ι' H' st' := by
  have inC : ∀ a o, P a = some o → cut ι H a = some o := fun a o e => by
    refine cut_of (fun z => ?_) (fun ps z => r.pt.1 a ps (by rw [e, z])) (r.ph a o e)
    rw [(r.pi a z).1] at e; cases e
  refine ⟨r'.fh, fun a o e => r'.ph a o (inC a o e), fun a o e => ?_, r.f0.tr hs, fun a h => ⟨?_, (r'.pi a h).2⟩, ⟨r.pt.1, r'.pt.2⟩, r'.nd, r'.tb, r'.sto⟩
  · rw [r'.pf a o (inC a o e)]; exact r.pf a o e
  · cases e : P a with
    | none => rfl
    | some o =>
      have := (r'.pi a h).1
      rw [inC a o e] at this; cases this
theorem Rel.back (r : Rel Z P F0 F ι σ H ρ st) (r' : Rel0 Z (cut ι H) F F' ι' H' st') (hs : Sb F F') (he : Ex ι ι') : Rel Z P F0 F' ι' σ H' ρ st' := by
  refine r.to (r.r.back r' hs) hs he fun a vs h1 h2 h3 h4 => ?_
  have c : cut ι H a = some (.lst vs) := cut_of h4 (fun ps z => by cases z) h1
  refine ⟨r'.ph _ _ c, by rw [r'.pf _ _ c]; exact h2, fun z => ?_⟩
  have := (r'.pi a z).1
  rw [c] at this; cases this
theorem ExnOk.back {c : Nat} {x : PV} {cls : Value} {d : Option Addr} (r : Rel0 Z P F0 F ι H st) (h : ExnOk Z (cut ι H) F F ι c x st' cls d H') : ExnOk Z P F0 F ι c x st' cls d H' := by
  obtain ⟨F', ι', dx, v, CA, fd, h1, h2, h3, h4⟩ := h
  exact ⟨F', ι', dx, v, CA, fd, h1, h2, r.back h3 h1, h4⟩
/-- a call of a def -/
theorem sp_of (hl : Le g f) (r : Rel Z P F0 F ι σ H ρ st) {xs : List PV} {vs : List V} (rs : Reps Z.K F ι xs vs) {i np : Nat} (hn : xs.length = np) (p : EPost Z P F0 σ F ι E Q (backD (g i xs st) ρ)) : spD Z f i np vs H Q E := by
  refine ⟨cut ι H, F, ι, st, xs, r.r.enter, rs, hn, ?_⟩
  rcases hl i xs st with e | e
  · rw [e] at p; exact p.elim
  · rw [e] at p
    cases q : f i xs st with
    | ok x st' =>
      rw [q] at p
      exact fun F' ι' H' v a b c d => p F' ι' H' v a b (r.back c a b) d
    | ex c x st' =>
      rw [q] at p
      exact fun cls d H' h => p cls d H' (h.back r.r)
    | fail => rw [q] at p; exact p.elim
theorem EPost.ret {x : PV} {v : V} (p : EPost Z P F0 σ F ι E Q (.ok [x] ρ st)) (r : Rel Z P F0 F ι σ H ρ st) (h : Rep Z.K F ι x v) : Q v H := p F ι H v .rfl' .rfl' r h

/-! ### what the recursion hands -/
structure Snd (Z : Fx) (C : CC) (f : Cl) (lv : Nat) (r : Rc) : Prop where
  st : ∀ b sc e c, r b sc e = some c → noStar e = true
  v : ∀ sc e c, r false sc e = some c → ∀ (X : Cx) (E : XK) (g : Cl), Cw Z C f lv sc X E → Le g f → PE X e (tE Z E g c)
  t : ∀ sc e c, r true sc e = some c → ∀ (X : Cx) (E : XK) (g : Cl), Cw Z C f lv sc X E → Le g f → PT X e (tTest (tE Z E g c))
variable {r : Rc}
theorem pa_snd (hr : Snd Z C f lv r) (w : Cw Z C f lv sc X E) (hl : Le g f) : ∀ {es : List Expr} {c : Ce}, cmpL (r false sc) es = some c → PA X es (tA Z E g c)
  | [], c, h => by
    cases h
    refine pa_imp pa_nil fun σ H Q q => ?_
    obtain ⟨P, F0, F, ι, ρ, st, rr, p⟩ := q
    exact p F ι H [] .rfl' .rfl' rr .nil
  | e :: es, c, h => by
    unfold cmpL at h
    cases h1 : r false sc e with
    | none => rw [h1] at h; cases h
    | some a =>
      rw [h1] at h
      cases h2 : cmpL (r false sc) es with
      | none => rw [h2] at h; cases h
      | some b =>
        rw [h2] at h
        cases h
        refine pa_imp (pa_cons (hr.v sc e a h1 X E g w hl) (pa_snd hr w hl h2) (star_cons (hr.st _ _ _ _ h1))) fun σ H Q q => ?_
        obtain ⟨P, F0, F, ι, ρ, st, rr, p⟩ := q
        refine ⟨P, F0, F, ι, ρ, st, rr, APost.b1 p fun x ρ1 st1 F1 ι1 H1 v1 s1 e1 r1 p1 q1 => ?_⟩
        refine ⟨P, F0, F1, ι1, ρ1, st1, r1, APost.bA q1 fun xs ρ2 st2 F2 ι2 H2 vs2 s2 e2 r2 p2 q2 => ?_⟩
        exact q2 F2 ι2 H2 _ .rfl' .rfl' r2 (.cons (p1.mono s2 e2) p2)
theorem PE.bin2 {ca cb : Ce} {k : PV → PV → Evn → Sto → ResE} {e : Expr} {rr : R2} {cc : Ce} (hp : PE X e (tOp rr (tE Z E g ca) (tE Z E g cb)))
    (hc : ∀ ρ st, evD cc g ρ st = (evD ca g ρ st).bind (d1 fun x ρ st => (evD cb g ρ st).bind (d1 fun y ρ st => k x y ρ st)))
    (hk : ∀ P F0 F ι σ ρ st H Q x y vx vy, Rel Z P F0 F ι σ H ρ st → Rep Z.K F ι x vx → Rep Z.K F ι y vy → EPost Z P F0 σ F ι E Q (k x y ρ st) → rr vx vy H Q) : PE X e (tE Z E g cc) := by
  refine pe_imp hp fun σ H Q q => ?_
  obtain ⟨P, F0, F, ι, ρ, st, r0, p⟩ := q
  rw [hc] at p
  refine ⟨P, F0, F, ι, ρ, st, r0, EPost.b1 p fun x ρ1 st1 F1 ι1 H1 v1 s1 e1 r1 p1 q1 => ?_⟩
  refine ⟨P, F0, F1, ι1, ρ1, st1, r1, EPost.b1 q1 fun y ρ2 st2 F2 ι2 H2 v2 s2 e2 r2 p2 q2 => ?_⟩
  exact hk P F0 F2 ι2 σ ρ2 st2 H2 Q x y v1 v2 r2 (p1.mono s2 e2) p2 q2
theorem units65 (w : Cw Z C f lv sc X E) : X.A.units + 65 < cLine := by have := w.rm.un; omega
theorem snd_bin (hr : Snd Z C f lv r) (w : Cw Z C f lv sc X E) (hl : Le g f) {a b : Expr} {ca cb : Ce} {op : Operator} {o : BO} {pos : Pos} (ho : isArith op = some o) (ha : r false sc a = some ca) (hb : r false sc b = some cb) :
    PE X (.BinOp a op b pos) (tE Z E g (.bin o ca cb)) :=
  PE.bin2 (pe_op (op_bin w.k ho) (hr.v _ _ _ ha X E g w hl) (hr.v _ _ _ hb X E g w hl)) (k := fun x y ρ st => givD (binP o x y) ρ st) (fun _ _ => rfl)
    fun P F0 F ι σ ρ st H Q x y vx vy r0 p1 p2 q => ⟨P, F0, F, ι, σ, ρ, st, x, y, r0, p1, p2, q.giv⟩
theorem snd_ix (hr : Snd Z C f lv r) (w : Cw Z C f lv sc X E) (hl : Le g f) {a b : Expr} {ca cb : Ce} {pos : Pos} (hp : PlainIx b) (ha : r false sc a = some ca) (hb : r false sc b = some cb) :
    PE X (.Subscript a b pos) (tE Z E g (.ix ca cb)) :=
  PE.bin2 (pe_ix (ix_ok w.k) (hr.v _ _ _ ha X E g w hl) (hr.v _ _ _ hb X E g w hl) hp) (k := fun x y ρ st => givD (ixP x y) ρ st) (fun _ _ => rfl)
    fun P F0 F ι σ ρ st H Q x y vx vy r0 p1 p2 q => ⟨P, F0, F, ι, σ, ρ, st, x, y, r0, p1, p2, q.giv⟩
theorem snd_cmp (hr : Snd Z C f lv r) (w : Cw Z C f lv sc X E) (hl : Le g f) {a b : Expr} {ca cb : Ce} {op : CmpOp} {pos : Pos} (hs : isSet b = false) (ha : r false sc a = some ca) (hb : r false sc b = some cb) :
    PE X (.Compare a [op] [b] pos) (tE Z E g (.cmp (isCmp op) ca cb)) :=
  PE.bin2 (pe_cmpR (op_cmp w.k (units65 w) op) (hr.v _ _ _ ha X E g w hl) (hr.v _ _ _ hb X E g w hl) (noMark hs)) (k := fun x y ρ st => givBD (cmpP (isCmp op) x y) ρ st) (fun _ _ => rfl)
    fun P F0 F ι σ ρ st H Q x y vx vy r0 p1 p2 q => ⟨P, F0, F, ι, σ, ρ, st, x, y, r0, p1, p2, q.givB⟩
theorem snd_cmpT (hr : Snd Z C f lv r) (w : Cw Z C f lv sc X E) (hl : Le g f) {a b : Expr} {ca cb : Ce} {op : CmpOp} {pos : Pos} (hs : isSet b = false) (ha : r false sc a = some ca) (hb : r false sc b = some cb) :
    PT X (.Compare a [op] [b] pos) (tTest (tE Z E g (.cmp (isCmp op) ca cb))) := by
  refine pt_imp (pt_cmpR (op_cmp w.k (units65 w) op) (hr.v _ _ _ ha X E g w hl) (hr.v _ _ _ hb X E g w hl) (noMark hs)) fun σ H Q q => ?_
  obtain ⟨P, F0, F, ι, ρ, st, r0, p⟩ := q
  refine ⟨P, F0, F, ι, ρ, st, r0, EPost.b1 p fun x ρ1 st1 F1 ι1 H1 v1 s1 e1 r1 p1 q1 => ?_⟩
  refine ⟨P, F0, F1, ι1, ρ1, st1, r1, EPost.b1 q1 fun y ρ2 st2 F2 ι2 H2 v2 s2 e2 r2 p2 q2 => ?_⟩
  exact ⟨P, F0, F2, ι2, σ, ρ2, st2, x, y, r2, p1.mono s2 e2, p2, q2.givB⟩
theorem chain_imp (hr : Snd Z C f lv r) (w : Cw Z C f lv sc X E) {ca cb cc : Ce} {op op' : CmpOp} {σ : L2.St} {H : Hp} {Q : VK} (q : tE Z E g (.chain (isCmp op) (isCmp op') ca cb cc) σ H Q) :
    tChain (rP Z fun a b => (cmpP (isCmp op) a b).map PV.bl) (rP Z fun a b => (cmpP (isCmp op') a b).map PV.bl) (tE Z E g ca) (tE Z E g cb) (tE Z E g cc) σ H Q := by
  obtain ⟨P, F0, F, ι, ρ, st, r0, p⟩ := q
  refine ⟨P, F0, F, ι, ρ, st, r0, EPost.b1 p fun x ρ1 st1 F1 ι1 H1 v1 s1 e1 r1 p1 q1 => ?_⟩
  refine ⟨P, F0, F1, ι1, ρ1, st1, r1, EPost.b1 q1 fun y ρ2 st2 F2 ι2 H2 v2 s2 e2 r2 p2 q2 => ?_⟩
  refine ⟨P, F0, F2, ι2, σ, ρ2, st2, x, y, r2, p1.mono s2 e2, p2, ?_⟩
  show VPost Z P F0 σ F2 ι2 ρ2 st2 _ ((cmpP (isCmp op) x y).map PV.bl)
  cases hx : cmpP (isCmp op) x y with
  | none => rw [hx] at q2; exact (show False from q2).elim
  | some t =>
    rw [hx] at q2
    have q3 : EPost Z P F0 σ F2 ι2 E Q (cnd t ((evD cc g ρ2 st2).bind (d1 fun z ρ st => givBD (cmpP (isCmp op') y z) ρ st)) (.ok [.bl false] ρ2 st2)) := q2
    intro F3 H3 v3 s3 r3 p3
    refine ⟨t, p3.bl_of, ?_⟩
    cases t with
    | true =>
      rw [if_pos rfl]
      have q4 : EPost Z P F0 σ F2 ι2 E Q ((evD cc g ρ2 st2).bind (d1 fun z ρ st => givBD (cmpP (isCmp op') y z) ρ st)) := q3
      refine ⟨P, F0, F3, ι2, ρ2, st2, r3, EPost.b1 (EPost.weak s3 .rfl' q4) fun z ρ4 st4 F4 ι4 H4 v4 s4 e4 r4 p4 q5 => ?_⟩
      exact ⟨P, F0, F4, ι4, σ, ρ4, st4, y, z, r4, (p2.mono (s3.tr s4) e4), p4, q5.givB⟩
    | false =>
      rw [if_neg Bool.false_ne_true]
      exact EPost.ret (EPost.weak s3 .rfl' (show EPost Z P F0 σ F2 ι2 E Q (.ok [.bl false] ρ2 st2) from q3)) r3 .bl
theorem lastM {op op' : CmpOp} {b c : Expr} (h : isSet c = false) : lastMarks [op, op'] [b, c] = false := by
  show behindInMarks op' c = false
  exact noMark h
theorem bool_imp {cb : Ce} {σ : L2.St} {H : Hp} {Q : VK} {P F0 F : Hp} {ι : List Addr} {ρ : Evn} {st : Sto} (r0 : Rel Z P F0 F ι σ H ρ st) (p : EPost Z P F0 σ F ι E Q ((evD cb g ρ st).bind (dB fun y ρ st => .ok [.bl y] ρ st))) : tE Z E g cb σ H Q :=
  ⟨P, F0, F, ι, ρ, st, r0, EPost.imp (EPost.bB p (Q1 := fun v H => Q v H) fun b ρ1 st1 F1 ι1 H1 s1 e1 r1 q1 => EPost.ret q1 r1 .bl) fun _ _ z => z⟩
theorem and_imp {ca cb : Ce} {σ : L2.St} {H : Hp} {Q : VK} (q : tE Z E g (.and ca cb) σ H Q) : tAndV (tE Z E g ca) (tE Z E g cb) σ H Q := by
  obtain ⟨P, F0, F, ι, ρ, st, r0, p⟩ := q
  refine ⟨P, F0, F, ι, ρ, st, r0, EPost.bB p fun b ρ1 st1 F1 ι1 H1 s1 e1 r1 q1 => ⟨b, rfl, ?_⟩⟩
  cases b with
  | true => rw [if_pos rfl]; exact bool_imp r1 q1
  | false => rw [if_neg Bool.false_ne_true]; exact EPost.ret q1 r1 .bl
theorem or_imp' {ca cb : Ce} {σ : L2.St} {H : Hp} {Q : VK} (q : tE Z E g (.or ca cb) σ H Q) : tOrV (tE Z E g ca) (tE Z E g cb) σ H Q := by
  obtain ⟨P, F0, F, ι, ρ, st, r0, p⟩ := q
  refine ⟨P, F0, F, ι, ρ, st, r0, EPost.bB p fun b ρ1 st1 F1 ι1 H1 s1 e1 r1 q1 => ⟨b, rfl, ?_⟩⟩
  cases b with
  | true => rw [if_pos rfl]; exact EPost.ret q1 r1 .bl
  | false => rw [if_neg Bool.false_ne_true]; exact bool_imp r1 q1
theorem boolL_some {fe : Expr → Option Ce} {o : BoolOp} {e e2 : Expr} {es : List Expr} {c : Ce} (h : boolL fe o (e :: e2 :: es) = some c) : ∃ a b, fe e = some a ∧ boolL fe o (e2 :: es) = some b ∧ c = jn o a b := by
  unfold boolL at h
  cases h1 : fe e with
  | none => simp [h1] at h
  | some a =>
    cases h2 : boolL fe o (e2 :: es) with
    | none => simp [h1, h2] at h
    | some b => simp [h1, h2] at h; exact ⟨a, b, rfl, rfl, h.symm⟩
theorem snd_bool (hr : Snd Z C f lv r) (w : Cw Z C f lv sc X E) (hl : Le g f) {o : BoolOp} {pos : Pos} : ∀ {es : List Expr} {c : Ce}, boolL (r false sc) o es = some c → PE X (.BoolOp o es pos) (tE Z E g c)
  | [], _, h => by cases h
  | [e], c, h => pe_one (hr.v _ _ _ h X E g w hl)
  | e :: e2 :: es, c, h => by
    obtain ⟨a, b, h1, h2, rfl⟩ := boolL_some h
    cases o with
    | And => exact pe_imp (pe_and (hr.v _ _ _ h1 X E g w hl) (snd_bool hr w hl h2)) fun σ H Q q => and_imp q
    | Or => exact pe_imp (pe_or (hr.v _ _ _ h1 X E g w hl) (snd_bool hr w hl h2)) fun σ H Q q => or_imp' q
/-- and, or as a test -/
theorem snd_boolT (hr : Snd Z C f lv r) (w : Cw Z C f lv sc X E) (hl : Le g f) {o : BoolOp} {pos : Pos} : ∀ {es : List Expr} {c : Ce}, boolL (r true sc) o es = some c → PW X (.BoolOp o es pos) (tTest (tE Z E g c))
  | [], _, h => by cases h
  | [e], c, h => by
    have := hr.t _ _ _ h X E g w hl
    cases o with
    | And => exact pw_and1 this
    | Or => exact pw_or1 this
  | e :: e2 :: es, c, h => by
    obtain ⟨a, b, h1, h2, rfl⟩ := boolL_some h
    cases o with
    | And =>
      refine pw_imp (pw_and (hr.t _ _ _ h1 X E g w hl) (snd_boolT hr w hl h2)) fun σ H Q q => ?_
      obtain ⟨P, F0, F, ι, ρ, st, r0, p⟩ := and_imp q
      refine ⟨P, F0, F, ι, ρ, st, r0, EPost.imp p fun v H1 z => ?_⟩
      obtain ⟨k, e1, z⟩ := z
      refine ⟨k, e1, ?_⟩
      cases k with
      | true => rw [if_pos rfl] at z ⊢; exact z
      | false =>
        rw [if_neg Bool.false_ne_true] at z ⊢
        obtain ⟨k', e', z⟩ := z
        cases e'
        exact z
    | Or =>
      refine pw_imp (pw_or (hr.t _ _ _ h1 X E g w hl) (snd_boolT hr w hl h2)) fun σ H Q q => ?_
      obtain ⟨P, F0, F, ι, ρ, st, r0, p⟩ := or_imp' q
      refine ⟨P, F0, F, ι, ρ, st, r0, EPost.imp p fun v H1 z => ?_⟩
      obtain ⟨k, e1, z⟩ := z
      refine ⟨k, e1, ?_⟩
      cases k with
      | true =>
        rw [if_pos rfl] at z ⊢
        obtain ⟨k', e', z⟩ := z
        cases e'
        exact z
      | false => rw [if_neg Bool.false_ne_true] at z ⊢; exact z
theorem snd_const {k : Const} {x : PV} {kk : Nat} {pos : Pos} (h : constP k = some x) : PE X (.Constant k kk pos) (tE Z E g (.c x)) := by
  have fin : ∀ {v : V} {σ : L2.St} {H : Hp} {Q : VK}, (∀ F ι, Rep Z.K F ι x v) → tE Z E g (.c x) σ H Q → tC v σ H Q := fun {v σ H Q} hv q => by
    obtain ⟨P, F0, F, ι, ρ, st, r0, p⟩ := q
    exact EPost.ret (show EPost Z P F0 σ F ι E Q (.ok [x] ρ st) from p) r0 (hv F ι)
  cases k <;> cases h
  · exact pe_imp pe_non fun σ H Q q => fin (fun _ _ => .non) q
  · exact pe_imp pe_bl fun σ H Q q => fin (fun _ _ => .bl) q
  · exact pe_imp pe_int fun σ H Q q => fin (fun _ _ => .int) q
  · exact pe_imp pe_str fun σ H Q q => fin (fun _ _ => .str) q
theorem snd_var (w : Cw Z C f lv sc X E) {x : Str} {i : Nat} {pos : Pos} (hp : plainN x = true) (hv : visB sc x = true) (hi : nIx C.N x = some i) : PE X (.Name x pos) (tE Z E g (.v i)) := by
  obtain ⟨p1, p2, p3⟩ := plainN_ok hp
  refine pe_imp (pe_var (i := i) (by rw [w.n]; exact nIx_ok hi) (by rw [w.sc]; exact visB_ok hv) p1 p2) fun σ H Q q => ?_
  obtain ⟨P, F0, F, ι, ρ, st, r0, p⟩ := q
  obtain ⟨F', s, r1, h⟩ := r0.frz i
  have p' : EPost Z P F0 σ F ι E Q (match rd (getS ρ i) with | some v => .ok [v] (frz ρ i) st | none => .fail) := p
  cases e : rd (getS ρ i) with
  | none => rw [e] at p'; exact p'.elim
  | some x =>
    rw [e] at p'
    obtain ⟨v, h1, h2⟩ := h x e
    exact ⟨v, h1, EPost.ret (EPost.weak s .rfl' p') r1 h2⟩
theorem snd_glob (w : Cw Z C f lv sc X E) {x : Str} {v : PV} {pos : Pos} (hp : plainN x = true) (hg : glbB sc x = true) (hi : C.gl.lookup x = some v) : PE X (.Name x pos) (tE Z E g (.c v)) := by
  obtain ⟨u, y, h1, h2, h3⟩ := w.gl x v hi
  refine pe_imp (pe_glob (glbB_ok (by rw [w.sc]; exact hg)) h1 h2 (plainN_ok hp).1) fun σ H Q q => ?_
  obtain ⟨P, F0, F, ι, ρ, st, r0, p⟩ := q
  exact EPost.ret (show EPost Z P F0 σ F ι E Q (.ok [v] ρ st) from p) r0 (h3 F ι)
theorem snd_neg (hr : Snd Z C f lv r) (w : Cw Z C f lv sc X E) (hl : Le g f) {a : Expr} {ca : Ce} {pos : Pos} (ha : r false sc a = some ca) : PE X (.UnaryOp .USub a pos) (tE Z E g (.neg ca)) := by
  refine pe_imp (pe_un un_neg (hr.v _ _ _ ha X E g w hl)) fun σ H Q q => ?_
  obtain ⟨P, F0, F, ι, ρ, st, r0, p⟩ := q
  refine ⟨P, F0, F, ι, ρ, st, r0, EPost.b1 p fun x ρ1 st1 F1 ι1 H1 v1 s1 e1 r1 p1 q1 => ?_⟩
  cases x with
  | int i => exact ⟨i, p1.int_of, EPost.ret (show EPost Z P F0 σ F1 ι1 E Q (.ok [.int (-i)] ρ1 st1) from q1) r1 .int⟩
  | _ => exact (show False from q1).elim
theorem snd_not (hr : Snd Z C f lv r) (w : Cw Z C f lv sc X E) (hl : Le g f) {a : Expr} {ca : Ce} {pos : Pos} (ha : r false sc a = some ca) : PE X (.UnaryOp .Not a pos) (tE Z E g (.not ca)) := by
  refine pe_imp (pe_not (hr.v _ _ _ ha X E g w hl)) fun σ H Q q => ?_
  obtain ⟨P, F0, F, ι, ρ, st, r0, p⟩ := q
  exact ⟨P, F0, F, ι, ρ, st, r0, EPost.bB p fun b ρ1 st1 F1 ι1 H1 s1 e1 r1 q1 => ⟨b, rfl, EPost.ret q1 r1 .bl⟩⟩
theorem snd_notT (hr : Snd Z C f lv r) (w : Cw Z C f lv sc X E) (hl : Le g f) {a : Expr} {ca : Ce} {pos : Pos} (ha : r true sc a = some ca) : PT X (.UnaryOp .Not a pos) (tTest (tE Z E g (.not ca))) := by
  refine pt_imp (pt_not (hr.t _ _ _ ha X E g w hl)) fun σ H Q q => ?_
  obtain ⟨P, F0, F, ι, ρ, st, r0, p⟩ := q
  refine ⟨P, F0, F, ι, ρ, st, r0, EPost.bB p fun b ρ1 st1 F1 ι1 H1 s1 e1 r1 q1 => ⟨b, rfl, ?_⟩⟩
  obtain ⟨k, e, z⟩ := EPost.ret q1 r1 (.bl (b := !b))
  cases e
  exact z
theorem snd_ife (hr : Snd Z C f lv r) (w : Cw Z C f lv sc X E) (hl : Le g f) {c a b : Expr} {cc ca cb : Ce} {pos : Pos} (hc : r true sc c = some cc) (ha : r false sc a = some ca) (hb : r false sc b = some cb) :
    PE X (.IfExp c a b pos) (tE Z E g (.ife cc ca cb)) := by
  refine pe_imp (pe_ifExp (hr.t _ _ _ hc X E g w hl) (hr.v _ _ _ ha X E g w hl) (hr.v _ _ _ hb X E g w hl)) fun σ H Q q => ?_
  obtain ⟨P, F0, F, ι, ρ, st, r0, p⟩ := q
  refine ⟨P, F0, F, ι, ρ, st, r0, EPost.bB p fun b ρ1 st1 F1 ι1 H1 s1 e1 r1 q1 => ⟨b, rfl, ?_⟩⟩
  have one : ∀ cx : Ce, EPost Z P F0 σ F1 ι1 E Q ((evD cx g ρ1 st1).bind (d1 fun v ρ st => .ok [v] ρ st)) → tE Z E g cx σ H1 Q := fun cx z =>
    ⟨P, F0, F1, ι1, ρ1, st1, r1, EPost.b1 z fun x ρ2 st2 F2 ι2 H2 v2 s2 e2 r2 p2 q2 => EPost.ret q2 r2 p2⟩
  cases b with
  | true => exact iteT (one ca q1)
  | false => exact iteF (one cb q1)
theorem snd_tup (hr : Snd Z C f lv r) (w : Cw Z C f lv sc X E) (hl : Le g f) {es : List Expr} {c : Ce} {k : Nat} {pos : Pos} (h : cmpL (r false sc) es = some c) : PE X (.Tuple es k pos) (tE Z E g (.tup c)) := by
  refine pe_imp (pe_tup (pa_snd hr w hl h)) fun σ H Q q => ?_
  obtain ⟨P, F0, F, ι, ρ, st, r0, p⟩ := q
  refine ⟨P, F0, F, ι, ρ, st, r0, EPost.bA p fun xs ρ1 st1 F1 ι1 H1 vs s1 e1 r1 p1 q1 => ?_⟩
  cases e : fits xs.length with
  | false => rw [e] at q1; exact (show False from q1).elim
  | true =>
    rw [e] at q1
    refine ⟨by rw [p1.len]; exact fits_le e, fun a ha => ?_⟩
    have hs : Sb F1 (upd F1 a (.tup vs)) := Sb.rfl'.up (r1.r.fresh ha).1
    exact EPost.ret (EPost.weak hs .rfl' (show EPost Z P F0 σ F1 ι1 E Q (.ok [.tup xs] ρ1 st1) from q1)) (r1.new ha fun ps z => by cases z) (.tup (.of upd_same) (p1.mono hs .rfl'))
theorem snd_lst (hr : Snd Z C f lv r) (w : Cw Z C f lv sc X E) (hl : Le g f) {es : List Expr} {c : Ce} {pos : Pos} (h : cmpL (r false sc) es = some c) : PE X (.List es pos) (tE Z E g (.lst c)) := by
  refine pe_imp (pe_lst (pa_snd hr w hl h)) fun σ H Q q => ?_
  obtain ⟨P, F0, F, ι, ρ, st, r0, p⟩ := q
  refine ⟨P, F0, F, ι, ρ, st, r0, EPost.bA p fun xs ρ1 st1 F1 ι1 H1 vs s1 e1 r1 p1 q1 => ?_⟩
  cases e : fits xs.length with
  | false => rw [e] at q1; exact (show False from q1).elim
  | true =>
    rw [e] at q1
    refine ⟨by rw [p1.len]; exact fits_le e, fun a ha => ?_⟩
    have hs : Sb F1 (upd F1 a (.lst vs)) := Sb.rfl'.up (r1.r.fresh ha).1
    exact EPost.ret (EPost.weak hs .rfl' (show EPost Z P F0 σ F1 ι1 E Q (.ok [.lst xs] ρ1 st1) from q1)) (r1.new ha fun ps z => by cases z) (.lst (.of upd_same) (p1.mono hs .rfl'))
end
end Cv

set_option Elab.async false
set_option linter.all false
set_option maxRecDepth 100000
set_option maxHeartbeats 4000000
/-! Core7: cuts, calls, built-in functions, as expressions. -/
namespace Cv
open PySem PySem.Spec PyProof.Rows L2
section
variable {Z : Fx} {P F0 F F' H H' : Hp} {ι ι' : List Addr} {σ : L2.St} {ρ : Evn} {st st' : Sto} {Q : VK} {E : XK} {X : Cx} {C : CC} {f g : Cl} {lv : Nat} {sc : Scope} {r : Rc}
/-! ### cuts -/
def OPost (Z : Fx) (P F0 : Hp) (σ : L2.St) (F : Hp) (ι : List Addr) (E : XK) (Q : Option Int → Hp → Prop) : ResE → Prop
  | .ok xs ρ st => match partOf xs with
    | some o => ∀ F' ι' H', Sb F F' → Ex ι ι' → Rel Z P F0 F' ι' σ H' ρ st → Q o H'
    | none => False
  | .ex c x st => ∀ cls d H', ExnOk Z P F0 F ι c x st cls d H' → E cls d H'
  | .fail => False
def tO (Z : Fx) (E : XK) (g : Cl) (c : Ce) : TO := fun σ H Q => ∃ P F0 F ι ρ st, Rel Z P F0 F ι σ H ρ st ∧ OPost Z P F0 σ F ι E Q (evD c g ρ st)
theorem po_snd (hr : Snd Z C f lv r) (w : Cw Z C f lv sc X E) (hl : Le g f) {o : Option Expr} {c : Ce} (h : cmpO (r false sc) o = some c) : PO X o (tO Z E g c) := by
  cases o with
  | none =>
    cases h
    refine ⟨fun pins s σ H Q I q => ?_⟩
    obtain ⟨P, F0, F, ι, ρ, st, r0, p⟩ := q
    exact (po_none (X := X)).run pins s σ H Q I (p F ι H .rfl' .rfl' r0)
  | some e =>
    have h : (r false sc e).map (fun a => Ce.cons a .nil) = some c := h
    cases h1 : r false sc e with
    | none => rw [h1] at h; cases h
    | some a =>
      rw [h1] at h
      cases h
      have base := po_some (hr.v _ _ _ h1 X E g w hl)
      refine ⟨fun pins s σ H Q I q => base.run pins s σ H Q I ?_⟩
      obtain ⟨P, F0, F, ι, ρ, st, r0, p⟩ := q
      refine ⟨P, F0, F, ι, ρ, st, r0, ?_⟩
      have p' : OPost Z P F0 σ F ι E Q ((evD a g ρ st).bind (d1 fun v ρ st => .ok [v] ρ st)) := p
      cases e1 : evD a g ρ st with
      | ok xs ρ1 st1 =>
        rw [e1] at p'
        match xs, p' with
        | [x], p' =>
          intro F' ι' H' v s1 e2 r1 p1
          cases x with
          | int i => exact ⟨i, p1.int_of, p' F' ι' H' s1 e2 r1⟩
          | _ => exact (show False from p').elim
        | [], p' => exact (show False from p').elim
        | _ :: _ :: _, p' => exact (show False from p').elim
      | ex c x st1 => rw [e1] at p'; exact p'
      | fail => rw [e1] at p'; exact p'
theorem EPost.bO {k : Option Int → Evn → Sto → ResE} {rr : ResE} {QO : Option Int → Hp → Prop} (h : EPost Z P F0 σ F ι E Q (rr.bind (dO k)))
    (hk : ∀ o ρ st F1 ι1 H1, Sb F F1 → Ex ι ι1 → Rel Z P F0 F1 ι1 σ H1 ρ st → EPost Z P F0 σ F1 ι1 E Q (k o ρ st) → QO o H1) : OPost Z P F0 σ F ι E QO rr := by
  cases rr with
  | ok xs ρ1 st1 =>
    have h' : EPost Z P F0 σ F ι E Q (match partOf xs with | some o => k o ρ1 st1 | none => .fail) := h
    show (match partOf xs with | some o => _ | none => False)
    cases e : partOf xs with
    | none => rw [e] at h'; exact h'
    | some o =>
      rw [e] at h'
      exact fun F' ι' H' s1 e1 r1 => hk o ρ1 st1 F' ι' H' s1 e1 r1 (EPost.weak s1 e1 h')
  | ex c x st => exact h
  | fail => exact h
theorem snd_sl (hr : Snd Z C f lv r) (w : Cw Z C f lv sc X E) (hl : Le g f) {a : Expr} {lo hi : Option Expr} {ca cl ch : Ce} {p2 pos : Pos} (ha : r false sc a = some ca) (hlo : cmpO (r false sc) lo = some cl) (hhi : cmpO (r false sc) hi = some ch) :
    PE X (.Subscript a (.Slice lo hi none p2) pos) (tE Z E g (.sl ca cl ch)) := by
  refine pe_imp (pe_slice (sl_ok w.k) (hr.v _ _ _ ha X E g w hl) (po_snd hr w hl hlo) (po_snd hr w hl hhi)) fun σ H Q q => ?_
  obtain ⟨P, F0, F, ι, ρ, st, r0, p⟩ := q
  refine ⟨P, F0, F, ι, ρ, st, r0, EPost.b1 p fun x ρ1 st1 F1 ι1 H1 v1 s1 e1 r1 p1 q1 => ?_⟩
  refine ⟨P, F0, F1, ι1, ρ1, st1, r1, EPost.bO q1 fun l ρ2 st2 F2 ι2 H2 s2 e2 r2 q2 => ?_⟩
  refine ⟨P, F0, F2, ι2, ρ2, st2, r2, EPost.bO q2 fun h ρ3 st3 F3 ι3 H3 s3 e3 r3 q3 => ?_⟩
  exact ⟨P, F0, F3, ι3, σ, ρ3, st3, x, r3, p1.mono (s2.tr s3) (e2.tr e3), q3.giv⟩
/-! ### x[i] of a slot, len of a slot -/
theorem snd_ixo (hr : Snd Z C f lv r) (w : Cw Z C f lv sc X E) (hl : Le g f) {x : Str} {i : Nat} {b : Expr} {cb : Ce} {px pos : Pos} (hpl : PlainIx b) (hp : plainN x = true) (hv : visB sc x = true) (hi : nIx C.N x = some i) (hb : r false sc b = some cb) :
    PE X (.Subscript (.Name x px) b pos) (tE Z E g (.ixo i cb)) := by
  obtain ⟨p1, p2, p3⟩ := plainN_ok hp
  refine pe_imp (pe_ix ix_seq (pe_var (i := i) (by rw [w.n]; exact nIx_ok hi) (by rw [w.sc]; exact visB_ok hv) p1 p2) (hr.v _ _ _ hb X E g w hl) hpl) fun σ H Q q => ?_
  obtain ⟨P, F0, F, ι, ρ, st, r0, p⟩ := q
  have p' : EPost Z P F0 σ F ι E Q (match rd (getS ρ i) with | some _ => (evD cb g ρ st).bind (d1 fun y ρ st => givD (ixS st (getS ρ i) y) ρ st) | none => .fail) := p
  cases e0 : rd (getS ρ i) with
  | none => rw [e0] at p'; exact p'.elim
  | some x0 =>
    rw [e0] at p'
    obtain ⟨_, _, _, hx⟩ := r0.frz i
    obtain ⟨v, h1, _⟩ := hx x0 e0
    refine ⟨v, h1, P, F0, F, ι, ρ, st, r0, EPost.b1 p' fun y ρ1 st1 F1 ι1 H1 v1 s1 e1 r1 q1 post => ?_⟩
    have post := post.giv
    have at_ : ∀ xs j vs, y = .int j → Reps Z.K F1 ι1 xs vs → VPost Z P F0 σ F1 ι1 ρ1 st1 Q (atP xs j) → ∃ z, atI vs j = some z ∧ Q z H1 := fun xs j vs ey hr hp => by
      cases e : atP xs j with
      | none => rw [e] at hp; exact hp.elim
      | some z =>
        rw [e] at hp
        obtain ⟨v, h1, h2⟩ := atI_of hr e
        exact ⟨v, h1, hp.here r1 h2⟩
    have hs := r1.sl i
    cases es : getS ρ1 i with
    | no => rw [es] at post; exact (show False by cases y <;> exact post).elim
    | own xs =>
      rw [es] at post hs
      cases y with
      | int j =>
        obtain ⟨a, vs, g1, g2, g3, _⟩ := hs
        rw [h1] at g1; cases g1
        have ey := q1.int_of
        subst ey
        obtain ⟨z, z1, z2⟩ := at_ xs j vs rfl g3 post
        exact .inl ⟨a, vs, j, z, rfl, rfl, .of g2, z1, z2⟩
      | _ => exact (show False from post).elim
    | val x1 =>
      rw [es] at post hs
      obtain ⟨v', g1, g2⟩ := hs
      rw [h1] at g1; cases g1
      cases y with
      | int j =>
        have ey := q1.int_of
        subst ey
        cases x1 with
        | tup xs =>
          obtain ⟨a, vs, rfl, g3, g4⟩ := g2.tup_of
          obtain ⟨z, z1, z2⟩ := at_ xs j vs rfl g4 post
          exact .inr (.inl ⟨a, vs, j, z, rfl, rfl, by rw [w.k]; exact r1.r.fh.stp g3, z1, z2⟩)
        | lst xs =>
          obtain ⟨a, vs, rfl, g3, g4⟩ := g2.lst_of
          obtain ⟨z, z1, z2⟩ := at_ xs j vs rfl g4 post
          exact .inl ⟨a, vs, j, z, rfl, rfl, .inl (r1.r.fh.rd g3), z1, z2⟩
        | ob n =>
          have post' : VPost Z P F0 σ F1 ι1 ρ1 st1 Q (match cellsAt st1 n with | some xs => atP xs j | none => none) := post
          obtain ⟨a, rfl, g3⟩ := g2.ob_of
          have hn : n < st1.length := by rw [← r1.r.sto.1]; exact (List.getElem?_eq_some_iff.mp g3).1
          obtain ⟨xs, hx⟩ := cells_at hn
          have hc : cellsAt st1 n = some xs := by unfold cellsAt; rw [hx]
          rw [hc] at post'
          obtain ⟨a2, vs, k1, k2, k3⟩ := r1.r.sto.2 n xs hx
          rw [g3] at k1; cases k1
          obtain ⟨z, z1, z2⟩ := at_ xs j vs rfl k3 post'
          exact .inl ⟨a, vs, j, z, rfl, rfl, .of k2, z1, z2⟩
        | _ => exact (show False from post).elim
      | _ => exact (show False by cases x1 <;> exact post).elim
theorem bl_of (w : Cw Z C f lv sc X E) {x : Str} (h : C.bl.contains x = true) : X.mg x = none := w.bl x h
theorem snd_leno (w : Cw Z C f lv sc X E) {x : Str} {i : Nat} {px p pos : Pos} (hg : glbB sc "len" = true) (hbl : C.bl.contains "len" = true) (hp : plainN x = true) (hv : visB sc x = true) (hi : nIx C.N x = some i) :
    PE X (.Call (.Name "len" p) [.Name x px] [] pos) (tE Z E g (.leno i)) := by
  obtain ⟨p1, p2, p3⟩ := plainN_ok hp
  refine pe_imp (pe_callB call_len_seq (glbB_ok (by rw [w.sc]; exact hg)) (w.bl _ hbl) boot_len (pa_cons (pe_var (i := i) (by rw [w.n]; exact nIx_ok hi) (by rw [w.sc]; exact visB_ok hv) p1 p2) pa_nil)) fun σ H Q q => ?_
  obtain ⟨P, F0, F, ι, ρ, st, r0, p⟩ := q
  have p' : VPost Z P F0 σ F ι ρ st Q (lenS (getS ρ i)) := EPost.giv p
  have hs := r0.sl i
  cases es : getS ρ i with
  | no => rw [es] at p'; exact (show False from p').elim
  | own xs =>
    rw [es] at p' hs
    obtain ⟨a, vs, g1, g2, g3, _⟩ := hs
    exact ⟨_, g1, a, vs, rfl, .inl (.of g2), by rw [g3.len]; exact VPost.here (x := .int xs.length) p' r0 .int⟩
  | val x1 =>
    rw [es] at p' hs
    obtain ⟨v, g1, g2⟩ := hs
    cases x1 with
    | tup xs =>
      obtain ⟨a, vs, rfl, g3, g4⟩ := g2.tup_of
      exact ⟨_, g1, a, vs, rfl, .inr (by rw [w.k]; exact r0.r.fh.stp g3), by rw [g4.len]; exact VPost.here (x := .int xs.length) p' r0 .int⟩
    | lst xs =>
      obtain ⟨a, vs, rfl, g3, g4⟩ := g2.lst_of
      exact ⟨_, g1, a, vs, rfl, .inl (.inl (r0.r.fh.rd g3)), by rw [g4.len]; exact VPost.here (x := .int xs.length) p' r0 .int⟩
    | _ => exact (show False from p').elim
/-! ### calls -/
theorem cmpL_star (hr : Snd Z C f lv r) : ∀ {es : List Expr} {c : Ce}, cmpL (r false sc) es = some c → es.all noStar = true
  | [], _, _ => rfl
  | e :: es, c, h => by
    unfold cmpL at h
    cases h1 : r false sc e with
    | none => rw [h1] at h; cases h
    | some a =>
      rw [h1] at h
      cases h2 : cmpL (r false sc) es with
      | none => rw [h2] at h; cases h
      | some b =>
        show (noStar e && es.all noStar) = true
        rw [hr.st _ _ _ _ h1, cmpL_star hr h2]; rfl
theorem cmpL_len {fe : Expr → Option Ce} : ∀ {es : List Expr} {c : Ce} {ρ : Evn} {st : Sto} {xs : List PV} {ρ' : Evn} {st' : Sto}, cmpL fe es = some c → evD c g ρ st = .ok xs ρ' st' → xs.length = es.length
  | [], c, ρ, st, xs, ρ', st', h, e => by cases h; cases e; rfl
  | a :: es, c, ρ, st, xs, ρ', st', h, e => by
    unfold cmpL at h
    cases h1 : fe a with
    | none => rw [h1] at h; cases h
    | some ca =>
      rw [h1] at h
      cases h2 : cmpL fe es with
      | none => rw [h2] at h; cases h
      | some cb =>
        rw [h2] at h
        cases h
        have e' : (evD ca g ρ st).bind (d1 fun v ρ st => (evD cb g ρ st).bind fun vs ρ st => .ok (v :: vs) ρ st) = .ok xs ρ' st' := e
        cases q : evD ca g ρ st with
        | ex c x s => rw [q] at e'; cases e'
        | fail => rw [q] at e'; cases e'
        | ok ys ρ1 st1 =>
          rw [q] at e'
          match ys, e' with
          | [y], e' =>
            have e2 : (evD cb g ρ1 st1).bind (fun vs ρ st => .ok (y :: vs) ρ st) = .ok xs ρ' st' := e'
            cases q2 : evD cb g ρ1 st1 with
            | ex c x s => rw [q2] at e2; cases e2
            | fail => rw [q2] at e2; cases e2
            | ok zs ρ2 st2 =>
              rw [q2] at e2
              cases e2
              simp [cmpL_len h2 q2]
          | [], e' => cases e'
          | _ :: _ :: _, e' => cases e'
/-- arguments, then what takes them -/
theorem EPost.args {fe : Expr → Option Ce} {es : List Expr} {c : Ce} {k : List PV → Evn → Sto → ResE} {QA : List V → Hp → Prop} (hc : cmpL fe es = some c) (h : EPost Z P F0 σ F ι E Q ((evD c g ρ st).bind k))
    (hk : ∀ xs ρ st F1 ι1 H1 vs, xs.length = es.length → Sb F F1 → Ex ι ι1 → Rel Z P F0 F1 ι1 σ H1 ρ st → Reps Z.K F1 ι1 xs vs → EPost Z P F0 σ F1 ι1 E Q (k xs ρ st) → QA vs H1) : APost Z P F0 σ F ι E QA (evD c g ρ st) := by
  cases q : evD c g ρ st with
  | ok xs ρ' st' =>
    rw [q] at h
    exact fun F' ι' H' v a b c' d => hk xs ρ' st' F' ι' H' v (cmpL_len hc q) a b c' d (EPost.weak a b h)
  | ex c x s => rw [q] at h; exact h
  | fail => rw [q] at h; exact h
theorem snd_call (hr : Snd Z C f lv r) (w : Cw Z C f lv sc X E) (hl : Le g f) {x : Str} {i : Nat} {ps : List Str} {as : List Expr} {c : Ce} {p pos : Pos} (hg : glbB sc x = true) (hp : plainN x = true) (hi : fnIxG x C.fns 0 = some (i, ps)) (hlen : as.length = ps.length)
    (h : cmpL (r false sc) as = some c) : PE X (.Call (.Name x p) as [] pos) (tE Z E g (.call i c)) := by
  obtain ⟨a, fd, m1, m2, m3, m4, m5⟩ := w.fn i x ps (by simpa using (fnIx_ok hi).2)
  have gl : Gl X x := glbB_ok (by rw [w.sc]; exact hg)
  have db := (plainN_ok hp).1
  have hst := cmpL_star hr h
  have pass : Passes (L2.CX X.prog X.w) X E := passes_call w.tk fun _ _ _ _ z => z
  have fin : ∀ σ H Q, tE Z E g (.call i c) σ H Q → tCall (spD Z f i ps.length) [] E (tA Z E g c) σ H Q := fun σ H Q q => by
    obtain ⟨P, F0, F, ι, ρ, st, r0, p⟩ := q
    refine ⟨P, F0, F, ι, ρ, st, r0, EPost.args h p fun xs ρ1 st1 F1 ι1 H1 vs hn s1 e1 r1 p1 q1 => ?_⟩
    rw [List.append_nil]
    exact sp_of hl r1 p1 (hn.trans hlen) q1
  have hr0 : Room lv X.A := w.rm.mono (by omega)
  cases as with
  | nil =>
    cases h
    refine pe_imp (pe_call0 m4 hr0 gl m1 m2 m3 .nil pass db) fun σ H Q q => ?_
    obtain ⟨P, F0, F, ι, ρ, st, r0, p⟩ := fin σ H Q q
    exact p F ι H [] .rfl' .rfl' r0 .nil
  | cons e es =>
    have hst' : noStar e = true ∧ es.all noStar = true := by
      have : (noStar e && es.all noStar) = true := hst
      rw [Bool.and_eq_true] at this; exact this
    exact pe_imp (pe_call m4 hr0 gl m1 m2 m3 .nil pass (pa_snd hr w hl h) db (star_cons hst'.1) (star_plain hst'.2)) fin
/-! ### built-in functions -/
theorem snd_bi (hr : Snd Z C f lv r) (w : Cw Z C f lv sc X E) (hl : Le g f) {x : Str} {id : String} {b : BI} {e : Expr} {es : List Expr} {c : Ce} {p pos : Pos} {rr : List V → Hp → VK → Prop} (hg : glbB sc x = true) (hp : plainN x = true) (hbl : C.bl.contains x = true)
    (hv : bootBuiltins x = some (.builtin id)) (hc : CallR X (.builtin id) rr) (hi : ∀ vs H Q, rB Z (biP b) vs H Q → rr vs H Q) (h : cmpL (r false sc) (e :: es) = some c) : PE X (.Call (.Name x p) (e :: es) [] pos) (tE Z E g (.bi b c)) := by
  have hst' : noStar e = true ∧ es.all noStar = true := by
    have : (noStar e && es.all noStar) = true := cmpL_star hr h
    rw [Bool.and_eq_true] at this; exact this
  obtain ⟨p1, p2, p3⟩ := plainN_ok hp
  refine pe_imp (pe_callB hc (glbB_ok (by rw [w.sc]; exact hg)) (w.bl _ hbl) hv (pa_snd hr w hl h) p3 p1 (star_cons hst'.1) (star_plain hst'.2)) fun σ H Q q => ?_
  obtain ⟨P, F0, F, ι, ρ, st, r0, p⟩ := q
  exact ⟨P, F0, F, ι, ρ, st, r0, EPost.bA p fun xs ρ1 st1 F1 ι1 H1 vs s1 e1 r1 p1 q1 => hi vs H1 Q ⟨P, F0, F1, ι1, σ, ρ1, st1, xs, r1, p1, q1.giv⟩⟩
theorem snd_biT (hr : Snd Z C f lv r) (w : Cw Z C f lv sc X E) (hl : Le g f) {x : Str} {id : String} {b : BI} {e : Expr} {es : List Expr} {c : Ce} {p pos : Pos} {rr : List V → Hp → VK → Prop} (hg : glbB sc x = true) (hp : plainN x = true) (hbl : C.bl.contains x = true)
    (hv : bootBuiltins x = some (.type id)) (hc : CallR X (.type id) rr) (hi : ∀ vs H Q, rB Z (biP b) vs H Q → rr vs H Q) (h : cmpL (r false sc) (e :: es) = some c) : PE X (.Call (.Name x p) (e :: es) [] pos) (tE Z E g (.bi b c)) := by
  have hst' : noStar e = true ∧ es.all noStar = true := by
    have : (noStar e && es.all noStar) = true := cmpL_star hr h
    rw [Bool.and_eq_true] at this; exact this
  obtain ⟨p1, p2, p3⟩ := plainN_ok hp
  refine pe_imp (pe_callTy hc (glbB_ok (by rw [w.sc]; exact hg)) (w.bl _ hbl) hv (pa_snd hr w hl h) p3 p1 (star_cons hst'.1) (star_plain hst'.2)) fun σ H Q q => ?_
  obtain ⟨P, F0, F, ι, ρ, st, r0, p⟩ := q
  exact ⟨P, F0, F, ι, ρ, st, r0, EPost.bA p fun xs ρ1 st1 F1 ι1 H1 vs s1 e1 r1 p1 q1 => hi vs H1 Q ⟨P, F0, F1, ι1, σ, ρ1, st1, xs, r1, p1, q1.giv⟩⟩
theorem boot_ty (t : TyN) : bootBuiltins (Str.ofString (tyId t)) = some (.type (tyId t)) := by cases t <;> decide +kernel
theorem tyOf_ok {y : Str} {t : TyN} (h : tyOf y = some t) : y = Str.ofString (tyId t) := by
  unfold tyOf at h
  split at h
  · rename_i e; cases h; exact e
  split at h
  · rename_i e; cases h; exact e
  split at h
  · rename_i e; cases h; exact e
  split at h
  · rename_i e; cases h; exact e
  split at h
  · rename_i e; cases h; exact e
  cases h
theorem snd_isi (hr : Snd Z C f lv r) (w : Cw Z C f lv sc X E) (hl : Le g f) {y : Str} {t : TyN} {e : Expr} {c : Ce} {p py pos : Pos} (hg : glbB sc "isinstance" = true) (hbl : C.bl.contains "isinstance" = true) (gy : glbB sc y = true) (py' : plainN y = true) (by' : C.bl.contains y = true) (ht : tyOf y = some t)
    (h : r false sc e = some c) : PE X (.Call (.Name "isinstance" p) [e, .Name y py] [] pos) (tE Z E g (.bi (.isi t) (.cons c .nil))) := by
  have ey := tyOf_ok ht
  obtain ⟨p1, p2, p3⟩ := plainN_ok py'
  have pty : PE X (.Name y py) (tC (.ty (tyId t))) := pe_bltn (u := .type (tyId t)) (glbB_ok (by rw [w.sc]; exact gy)) (w.bl _ by') (by rw [ey]; exact boot_ty t) rfl p3 p1
  refine pe_imp (pe_callB (cr_isi w.k t) (glbB_ok (by rw [w.sc]; exact hg)) (w.bl _ hbl) boot_isinstance (pa_cons (hr.v _ _ _ h X E g w hl) (pa_cons pty pa_nil) (star_cons (hr.st _ _ _ _ h))) (he := star_cons (hr.st _ _ _ _ h))) fun σ H Q q => ?_
  obtain ⟨P, F0, F, ι, ρ, st, r0, p⟩ := q
  have p' : EPost Z P F0 σ F ι E Q (((evD c g ρ st).bind (d1 fun v ρ st => .ok [v] ρ st)).bind fun vs ρ st => givD (biP (.isi t) vs) ρ st) := p
  have p2 : EPost Z P F0 σ F ι E Q ((evD c g ρ st).bind (d1 fun v ρ st => givD (biP (.isi t) [v]) ρ st)) := by
    cases q : evD c g ρ st with
    | ok xs ρ1 st1 =>
      rw [q] at p'
      match xs, p' with
      | [x], p' => exact p'
      | [], p' => exact p'
      | _ :: _ :: _, p' => exact p'
    | ex c x s => rw [q] at p'; exact p'
    | fail => rw [q] at p'; exact p'
  refine ⟨P, F0, F, ι, ρ, st, r0, EPost.b1 p2 fun x ρ1 st1 F1 ι1 H1 v1 s1 e1 r1 p1 q1 => ?_⟩
  exact ⟨v1, rfl, P, F0, F1, ι1, σ, ρ1, st1, [x], r1, .cons p1 .nil, q1.giv⟩
end
end Cv

set_option Elab.async false
set_option linter.all false
set_option maxRecDepth 100000
set_option maxHeartbeats 4000000
/-! Core8: targets, what is walked, comprehensions. -/
namespace Cv
open PySem PySem.Spec PyProof.Rows L2
def tgS : Tgt → List Nat
  | .n i => [i]
  | .t ts => tgS ts
  | .nil => []
  | .cons t ts => tgS t ++ tgS ts
/-- slots outside are as they were -/
def Out (l : List Nat) (σ σ' : L2.St) : Prop := σ'.length = σ.length ∧ ∀ j, j ∉ l → σ'[j]? = σ[j]?
theorem Out.rfl' {l : List Nat} {σ : L2.St} : Out l σ σ := ⟨rfl, fun _ _ => rfl⟩
theorem Out.tr {l m : List Nat} {σ σ1 σ2 : L2.St} (a : Out l σ σ1) (b : Out m σ1 σ2) : Out (l ++ m) σ σ2 :=
  ⟨b.1.trans a.1, fun j h => (b.2 j fun z => h (List.mem_append_right _ z)).trans (a.2 j fun z => h (List.mem_append_left _ z))⟩
section
variable {Z : Fx} {P F0 F F' H H' : Hp} {ι ι' : List Addr} {σ : L2.St} {ρ : Evn} {st st' : Sto} {Q : VK} {E : XK} {X : Cx} {C : CC} {f g : Cl} {lv : Nat} {sc : Scope} {r : Rc}
/-! ### targets -/
def gP (Z : Fx) (t : Tgt) : L2.TG := fun v σ H Q => ∃ P F0 F ι ρ st x, Rel Z P F0 F ι σ H ρ st ∧ Rep Z.K F ι x v ∧ match bindT t x ρ with
  | some ρ' => ∀ σ', Out (tgS t) σ σ' → Rel Z P F0 F ι σ' H ρ' st → Q σ' H
  | none => False
def gPs (Z : Fx) (t : Tgt) : TGs := fun vs σ H Q => ∃ P F0 F ι ρ st xs, Rel Z P F0 F ι σ H ρ st ∧ Reps Z.K F ι xs vs ∧ match bindTs t xs ρ with
  | some ρ' => ∀ σ', Out (tgS t) σ σ' → Rel Z P F0 F ι σ' H ρ' st → Q σ' H
  | none => False
theorem pg_imp {e : Expr} {t t' : L2.TG} (h : PG X e t) (q : ∀ v σ H Q, t' v σ H Q → t v σ H Q) : PG X e t' := ⟨fun pins s σ H v u Q I rr w => h.run pins s σ H v u Q I rr (q v σ H Q w)⟩
theorem pgs_imp {e : List Expr} {t t' : TGs} (h : PGs X e t) (q : ∀ v σ H Q, t' v σ H Q → t v σ H Q) : PGs X e t' := ⟨fun pins s σ H v u Q I rr w => h.run pins s σ H v u Q I rr (q v σ H Q w)⟩
def locB (sc : Scope) (x : Str) : Bool := match sc.names.lookup x with
  | some .local | some .cell => true
  | _ => false
theorem locB_ok {x : Str} (h : locB sc x = true) : Loc sc x := by
  unfold locB at h
  split at h
  · exact .inl (by assumption)
  · exact .inr (by assumption)
  · cases h
/-- a target; fn: which names' cells are the block's own -/
def cmpG (N : List Str) (sc : Scope) (fn : Str → Bool) : Nat → Expr → Option Tgt
  | 0, _ => none
  | n + 1, e => match e with
    | .Name x _ => if locB sc x && (fn x || (match sc.names.lookup x with | some .local => true | _ => false)) then (nIx N x).map .n else none
    | .Tuple es _ _ => (es.foldr (fun e b => match cmpG N sc fn n e, b with
      | some t, some ts => some (.cons t ts)
      | _, _ => none) (some .nil)).map .t
    | _ => none
def cmpGs (N : List Str) (sc : Scope) (fn : Str → Bool) (n : Nat) (es : List Expr) : Option Tgt := es.foldr (fun e b => match cmpG N sc fn n e, b with
      | some t, some ts => some (.cons t ts)
      | _, _ => none) (some .nil)
theorem cmpG_star {N : List Str} {fn : Str → Bool} {n : Nat} {e : Expr} {t : Tgt} (h : cmpG N sc fn n e = some t) : noStar e = true := by
  cases n with
  | zero => cases h
  | succ n => cases e <;> first | rfl | cases h
theorem each_cons {e : Expr} {es : List Expr} {env : PySem.Env} (h : noStar e = true) : assignEach (e :: es) env = (false, assign e env) :: assignEach es env := by
  cases e <;> first | rfl | cases h
theorem each_len {env : PySem.Env} : ∀ {es : List Expr}, es.all noStar = true → (assignEach es env).length = es.length ∧ (assignEach es env).findIdx? (·.1) = none
  | [], _ => ⟨rfl, rfl⟩
  | e :: es, h => by
    have h' : (noStar e && es.all noStar) = true := h
    rw [Bool.and_eq_true] at h'
    obtain ⟨a, b⟩ := each_len (env := env) h'.2
    rw [each_cons h'.1]
    refine ⟨by simp [a], ?_⟩
    rw [List.findIdx?_cons, b]; rfl
theorem cmpGs_some {N : List Str} {fn : Str → Bool} {n : Nat} {e : Expr} {es : List Expr} {t : Tgt} (h : cmpGs N sc fn n (e :: es) = some t) : ∃ a b, cmpG N sc fn n e = some a ∧ cmpGs N sc fn n es = some b ∧ t = .cons a b := by
  have h' : (match cmpG N sc fn n e, cmpGs N sc fn n es with | some t, some ts => some (Tgt.cons t ts) | _, _ => none) = some t := h
  cases h1 : cmpG N sc fn n e with
  | none => simp [h1] at h'
  | some a =>
    cases h2 : cmpGs N sc fn n es with
    | none => simp [h1, h2] at h'
    | some b => simp [h1, h2] at h'; exact ⟨a, b, rfl, rfl, h'.symm⟩
theorem cmpGs_star {N : List Str} {fn : Str → Bool} {n : Nat} : ∀ {es : List Expr} {t : Tgt}, cmpGs N sc fn n es = some t → es.all noStar = true
  | [], _, _ => rfl
  | e :: es, t, h => by
    obtain ⟨a, b, h1, h2, _⟩ := cmpGs_some h
    show (noStar e && es.all noStar) = true
    rw [cmpG_star h1, cmpGs_star h2]; rfl
theorem bindTs_len : ∀ {t : Tgt} {xs : List PV} {ρ ρ' : Evn} {n : Nat} {N : List Str} {fn : Str → Bool} {es : List Expr}, cmpGs N sc fn n es = some t → bindTs t xs ρ = some ρ' → xs.length = es.length
  | t, xs, ρ, ρ', n, N, fn, [], h, e => by
    cases h
    cases xs with
    | nil => rfl
    | cons x xs => cases e
  | t, xs, ρ, ρ', n, N, fn, e0 :: es, h, e => by
    obtain ⟨a, b, h1, h2, rfl⟩ := cmpGs_some h
    cases xs with
    | nil => cases e
    | cons x xs =>
      have e' : (match bindT a x ρ with | some ρ' => bindTs b xs ρ' | none => none) = some ρ' := e
      cases q : bindT a x ρ with
      | none => rw [q] at e'; cases e'
      | some ρ1 => rw [q] at e'; simp [bindTs_len h2 e']
/-- fn says what X's cells are -/
def FnIs (X : Cx) (fn : Str → Bool) : Prop := ∀ x, fn x = true → X.fn x = true
mutual
theorem pg_snd {N : List Str} {fn : Str → Bool} (hN : X.N = N) (hd : N.Nodup) (hk : X.K = Z.K) (hsc : X.env.scope = sc) (hc : X.calm = true) (hf : FnIs X fn) : ∀ {n : Nat} {e : Expr} {t : Tgt}, cmpG N sc fn n e = some t → PG X e (gP Z t)
  | 0, _, _, h => by cases h
  | n + 1, e, t, h => by
    cases e with
    | Name x pos =>
      have h' : (if locB sc x && (fn x || (match sc.names.lookup x with | some .local => true | _ => false)) then (nIx N x).map Tgt.n else none) = some t := h
      by_cases c : (locB sc x && (fn x || (match sc.names.lookup x with | some .local => true | _ => false))) = true
      · rw [if_pos c] at h'
        rw [Bool.and_eq_true] at c
        cases e1 : nIx N x with
        | none => rw [e1] at h'; cases h'
        | some i =>
          rw [e1] at h'
          cases h'
          have own : X.fn x = true ∨ X.env.scope.names.lookup x = some .local := by
            have c2 := c.2
            rw [Bool.or_eq_true] at c2
            rcases c2 with c2 | c2
            · exact .inl (hf x c2)
            · right
              rw [hsc]
              split at c2
              · assumption
              · cases c2
          refine pg_imp (pg_name (i := i) (by rw [hN]; exact hd) (by rw [hN]; exact nIx_ok e1) (by rw [hsc]; exact locB_ok c.1) own) fun v σ H Q q => ?_
          obtain ⟨P, F0, F, ι, ρ, st, x', r0, p, q⟩ := q
          have q' : ∀ σ', Out [i] σ σ' → Rel Z P F0 F ι σ' H (setS ρ i (.val x')) st → Q σ' H := q
          refine q' _ ⟨List.length_set, fun j hj => ?_⟩ (r0.set i p)
          rw [List.getElem?_set_ne (fun z => hj (by rw [z]; exact List.mem_singleton.mpr rfl))]
      · rw [if_neg c] at h'; cases h'
    | Tuple es k pos =>
      have h' : (cmpGs N sc fn n es).map Tgt.t = some t := h
      cases e1 : cmpGs N sc fn n es with
      | none => rw [e1] at h'; cases h'
      | some ts =>
        rw [e1] at h'
        cases h'
        have z := each_len (env := X.env) (cmpGs_star e1)
        refine pg_imp (pg_tup hc (pgs_snd hN hd hk hsc hc hf e1) z.1 z.2) fun v σ H Q q => ?_
        obtain ⟨P, F0, F, ι, ρ, st, x', r0, p, q⟩ := q
        cases x' with
        | tup xs =>
          obtain ⟨a, vs, rfl, p1, p2⟩ := p.tup_of
          have q' : (match bindTs ts xs ρ with | some ρ' => ∀ σ', Out (tgS (.t ts)) σ σ' → Rel Z P F0 F ι σ' H ρ' st → Q σ' H | none => False) := q
          refine ⟨a, vs, rfl, by rw [hk]; exact r0.r.fh.stp p1, ?_, P, F0, F, ι, ρ, st, xs, r0, p2, q'⟩
          cases e2 : bindTs ts xs ρ with
          | none => rw [e2] at q'; exact q'.elim
          | some ρ' => rw [p2.len]; exact bindTs_len e1 e2
        | _ => exact (show False from q).elim
    | _ => cases h
theorem pgs_snd {N : List Str} {fn : Str → Bool} (hN : X.N = N) (hd : N.Nodup) (hk : X.K = Z.K) (hsc : X.env.scope = sc) (hc : X.calm = true) (hf : FnIs X fn) : ∀ {n : Nat} {es : List Expr} {t : Tgt}, cmpGs N sc fn n es = some t → PGs X es (gPs Z t)
  | n, [], t, h => by
    cases h
    refine pgs_imp pgs_nil fun v σ H Q q => ?_
    obtain ⟨P, F0, F, ι, ρ, st, xs, r0, p, q⟩ := q
    cases xs with
    | nil => exact ⟨p.nil_of, q σ .rfl' r0⟩
    | cons x xs => exact (show False from q).elim
  | n, e :: es, t, h => by
    obtain ⟨a, b, h1, h2, rfl⟩ := cmpGs_some h
    refine pgs_imp (pgs_cons (pg_snd hN hd hk hsc hc hf h1) (pgs_snd hN hd hk hsc hc hf h2) (by rw [each_cons (cmpG_star h1)]; rfl)) fun v σ H Q q => ?_
    obtain ⟨P, F0, F, ι, ρ, st, xs, r0, p, q⟩ := q
    cases xs with
    | nil => exact (show False from q).elim
    | cons x xs =>
      obtain ⟨v1, vs, rfl, p1, p2⟩ := p.uncons
      have q' : (match (match bindT a x ρ with | some ρ' => bindTs b xs ρ' | none => none) with | some ρ' => ∀ σ', Out (tgS a ++ tgS b) σ σ' → Rel Z P F0 F ι σ' H ρ' st → Q σ' H | none => False) := q
      refine ⟨v1, vs, rfl, P, F0, F, ι, ρ, st, x, r0, p1, ?_⟩
      cases e1 : bindT a x ρ with
      | none => rw [e1] at q'; exact q'
      | some ρ1 =>
        rw [e1] at q'
        intro σ1 o1 r1
        refine ⟨P, F0, F, ι, ρ1, st, xs, r1, p2, ?_⟩
        have q2 : (match bindTs b xs ρ1 with | some ρ' => ∀ σ', Out (tgS a ++ tgS b) σ σ' → Rel Z P F0 F ι σ' H ρ' st → Q σ' H | none => False) := q'
        cases e2 : bindTs b xs ρ1 with
        | none => rw [e2] at q2; exact q2
        | some ρ2 =>
          rw [e2] at q2
          exact fun σ2 o2 r2 => q2 σ2 (o1.tr o2) r2
end
/-! ### what is walked -/
structure ItOk (K : Fg) (J : It) (F : Hp) (ι : List Addr) (xs : List PV) : Prop where
  go : ∀ i H, Sb F H → i < xs.length → J.go i H
  yld : ∀ i H v H', Sb F H → J.yld i H v H' → ∀ x, xs[i]? = some x → (H' = H ∧ Rep K F ι x v) ∨ (∃ T vs ys, H T = none ∧ v = .ref T ∧ H' = upd H T (.tup vs) ∧ x = .tup ys ∧ Reps K F ι ys vs)
  stop : ∀ i H, Sb F H → xs.length ≤ i → J.stop i H
/-- as far as one may: what is to be shown of the iterator needs the state it is in -/
def IPost (Z : Fx) (P F0 : Hp) (σ : L2.St) (F : Hp) (ι : List Addr) (E : XK) (R : It → Hp → Prop) : ResE → Prop
  | .ok [x] ρ st => (match itemsOf x with
    | some xs => ∀ F' ι' H' J, Sb F F' → Ex ι ι' → Rel Z P F0 F' ι' σ H' ρ st → (∀ F2 ι2, Sb F' F2 → Ex ι' ι2 → ItOk Z.K J F2 ι2 xs) → R J H'
    | none => False)
  | .ok _ _ _ => False
  | .ex c x st => ∀ cls d H', ExnOk Z P F0 F ι c x st cls d H' → E cls d H'
  | .fail => False
def tI (Z : Fx) (E : XK) (g : Cl) (c : Ce) : TI := fun σ H R => ∃ P F0 F ι ρ st, Rel Z P F0 F ι σ H ρ st ∧ IPost Z P F0 σ F ι E R (evD c g ρ st)
theorem pi_imp {tg e : Expr} {t t' : TI} (h : PI X tg e t) (q : ∀ σ H R, t' σ H R → t σ H R) : PI X tg e t' := ⟨fun pins s σ H R I w => h.run pins s σ H R I (q σ H R w)⟩
/-- a list, or a tuple, as it comes -/
theorem pi_seq {tg e : Expr} {te : TE} (h : PE X e te) : PI X tg e (fun σ H R => te σ H fun x H1 => (∃ a xs, x = .ref a ∧ SqL X.K H1 a xs ∧ R (Itl X.K a) H1) ∨ (∃ a xs, x = .ref a ∧ SqT X.K H1 a xs ∧ R (Itt X.K a) H1)) := by
  constructor
  intro pins s σ H R I q
  apply thn (h.run pins s σ H _ I q)
  rintro v s1 ⟨x, H1, I1, r1, ⟨a, xs, e, h1, h2⟩ | ⟨a, xs, e, h1, h2⟩⟩
  · subst e; cases r1
    obtain ⟨its, rv, p, _⟩ := I1.list h1
    exact wpAny_pyIter_list p.isList (pi_one I1 _ (turn_list a _) ⟨_, Heap.get?_push_size _ rfl, rfl, rfl⟩ h2)
  · subst e; cases r1
    obtain ⟨its, rv, p, _⟩ := I1.tuple h1
    exact wpAny_pyIter_tuple (show s1.heap.IsTuple a its.toArray from p) (pi_one I1 _ (turn_tuple a _) ⟨_, Heap.get?_push_size _ rfl, rfl, rfl⟩ h2)
theorem it_list {K : Fg} {a : Addr} {vs : List V} {xs : List PV} (h : Rd F a (.lst vs)) (p : Reps K F ι xs vs) : ItOk K (Itl K a) F ι xs := by
  refine ⟨fun i H s hi => ?_, fun i H v H' s y x hx => ?_, fun i H s hi => ?_⟩
  · obtain ⟨v, e, _⟩ := p.get (List.getElem?_eq_getElem hi)
    exact ⟨vs, v, .inl (s.rd h), e⟩
  · obtain ⟨e, y⟩ := y
    obtain ⟨w, e2, rw'⟩ := p.get hx
    have := y vs (.inl (s.rd h))
    rw [e2] at this; cases this
    exact .inl ⟨e, rw'⟩
  · exact ⟨vs, .inl (s.rd h), by rw [p.len]; exact hi⟩
theorem it_tup {K : Fg} {a : Addr} {vs : List V} {xs : List PV} (h : SqT K F a vs) (p : Reps K F ι xs vs) : ItOk K (Itt K a) F ι xs := by
  refine ⟨fun i H s hi => ?_, fun i H v H' s y x hx => ?_, fun i H s hi => ?_⟩
  · obtain ⟨v, e, _⟩ := p.get (List.getElem?_eq_getElem hi)
    exact ⟨vs, v, s.stp h, e⟩
  · obtain ⟨e, y⟩ := y
    obtain ⟨w, e2, rw'⟩ := p.get hx
    have := y vs (s.stp h)
    rw [e2] at this; cases this
    exact .inl ⟨e, rw'⟩
  · exact ⟨vs, s.stp h, by rw [p.len]; exact hi⟩
theorem upto_len : ∀ (n : Nat) (lo : Int), (upto lo n).length = n
  | 0, _ => rfl
  | n + 1, lo => by simp [upto, upto_len n]
theorem upto_get : ∀ (n : Nat) (lo : Int) (i : Nat) (x : PV), (upto lo n)[i]? = some x → x = .int (lo + i)
  | 0, _, _, _, h => by simp [upto] at h
  | n + 1, lo, 0, x, h => by simp [upto] at h; rw [← h]; simp
  | n + 1, lo, i + 1, x, h => by
    have h' : (upto (lo + 1) n)[i]? = some x := by simpa [upto] using h
    rw [upto_get n (lo + 1) i x h']
    congr 1; push_cast; omega
theorem it_range {K : Fg} {lo : Int} {n : Nat} : ItOk K (Itr lo n) F ι (upto lo n) := by
  refine ⟨fun i H s hi => by rw [upto_len] at hi; exact hi, fun i H v H' s y x hx => ?_, fun i H s hi => by rw [upto_len] at hi; exact hi⟩
  obtain ⟨e, y⟩ := y
  rw [upto_get _ _ _ _ hx, y]
  exact .inl ⟨e, .int⟩
theorem zip_get : ∀ {xs ys : List PV} {i : Nat} {x : PV}, (zipP xs ys)[i]? = some x → ∃ a b, xs[i]? = some a ∧ ys[i]? = some b ∧ x = .tup [a, b]
  | [], ys, i, x, h => by simp [zipP] at h
  | _ :: _, [], i, x, h => by simp [zipP] at h
  | a :: xs, b :: ys, 0, x, h => by simp [zipP] at h; exact ⟨a, b, rfl, rfl, h.symm⟩
  | a :: xs, b :: ys, i + 1, x, h => by
    have h' : (zipP xs ys)[i]? = some x := by simpa [zipP] using h
    obtain ⟨c, d, h1, h2, h3⟩ := zip_get h'
    exact ⟨c, d, by simpa using h1, by simpa using h2, h3⟩
theorem zip_len : ∀ {xs ys : List PV}, (zipP xs ys).length = min xs.length ys.length
  | [], ys => by simp [zipP]
  | _ :: _, [] => by simp [zipP]
  | a :: xs, b :: ys => by simp [zipP, zip_len (xs := xs)]
theorem it_zipL {K : Fg} {a b : Addr} {vs ws : List V} {xs ys : List PV} (h : Rd F a (.lst vs)) (p : Reps K F ι xs vs) (h2 : Rd F b (.lst ws)) (p2 : Reps K F ι ys ws) : ItOk K (Itz K a b) F ι (zipP xs ys) := by
  refine ⟨fun i H s hi => ?_, fun i H v H' s y x hx => ?_, fun i H s hi => ?_⟩
  · rw [zip_len] at hi
    obtain ⟨v, e, _⟩ := p.get (List.getElem?_eq_getElem (show i < xs.length by omega))
    obtain ⟨w, e', _⟩ := p2.get (List.getElem?_eq_getElem (show i < ys.length by omega))
    exact ⟨vs, ws, v, w, .inl (s.rd h), .inl (s.rd h2), e, e'⟩
  · obtain ⟨T, z1, z2, e1, e2, e3, y1, y2⟩ := y
    obtain ⟨a1, b1, k1, k2, rfl⟩ := zip_get hx
    obtain ⟨v1, g1, g2⟩ := p.get k1
    obtain ⟨w1, g3, g4⟩ := p2.get k2
    have t1 := y1 vs (.inl (s.rd h))
    have t2 := y2 ws (.inl (s.rd h2))
    rw [g1] at t1; cases t1
    rw [g3] at t2; cases t2
    exact .inr ⟨T, _, _, e2, e1, e3, rfl, .cons g2 (.cons g4 .nil)⟩
  · rw [zip_len] at hi
    refine ⟨vs, ws, .inl (s.rd h), .inl (s.rd h2), ?_⟩
    rw [p.len, p2.len]; omega
theorem it_zipT {K : Fg} {a b : Addr} {vs ws : List V} {xs ys : List PV} (h : SqT K F a vs) (p : Reps K F ι xs vs) (h2 : SqT K F b ws) (p2 : Reps K F ι ys ws) : ItOk K (RZ.ItzT K a b) F ι (zipP xs ys) := by
  refine ⟨fun i H s hi => ?_, fun i H v H' s y x hx => ?_, fun i H s hi => ?_⟩
  · rw [zip_len] at hi
    obtain ⟨v, e, _⟩ := p.get (List.getElem?_eq_getElem (show i < xs.length by omega))
    obtain ⟨w, e', _⟩ := p2.get (List.getElem?_eq_getElem (show i < ys.length by omega))
    exact ⟨vs, ws, v, w, s.stp h, s.stp h2, e, e'⟩
  · obtain ⟨T, z1, z2, e1, e2, e3, y1, y2⟩ := y
    obtain ⟨a1, b1, k1, k2, rfl⟩ := zip_get hx
    obtain ⟨v1, g1, g2⟩ := p.get k1
    obtain ⟨w1, g3, g4⟩ := p2.get k2
    have t1 := y1 vs (s.stp h)
    have t2 := y2 ws (s.stp h2)
    rw [g1] at t1; cases t1
    rw [g3] at t2; cases t2
    exact .inr ⟨T, _, _, e2, e1, e3, rfl, .cons g2 (.cons g4 .nil)⟩
  · rw [zip_len] at hi
    refine ⟨vs, ws, s.stp h, s.stp h2, ?_⟩
    rw [p.len, p2.len]; omega
theorem enum_get : ∀ {xs : List PV} {k : Int} {i : Nat} {x : PV}, (enumP k xs)[i]? = some x → ∃ a, xs[i]? = some a ∧ x = .tup [.int (k + i), a]
  | [], _, i, x, h => by simp [enumP] at h
  | a :: xs, k, 0, x, h => by simp [enumP] at h; exact ⟨a, rfl, by rw [← h]; simp⟩
  | a :: xs, k, i + 1, x, h => by
    have h' : (enumP (k + 1) xs)[i]? = some x := by simpa [enumP] using h
    obtain ⟨c, h1, h3⟩ := enum_get h'
    refine ⟨c, by simpa using h1, ?_⟩
    rw [h3, show k + 1 + (i : Int) = k + ((i + 1 : Nat) : Int) by push_cast; omega]
theorem enum_len : ∀ {xs : List PV} {k : Int}, (enumP k xs).length = xs.length
  | [], _ => rfl
  | a :: xs, k => by simp [enumP, enum_len (xs := xs)]
theorem it_enum {K : Fg} {a : Addr} {vs : List V} {xs : List PV} (h : Rd F a (.lst vs)) (p : Reps K F ι xs vs) : ItOk K (Ite K a) F ι (enumP 0 xs) := by
  refine ⟨fun i H s hi => ?_, fun i H v H' s y x hx => ?_, fun i H s hi => ?_⟩
  · rw [enum_len] at hi
    obtain ⟨v, e, _⟩ := p.get (List.getElem?_eq_getElem hi)
    exact ⟨vs, v, .inl (s.rd h), e⟩
  · obtain ⟨T, z1, e1, e2, e3, y1⟩ := y
    obtain ⟨a1, k1, rfl⟩ := enum_get hx
    obtain ⟨v1, g1, g2⟩ := p.get k1
    have t1 := y1 vs (.inl (s.rd h))
    rw [g1] at t1; cases t1
    refine .inr ⟨T, _, _, e2, e1, e3, rfl, .cons ?_ (.cons g2 .nil)⟩
    rw [Int.zero_add]; exact .int
  · rw [enum_len] at hi
    exact ⟨vs, .inl (s.rd h), by rw [p.len]; exact hi⟩
def isTup : Expr → Bool
  | .Tuple .. => true
  | _ => false
/-- what is walked; tg its target -/
def cmpW (C : CC) (r : Rc) (sc : Scope) (tg : Expr) (it : Expr) : Option Ce :=
  if isSet it then none else match it with
  | .Call g as kws _ => (match g with
    | .Name x _ => if glbB sc x && C.bl.contains x && as.all noStar && kws.isEmpty && (fnIxG x C.fns 0).isNone && (x = ("range" : Str) || x = ("zip" : Str) || x = ("enumerate" : Str)) then
        (if x = ("range" : Str) then (match as with
          | [a] => (r false sc a).map fun c => .bi .range1 (.cons c .nil)
          | [a, b] => (match r false sc a, r false sc b with
            | some c, some d => some (.bi .range2 (.cons c (.cons d .nil)))
            | _, _ => none)
          | _ => none)
        else if isTup tg then (if x = ("zip" : Str) then (match as with
          | [a, b] => (match r false sc a, r false sc b with
            | some c, some d => some (.bi .zip (.cons c (.cons d .nil)))
            | _, _ => none)
          | _ => none)
        else (match as with
          | [a] => (r false sc a).map fun c => .bi .enum (.cons c .nil)
          | _ => none)) else none)
      else r false sc it
    | _ => r false sc it)
  | _ => r false sc it
end
end Cv

set_option Elab.async false
set_option linter.all false
set_option maxRecDepth 100000
set_option maxHeartbeats 4000000
/-! Core9: what is walked; comprehensions. -/
namespace Cv
open PySem PySem.Spec PyProof.Rows L2
/-! ### without the law's errors nothing is raised -/
def NoEx : ResE → Prop
  | .ex _ _ _ => False
  | _ => True
theorem NoEx.bind {r : ResE} {k : List PV → Evn → Sto → ResE} (h : NoEx r) (hk : ∀ vs ρ st, NoEx (k vs ρ st)) : NoEx (r.bind k) := by
  cases r with
  | ok vs ρ st => exact hk vs ρ st
  | ex c v st => exact h
  | fail => exact h
theorem NoEx.d1 {k : PV → Evn → Sto → ResE} (hk : ∀ v ρ st, NoEx (k v ρ st)) (vs : List PV) (ρ : Evn) (st : Sto) : NoEx (Cv.d1 k vs ρ st) := by
  rcases vs with _ | ⟨v, _ | ⟨w, r⟩⟩
  · trivial
  · exact hk v ρ st
  · trivial
theorem NoEx.dB {k : Bool → Evn → Sto → ResE} (hk : ∀ v ρ st, NoEx (k v ρ st)) (vs : List PV) (ρ : Evn) (st : Sto) : NoEx (Cv.dB k vs ρ st) := by
  rcases vs with _ | ⟨v, _ | ⟨w, r⟩⟩
  · trivial
  · cases v <;> first | trivial | exact hk _ ρ st
  · cases v <;> trivial
theorem NoEx.dO {k : Option Int → Evn → Sto → ResE} (hk : ∀ v ρ st, NoEx (k v ρ st)) (vs : List PV) (ρ : Evn) (st : Sto) : NoEx (Cv.dO k vs ρ st) := by
  unfold Cv.dO
  cases partOf vs with
  | none => trivial
  | some o => exact hk o ρ st
theorem NoEx.cnd {b : Bool} {x y : ResE} (hx : NoEx x) (hy : NoEx y) : NoEx (Cv.cnd b x y) := by cases b <;> assumption
theorem NoEx.giv {o : Option PV} {ρ : Evn} {st : Sto} : NoEx (givD o ρ st) := by cases o <;> trivial
theorem NoEx.givB {o : Option Bool} {ρ : Evn} {st : Sto} : NoEx (givBD o ρ st) := by cases o <;> trivial
theorem NoEx.back {g : Cl} {i : Nat} {xs : List PV} {st : Sto} {ρ : Evn} : NoEx (backD (noX g i xs st) ρ) := by
  unfold Cv.noX
  cases g i xs st <;> trivial
theorem NoEx.lc {tg : Tgt} {vs : List Nat} {c e : Evn → Sto → ResE} (hc : ∀ ρ st, NoEx (c ρ st)) (he : ∀ ρ st, NoEx (e ρ st)) : ∀ xs ρ st, NoEx (lcD tg vs c e xs ρ st)
  | [], ρ, st => trivial
  | x :: xs, ρ, st => by
    unfold lcD
    cases bindT tg x (wipeS ρ vs) with
    | none => trivial
    | some ρ1 =>
      exact (hc ρ1 st).bind (NoEx.dB fun b ρ2 st2 => .cnd ((he ρ2 st2).bind (NoEx.d1 fun w ρ3 st3 => (NoEx.lc hc he xs ρ3 st3).bind fun _ _ _ => trivial)) (NoEx.lc hc he xs ρ2 st2))
theorem noEx : ∀ (c : Ce) (g : Cl) (ρ : Evn) (st : Sto), NoEx (evD c (noX g) ρ st) := by
  intro c
  induction c with
  | c v => intros; trivial
  | v i => intro g ρ st; simp only [evD]; cases rd (getS ρ i) <;> trivial
  | bin o a b ha hb => intro g ρ st; exact (ha g ρ st).bind (.d1 fun _ _ _ => (hb g _ _).bind (.d1 fun _ _ _ => .giv))
  | neg a ha => intro g ρ st; exact (ha g ρ st).bind (.d1 fun x _ _ => by cases x <;> trivial)
  | not a ha => intro g ρ st; exact (ha g ρ st).bind (.dB fun _ _ _ => trivial)
  | and a b ha hb => intro g ρ st; exact (ha g ρ st).bind (.dB fun _ _ _ => .cnd ((hb g _ _).bind (.dB fun _ _ _ => trivial)) trivial)
  | or a b ha hb => intro g ρ st; exact (ha g ρ st).bind (.dB fun _ _ _ => .cnd trivial ((hb g _ _).bind (.dB fun _ _ _ => trivial)))
  | cmp o a b ha hb => intro g ρ st; exact (ha g ρ st).bind (.d1 fun _ _ _ => (hb g _ _).bind (.d1 fun _ _ _ => .givB))
  | chain o o' a b c ha hb hc => intro g ρ st; exact (ha g ρ st).bind (.d1 fun _ _ _ => (hb g _ _).bind (.d1 fun _ _ _ => NoEx.givB.bind (.dB fun _ _ _ => .cnd ((hc g _ _).bind (.d1 fun _ _ _ => .givB)) trivial)))
  | ife c a b hc ha hb => intro g ρ st; exact (hc g ρ st).bind (.dB fun _ _ _ => .cnd ((ha g _ _).bind (.d1 fun _ _ _ => trivial)) ((hb g _ _).bind (.d1 fun _ _ _ => trivial)))
  | nil => intros; trivial
  | cons e es he hes => intro g ρ st; exact (he g ρ st).bind (.d1 fun _ _ _ => (hes g _ _).bind fun _ _ _ => trivial)
  | tup es h => intro g ρ st; exact (h g ρ st).bind fun _ _ _ => .cnd trivial trivial
  | lst es h => intro g ρ st; exact (h g ρ st).bind fun _ _ _ => .cnd trivial trivial
  | obj es h => intro g ρ st; exact (h g ρ st).bind fun _ _ _ => .cnd trivial trivial
  | ix a b ha hb => intro g ρ st; exact (ha g ρ st).bind (.d1 fun _ _ _ => (hb g _ _).bind (.d1 fun _ _ _ => .giv))
  | ixo i b hb =>
    intro g ρ st; simp only [evD]
    cases rd (getS ρ i) with
    | none => trivial
    | some v => exact (hb g _ _).bind (.d1 fun _ _ _ => .giv)
  | leno i => intros; exact .giv
  | sl a lo hi ha hl hh => intro g ρ st; exact (ha g ρ st).bind (.d1 fun _ _ _ => (hl g _ _).bind (.dO fun _ _ _ => (hh g _ _).bind (.dO fun _ _ _ => .giv)))
  | rev a ha => intro g ρ st; exact (ha g ρ st).bind (.d1 fun x _ _ => by cases x <;> trivial)
  | call i es h => intro g ρ st; exact (h g ρ st).bind fun _ _ _ => .back
  | callk i p es h =>
    intro g ρ st
    refine (h g ρ st).bind fun vs _ _ => ?_
    cases picks vs p with
    | none => trivial
    | some us => exact .back
  | bi b es h => intro g ρ st; exact (h g ρ st).bind fun _ _ _ => .giv
  | lc vs tg it c e hi hc he =>
    intro g ρ st
    refine (hi g ρ st).bind (.d1 fun x _ _ => ?_)
    cases itemsOf x with
    | none => trivial
    | some xs => exact (NoEx.lc (hc (noX g)) (he (noX g)) xs _ _).bind fun _ _ _ => .cnd trivial trivial
  | rf cls els e h =>
    intro g ρ st; simp only [evD]
    cases evD e (noX g) (frzE ρ) st with
    | ok vs ρ' st' => rcases vs with _ | ⟨v, _ | ⟨w, r⟩⟩ <;> trivial
    | ex c v st' => exact .cnd trivial trivial
    | fail => trivial
section
variable {Z : Fx} {P F0 F F1 F' H H' : Hp} {ι ι1 ι' : List Addr} {σ : L2.St} {ρ : Evn} {st st' : Sto} {Q : VK} {E : XK} {X : Cx} {C : CC} {f g : Cl} {lv : Nat} {sc : Scope} {r : Rc} {R : It → Hp → Prop}
/-! ### what is walked -/
theorem IPost.weak {x : ResE} (hs : Sb F F1) (he : Ex ι ι1) (h : IPost Z P F0 σ F ι E R x) : IPost Z P F0 σ F1 ι1 E R x := by
  cases x with
  | ok xs ρ st =>
    match xs, h with
    | [x], h =>
      have h' : (match itemsOf x with | some xs => ∀ F' ι' H' J, Sb F F' → Ex ι ι' → Rel Z P F0 F' ι' σ H' ρ st → (∀ F2 ι2, Sb F' F2 → Ex ι' ι2 → ItOk Z.K J F2 ι2 xs) → R J H' | none => False) := h
      show (match itemsOf x with | some xs => ∀ F' ι' H' J, Sb F1 F' → Ex ι1 ι' → Rel Z P F0 F' ι' σ H' ρ st → (∀ F2 ι2, Sb F' F2 → Ex ι' ι2 → ItOk Z.K J F2 ι2 xs) → R J H' | none => False)
      cases e0 : itemsOf x with
      | none => rw [e0] at h'; exact h'
      | some xs => rw [e0] at h'; exact fun F' ι' H' J a b => h' F' ι' H' J (hs.tr a) (he.tr b)
  | ex c x st => exact fun cls d H' q => h cls d H' (q.weak hs he)
  | fail => exact h
theorem IPost.bA {k : List PV → Evn → Sto → ResE} {x : ResE} {QA : List V → Hp → Prop} (h : IPost Z P F0 σ F ι E R (x.bind k))
    (hk : ∀ xs ρ st F1 ι1 H1 vs, Sb F F1 → Ex ι ι1 → Rel Z P F0 F1 ι1 σ H1 ρ st → Reps Z.K F1 ι1 xs vs → IPost Z P F0 σ F1 ι1 E R (k xs ρ st) → QA vs H1) : APost Z P F0 σ F ι E QA x := by
  cases x with
  | ok xs ρ st => exact fun F' ι' H' v a b c d => hk xs ρ st F' ι' H' v a b c d (IPost.weak a b h)
  | ex c x st => exact h
  | fail => exact h
theorem IPost.fin {x : PV} {xs : List PV} {J : It} (h : IPost Z P F0 σ F ι E R (.ok [x] ρ st)) (e : itemsOf x = some xs) (r0 : Rel Z P F0 F ι σ H ρ st) (k : ∀ F2 ι2, Sb F F2 → Ex ι ι2 → ItOk Z.K J F2 ι2 xs) : R J H := by
  have h' : (match itemsOf x with | some xs => ∀ F' ι' H' J, Sb F F' → Ex ι ι' → Rel Z P F0 F' ι' σ H' ρ st → (∀ F2 ι2, Sb F' F2 → Ex ι' ι2 → ItOk Z.K J F2 ι2 xs) → R J H' | none => False) := h
  rw [e] at h'
  exact h' F ι H J .rfl' .rfl' r0 k
theorem pi_of {tg e : Expr} {c : Ce} (hK : X.K = Z.K) (h : PE X e (tE Z E g c)) : PI X tg e (tI Z E g c) := by
  refine pi_imp (pi_seq h) fun σ H R q => ?_
  obtain ⟨P, F0, F, ι, ρ, st, r0, p⟩ := q
  refine ⟨P, F0, F, ι, ρ, st, r0, ?_⟩
  cases e1 : evD c g ρ st with
  | ok xs ρ1 st1 =>
    rw [e1] at p
    match xs, p with
    | [x], p =>
      intro F' ι' H' v a b r1 pv
      have p' := IPost.weak a b p
      cases x with
      | tup ys =>
        obtain ⟨ad, vs, rfl, h1, h2⟩ := pv.tup_of
        exact .inr ⟨ad, vs, rfl, by rw [hK]; exact r1.r.fh.stp h1, p'.fin rfl r1 fun F2 ι2 s2 e2 => by rw [hK]; exact it_tup (s2.stp h1) (h2.mono s2 e2)⟩
      | lst ys =>
        obtain ⟨ad, vs, rfl, h1, h2⟩ := pv.lst_of
        exact .inl ⟨ad, vs, rfl, .inl (r1.r.fh.rd h1), p'.fin rfl r1 fun F2 ι2 s2 e2 => by rw [hK]; exact it_list (s2.rd h1) (h2.mono s2 e2)⟩
      | _ => exact (show False from p').elim
    | [], p => exact (show False from p).elim
    | _ :: _ :: _, p => exact (show False from p).elim
  | ex c x st1 => rw [e1] at p; exact p
  | fail => rw [e1] at p; exact p
theorem IPost.giv {o : Option PV} (h : IPost Z P F0 σ F ι E R (givD o ρ st)) : ∃ x, o = some x ∧ IPost Z P F0 σ F ι E R (.ok [x] ρ st) := by
  cases o with
  | none => exact (show False from h).elim
  | some x => exact ⟨x, rfl, h⟩
theorem rng_ok {i : Int} (h : rngOk i = true) : -(2 ^ 62) ≤ i ∧ i < 2 ^ 62 := by
  unfold rngOk at h
  rw [Bool.and_eq_true] at h
  exact ⟨of_decide_eq_true h.1, of_decide_eq_true h.2⟩
theorem cmpL_two {fe : Expr → Option Ce} {a b : Expr} {c d : Ce} (h1 : fe a = some c) (h2 : fe b = some d) : cmpL fe [a, b] = some (.cons c (.cons d .nil)) := by
  simp [cmpL, h1, h2]
theorem cmpL_one {fe : Expr → Option Ce} {a : Expr} {c : Ce} (h1 : fe a = some c) : cmpL fe [a] = some (.cons c .nil) := by
  simp [cmpL, h1]
theorem no1 {e : Expr} {env : PySem.Env} (h : noStar e = true) : starEach [e] env = [(false, eval e env)] := by rw [star_cons h]; rfl
theorem no2 {e e2 : Expr} {env : PySem.Env} (h : noStar e = true) (h2 : noStar e2 = true) : starEach [e, e2] env = [(false, eval e env), (false, eval e2 env)] := by rw [star_cons h, star_cons h2]; rfl
theorem pi_snd (hr : Snd Z C f lv r) (w : Cw Z C f lv sc X E) (hl : Le g f) {tg it : Expr} {c : Ce} (h : cmpW C r sc tg it = some c) : PI X tg it (tI Z E g c) := by
  unfold cmpW at h
  split at h
  · cases h
  · split at h
    · rename_i g' as kws pos
      split at h
      · rename_i x p
        split at h
        · rename_i hc
          simp only [Bool.and_eq_true, List.isEmpty_iff] at hc
          obtain ⟨⟨⟨⟨⟨h1, h2⟩, h3⟩, h4⟩, h5⟩, h6⟩ := hc
          subst h4
          have gl : Gl X x := glbB_ok (by rw [w.sc]; exact h1)
          have mg : X.mg x = none := w.bl x h2
          split at h
          · rename_i ex
            subst ex
            split at h
            · rename_i a
              have ns : noStar a = true := by simpa using h3
              cases e1 : r false sc a with
              | none => rw [e1] at h; cases h
              | some ca =>
                rw [e1] at h; cases h
                refine pi_imp (pi_range1 gl mg (pa_snd hr w hl (cmpL_one e1)) (no1 ns)) fun σ H R q => ?_
                obtain ⟨P, F0, F, ι, ρ, st, r0, p⟩ := q
                refine ⟨P, F0, F, ι, ρ, st, r0, IPost.bA p fun xs ρ1 st1 F1 ι1 H1 vs s1 e1 r1 p1 q1 => ?_⟩
                obtain ⟨y, ey, q2⟩ := IPost.giv q1
                match xs, p1, ey with
                | [.int j], p1, ey =>
                  obtain ⟨v1, vs1, rfl, g1, g2⟩ := p1.uncons
                  obtain rfl := g2.nil_of
                  have ex := g1.int_of
                  subst ex
                  have ey' : (if rngOk j then some (PV.lst (upto 0 j.toNat)) else none) = some y := ey
                  split at ey'
                  · rename_i hj
                    cases ey'
                    exact ⟨j, rfl, (rng_ok hj).1, (rng_ok hj).2, q2.fin rfl r1 fun _ _ _ _ => it_range⟩
                  · cases ey'
                | [], _, ey => exact absurd (show (none : Option PV) = some y from ey) (by simp)
                | .non :: [], _, ey => exact absurd (show (none : Option PV) = some y from ey) (by simp)
                | .bl _ :: [], _, ey => exact absurd (show (none : Option PV) = some y from ey) (by simp)
                | .str _ :: [], _, ey => exact absurd (show (none : Option PV) = some y from ey) (by simp)
                | .tup _ :: [], _, ey => exact absurd (show (none : Option PV) = some y from ey) (by simp)
                | .lst _ :: [], _, ey => exact absurd (show (none : Option PV) = some y from ey) (by simp)
                | .ob _ :: [], _, ey => exact absurd (show (none : Option PV) = some y from ey) (by simp)
                | _ :: _ :: _, _, ey => exact absurd (show (none : Option PV) = some y from ey) (by simp)
            · rename_i a b
              have ns : noStar a = true ∧ noStar b = true := by simpa using h3
              cases e1 : r false sc a with
              | none => rw [e1] at h; cases h
              | some ca =>
                cases e2 : r false sc b with
                | none => rw [e1, e2] at h; cases h
                | some cb =>
                  rw [e1, e2] at h; cases h
                  refine pi_imp (pi_range2 gl mg (pa_snd hr w hl (cmpL_two e1 e2)) (no2 ns.1 ns.2) (no1 ns.2)) fun σ H R q => ?_
                  obtain ⟨P, F0, F, ι, ρ, st, r0, p⟩ := q
                  refine ⟨P, F0, F, ι, ρ, st, r0, IPost.bA p fun xs ρ1 st1 F1 ι1 H1 vs s1 e1 r1 p1 q1 => ?_⟩
                  obtain ⟨y, ey, q2⟩ := IPost.giv q1
                  have ey1 : on2I (fun i j => if rngOk i && rngOk j then some (PV.lst (upto i (j - i).toNat)) else none) xs = some y := ey
                  unfold on2I at ey1
                  split at ey1
                  · split at ey1
                    · rename_i i j
                      dsimp only at ey1
                      obtain ⟨v1, vs1, rfl, g1, g2⟩ := p1.uncons
                      obtain ⟨v2, vs2, rfl, g3, g4⟩ := g2.uncons
                      obtain rfl := g4.nil_of
                      have ex := g1.int_of
                      have ex2 := g3.int_of
                      subst ex ex2
                      split at ey1
                      · rename_i hj
                        rw [Bool.and_eq_true] at hj
                        cases ey1
                        exact ⟨i, j, rfl, ⟨(rng_ok hj.1).1, (rng_ok hj.1).2, (rng_ok hj.2).1, (rng_ok hj.2).2⟩, q2.fin rfl r1 fun _ _ _ _ => it_range⟩
                      · cases ey1
                    · cases ey1
                  · cases ey1
            · cases h
          · split at h
            · rename_i tp
              have tgT : ∃ elts kk tpos, tg = .Tuple elts kk tpos := by
                cases tg <;> first | exact ⟨_, _, _, rfl⟩ | exact absurd (show false = true from tp) (by simp)
              obtain ⟨elts, kk, tpos, rfl⟩ := tgT
              split at h
              · rename_i ex
                subst ex
                split at h
                · rename_i a b
                  have ns : noStar a = true ∧ noStar b = true := by simpa using h3
                  cases e1 : r false sc a with
                  | none => rw [e1] at h; cases h
                  | some ca =>
                    cases e2 : r false sc b with
                    | none => rw [e1, e2] at h; cases h
                    | some cb =>
                      rw [e1, e2] at h; cases h
                      refine pi_imp (RZ.pi_zipA gl mg (pa_snd hr w hl (cmpL_two e1 e2)) (by rw [star_cons ns.1]) (star_plain (es := [b]) (by simpa using ns.2))) fun σ H R q => ?_
                      obtain ⟨P, F0, F, ι, ρ, st, r0, p⟩ := q
                      refine ⟨P, F0, F, ι, ρ, st, r0, IPost.bA p fun xs ρ1 st1 F1 ι1 H1 vs s1 e1 r1 p1 q1 => ?_⟩
                      obtain ⟨y, ey, q2⟩ := IPost.giv q1
                      have ey1 : zip2 xs = some y := ey
                      unfold zip2 at ey1
                      split at ey1
                      · obtain ⟨v1, vs1, rfl, g1, g2⟩ := p1.uncons
                        obtain ⟨v2, vs2, rfl, g3, g4⟩ := g2.uncons
                        obtain rfl := g4.nil_of
                        split at ey1
                        · obtain ⟨a1, ws1, rfl, k1, k2⟩ := g1.lst_of
                          obtain ⟨a2, ws2, rfl, k3, k4⟩ := g3.lst_of
                          cases ey1
                          exact ⟨a1, a2, ws1, ws2, rfl, .inl ⟨.inl (r1.r.fh.rd k1), .inl (r1.r.fh.rd k3), q2.fin rfl r1 fun F2 ι2 s2 e2 => by rw [w.k]; exact it_zipL (s2.rd k1) (k2.mono s2 e2) (s2.rd k3) (k4.mono s2 e2)⟩⟩
                        · obtain ⟨a1, ws1, rfl, k1, k2⟩ := g1.tup_of
                          obtain ⟨a2, ws2, rfl, k3, k4⟩ := g3.tup_of
                          cases ey1
                          exact ⟨a1, a2, ws1, ws2, rfl, .inr ⟨by rw [w.k]; exact r1.r.fh.stp k1, by rw [w.k]; exact r1.r.fh.stp k3, q2.fin rfl r1 fun F2 ι2 s2 e2 => by rw [w.k]; exact it_zipT (s2.stp k1) (k2.mono s2 e2) (s2.stp k3) (k4.mono s2 e2)⟩⟩
                        · cases ey1
                      · cases ey1
                · cases h
              · rename_i ex1 ex2
                have ex : x = ("enumerate" : Str) := by
                  simp only [Bool.or_eq_true, decide_eq_true_eq] at h6
                  rcases h6 with (z | z) | z
                  · exact absurd z ex1
                  · exact absurd z ex2
                  · exact z
                subst ex
                split at h
                · rename_i a
                  have ns : noStar a = true := by simpa using h3
                  cases e1 : r false sc a with
                  | none => rw [e1] at h; cases h
                  | some ca =>
                    rw [e1] at h; cases h
                    refine pi_imp (pi_enum gl mg (pa_snd hr w hl (cmpL_one e1)) (no1 ns)) fun σ H R q => ?_
                    obtain ⟨P, F0, F, ι, ρ, st, r0, p⟩ := q
                    refine ⟨P, F0, F, ι, ρ, st, r0, IPost.bA p fun xs ρ1 st1 F1 ι1 H1 vs s1 e1 r1 p1 q1 => ?_⟩
                    obtain ⟨y, ey, q2⟩ := IPost.giv q1
                    have ey1 : onL (fun xs => some (PV.lst (enumP 0 xs))) xs = some y := ey
                    unfold onL at ey1
                    split at ey1
                    · split at ey1
                      · obtain ⟨v1, vs1, rfl, g1, g2⟩ := p1.uncons
                        obtain rfl := g2.nil_of
                        obtain ⟨a1, ws1, rfl, k1, k2⟩ := g1.lst_of
                        cases ey1
                        exact ⟨a1, ws1, rfl, .inl (r1.r.fh.rd k1), q2.fin rfl r1 fun F2 ι2 s2 e2 => by rw [w.k]; exact it_enum (s2.rd k1) (k2.mono s2 e2)⟩
                      · cases ey1
                    · cases ey1
                · cases h
            · cases h
        · exact pi_of w.k (hr.v _ _ _ h X E g w hl)
      · exact pi_of w.k (hr.v _ _ _ h X E g w hl)
    · exact pi_of w.k (hr.v _ _ _ h X E g w hl)
end
end Cv

set_option Elab.async false
set_option linter.all false
set_option maxRecDepth 100000
set_option maxHeartbeats 4000000
/-! Core10: comprehensions. -/
namespace Cv
open PySem PySem.Spec PyProof.Rows L2
/-! ### slots -/
theorem wipeS_len : ∀ {vs : List Nat} {ρ : Evn}, (wipeS ρ vs).length = ρ.length
  | [], _ => rfl
  | i :: vs, ρ => by unfold wipeS; rw [set_len, wipeS_len]
theorem wipeS_out : ∀ {vs : List Nat} {ρ : Evn} {j : Nat}, j ∉ vs → getS (wipeS ρ vs) j = getS ρ j
  | [], _, _, _ => rfl
  | i :: vs, ρ, j, h => by
    unfold wipeS
    rw [get_set_ne fun e => h (by rw [e]; exact List.mem_cons_self), wipeS_out fun z => h (List.mem_cons_of_mem _ z)]
theorem wipeS_in : ∀ {vs : List Nat} {ρ : Evn} {j : Nat}, j ∈ vs → getS (wipeS ρ vs) j = .no
  | i :: vs, ρ, j, h => by
    unfold wipeS
    by_cases e : i = j
    · subst e
      by_cases c : i < ρ.length
      · exact get_set_self (by rw [wipeS_len]; exact c)
      · exact get_out (by rw [set_len, wipeS_len]; omega)
    · rw [get_set_ne e]
      rcases List.mem_cons.mp h with z | z
      · exact absurd z.symm e
      · exact wipeS_in z
theorem backS_len : ∀ {vs : List Nat} {ρ o : Evn}, (backS ρ o vs).length = ρ.length
  | [], _, _ => rfl
  | i :: vs, ρ, o => by unfold backS; rw [set_len, backS_len]
theorem backS_out : ∀ {vs : List Nat} {ρ o : Evn} {j : Nat}, j ∉ vs → getS (backS ρ o vs) j = getS ρ j
  | [], _, _, _, _ => rfl
  | i :: vs, ρ, o, j, h => by
    unfold backS
    rw [get_set_ne fun e => h (by rw [e]; exact List.mem_cons_self), backS_out fun z => h (List.mem_cons_of_mem _ z)]
theorem backS_in : ∀ {vs : List Nat} {ρ o : Evn} {j : Nat}, ρ.length = o.length → j ∈ vs → getS (backS ρ o vs) j = getS o j
  | i :: vs, ρ, o, j, hl, h => by
    unfold backS
    by_cases e : i = j
    · subst e
      by_cases c : i < ρ.length
      · exact get_set_self (by rw [backS_len]; exact c)
      · rw [get_out (by rw [set_len, backS_len]; omega), get_out (by omega)]
    · rw [get_set_ne e]
      rcases List.mem_cons.mp h with z | z
      · exact absurd z.symm e
      · exact backS_in hl z
theorem wipe_out : ∀ {vs : List Nat} {σ : L2.St} {j : Nat}, j ∉ vs → (wipe σ vs)[j]? = σ[j]?
  | [], _, _, _ => rfl
  | i :: vs, σ, j, h => by
    unfold wipe
    rw [List.getElem?_set_ne fun e => h (by rw [e]; exact List.mem_cons_self), wipe_out fun z => h (List.mem_cons_of_mem _ z)]
theorem wipe_in : ∀ {vs : List Nat} {σ : L2.St} {j : Nat}, j ∈ vs → (wipe σ vs)[j]? = if j < σ.length then some none else none
  | i :: vs, σ, j, h => by
    unfold wipe
    by_cases e : i = j
    · subst e
      by_cases c : i < σ.length
      · rw [if_pos c, List.getElem?_set_self (by rw [wipe_length]; exact c)]
      · rw [if_neg c, List.getElem?_eq_none (by rw [List.length_set, wipe_length]; omega)]
    · rw [List.getElem?_set_ne e]
      rcases List.mem_cons.mp h with z | z
      · exact absurd z.symm e
      · exact wipe_in z
theorem wipe_same {vs l : List Nat} {σ σ2 : L2.St} (h : Out l (wipe σ vs) σ2) (hs : ∀ i ∈ l, i ∈ vs) : wipe σ2 vs = wipe σ vs := by
  have hl : σ2.length = σ.length := by rw [h.1, wipe_length]
  refine List.ext_getElem? fun j => ?_
  by_cases c : j ∈ vs
  · rw [wipe_in c, wipe_in c, hl]
  · rw [wipe_out c, h.2 j fun z => c (hs j z)]
def NoOwn (ρ : Evn) (i : Nat) : Prop := ∀ xs, getS ρ i ≠ .own xs
theorem frz_keeps {ρ : Evn} {i j : Nat} (h : NoOwn ρ j) : NoOwn (Cv.frz ρ i) j := by
  unfold Cv.frz
  cases e : getS ρ i with
  | no => exact h
  | val v => exact h
  | own xs =>
    intro ys z
    rcases set_cases ρ i j (.val (.lst xs)) with ⟨_, z2, _⟩ | ⟨z1, _⟩
    · show False
      have z' : getS (setS ρ i (.val (.lst xs))) j = .own ys := z
      rw [z2] at z'; cases z'
    · have z' : getS (setS ρ i (.val (.lst xs))) j = .own ys := z
      rw [z1] at z'; exact h ys z'
theorem frz_own {ρ : Evn} {i : Nat} : NoOwn (Cv.frz ρ i) i := by
  unfold Cv.frz
  cases e : getS ρ i with
  | no => intro xs z; have z' : getS ρ i = .own xs := z; rw [e] at z'; cases z'
  | val v => intro xs z; have z' : getS ρ i = .own xs := z; rw [e] at z'; cases z'
  | own xs =>
    intro ys z
    have z' : getS (setS ρ i (.val (.lst xs))) i = .own ys := z
    rw [get_set_self (get_lt (by rw [e]; intro q; cases q))] at z'
    cases z'
theorem frzAll_keeps : ∀ {vs : List Nat} {ρ : Evn} {j : Nat}, NoOwn ρ j → NoOwn (Cv.frzAll ρ vs) j
  | [], _, _, h => h
  | i :: vs, ρ, j, h => frzAll_keeps (vs := vs) (frz_keeps (i := i) h)
theorem frzAll_own : ∀ {vs : List Nat} {ρ : Evn} {i : Nat}, i ∈ vs → NoOwn (Cv.frzAll ρ vs) i
  | j :: vs, ρ, i, h => by
    rcases List.mem_cons.mp h with z | z
    · rw [z]; exact frzAll_keeps (vs := vs) (ρ := Cv.frz ρ j) frz_own
    · exact frzAll_own (vs := vs) (ρ := Cv.frz ρ j) z
section
variable {Z : Fx} {P F0 F F1 F' H H' H1 : Hp} {ι ι1 ι' : List Addr} {σ σ2 : L2.St} {ρ ρ1 : Evn} {st st' st1 : Sto} {Q : VK} {E : XK} {X : Cx} {C : CC} {f g : Cl} {lv : Nat} {sc : Scope} {r : Rc} {R : It → Hp → Prop} {D : Addr} {vs : List Nat}
/-- slots forgotten -/
theorem Rel.wipe (r : Rel Z P F0 F ι σ H ρ st) (vs : List Nat) : Rel Z P F0 F ι (L2.wipe σ vs) H (wipeS ρ vs) st := by
  have own : ∀ {j a}, OwnAt (L2.wipe σ vs) (wipeS ρ vs) j a → OwnAt σ ρ j a := fun {j a} ⟨xs, h1, h2⟩ => by
    by_cases c : j ∈ vs
    · rw [wipeS_in c] at h1; cases h1
    · rw [wipeS_out c] at h1; rw [wipe_out c] at h2; exact ⟨xs, h1, h2⟩
  refine ⟨r.r, by rw [wipe_length, wipeS_len]; exact r.len, fun j => ?_, fun i j a h1 h2 => r.ap i j a (own h1) (own h2)⟩
  by_cases c : j ∈ vs
  · rw [wipeS_in c]; trivial
  · rw [wipeS_out c, wipe_out c]; exact r.sl j
/-- the list that a comprehension makes: protected -/
theorem Rel.guard {o : List V} (r : Rel Z P F0 F ι σ H ρ st) (h : H D = none) : Rel Z (upd P D (.lst o)) F0 F ι σ (upd H D (.lst o)) ρ st := by
  obtain ⟨f1, f2, f3⟩ := r.r.fresh h
  have nt : ∀ q ∈ Z.T, q.1 ≠ D := fun q hq e => by
    obtain ⟨ps, h1, _⟩ := r.r.tb q hq
    rw [e, h] at h1; cases h1
  have f0 : F0 D = none := by
    cases e : F0 D with
    | none => rfl
    | some u => rw [r.r.f0 _ _ e] at f1; cases f1
  have r0 : Rel0 Z (upd P D (.lst o)) F0 F ι (upd H D (.lst o)) st := by
    refine ⟨r.r.fh.up f1, r.r.ph.up2, fun a u e => ?_, r.r.f0, fun a ha => ?_, ⟨r.r.pt.1.lst, r.r.pt.2⟩, r.r.nd, r.r.tb.ext (sub_upd h), ?_⟩
    · by_cases z : a = D
      · rw [z, f1, f0]
      · rw [upd_ne z] at e; exact r.r.pf a u e
    · rw [upd_ne fun z => f3 (by rw [← z]; exact ha)]; exact r.r.pi a ha
    · exact r.r.sto.mono .rfl' fun n a e => upd_ne fun z => f3 (by rw [← z]; exact List.mem_of_getElem? e)
  refine ⟨r0, r.len, fun j => ?_, r.ap⟩
  have hj := r.sl j
  cases ej : getS ρ j with
  | no => trivial
  | val y => rw [ej] at hj; exact hj
  | own zs =>
    rw [ej] at hj
    obtain ⟨b, ws, q1, q2, q3, q4, q5, q6⟩ := hj
    have ne : b ≠ D := fun z => by rw [z, h] at q2; cases q2
    exact ⟨b, ws, q1, by rw [upd_ne ne]; exact q2, q3, q4, by rw [upd_ne ne]; exact q5, q6⟩
/-- it grows -/
theorem Rel.accum {o o' : List V} (r : Rel Z (upd P D (.lst o)) F0 F ι σ H ρ st) (f0 : F0 D = none) : Rel Z (upd P D (.lst o')) F0 F ι σ (upd H D (.lst o')) ρ st := by
  have hD : H D = some (.lst o) := r.r.ph _ _ upd_same
  have fD : F D = none := by rw [r.r.pf D _ upd_same]; exact f0
  have iD : D ∉ ι := fun z => by
    have := (r.r.pi D z).1
    rw [upd_same] at this; cases this
  have tD : ∀ p ∈ Z.T, p.1 ≠ D := fun p hp z => by
    have := (r.r.ptN hp).1
    rw [z, upd_same] at this; cases this
  have r0 : Rel0 Z (upd P D (.lst o')) F0 F ι (upd H D (.lst o')) st := by
    refine ⟨r.r.fh.up fD, fun a u e => ?_, fun a u e => ?_, r.r.f0, fun a ha => ?_, ⟨?_, r.r.pt.2⟩, r.r.nd, fun q hq => ?_, r.r.sto.mono .rfl' fun n b z => upd_ne fun q => iD (by rw [← q]; exact List.mem_of_getElem? z)⟩
    · by_cases z : a = D
      · subst z; rw [upd_same] at e ⊢; exact e
      · rw [upd_ne z] at e ⊢; exact r.r.ph a u (by rw [upd_ne z]; exact e)
    · by_cases z : a = D
      · rw [z, fD, f0]
      · rw [upd_ne z] at e; exact r.r.pf a u (by rw [upd_ne z]; exact e)
    · have ne : a ≠ D := fun z => iD (by rw [← z]; exact ha)
      have := r.r.pi a ha
      rw [upd_ne ne] at this ⊢; exact this
    · intro a ps e
      by_cases z : a = D
      · subst z; rw [upd_same] at e; cases e
      · rw [upd_ne z] at e; exact r.r.pt.1 a ps (by rw [upd_ne z]; exact e)
    · obtain ⟨ps, t1, t2, t3⟩ := r.r.tb q hq
      refine ⟨ps, by rw [upd_ne (tD q hq)]; exact t1, t2, fun pos cv hc => ?_⟩
      obtain ⟨c, c1, c2⟩ := t3 pos cv hc
      refine ⟨c, c1, ?_⟩
      rw [upd_ne (fun z => by rw [z, hD] at c2; cases c2)]; exact c2
  refine ⟨r0, r.len, fun j => ?_, r.ap⟩
  have hj := r.sl j
  cases ej : getS ρ j with
  | no => trivial
  | val y => rw [ej] at hj; exact hj
  | own zs =>
    rw [ej] at hj
    obtain ⟨b, ws, q1, q2, q3, q4, q5, q6⟩ := hj
    have ne : b ≠ D := fun z => by rw [z, upd_same] at q5; cases q5
    rw [upd_ne ne] at q5
    exact ⟨b, ws, q1, by rw [upd_ne ne]; exact q2, q3, q4, by rw [upd_ne ne]; exact q5, q6⟩
/-- behind the comprehension: the list is never changed, the slots of the block are as they were -/
theorem Rel.unguard {o : List V} (r : Rel Z (upd P D (.lst o)) F0 F ι (L2.wipe σ vs) H (wipeS ρ vs) st) (r0 : Rel Z P F0 F1 ι1 σ H1 ρ1 st1) (hs : Sb F1 F) (he : Ex ι1 ι) (hD : H1 D = none) (nb : ∀ i ∈ vs, NoOwn ρ1 i) :
    Rel Z P F0 (upd F D (.lst o)) ι σ H (backS ρ ρ1 vs) st ∧ Sb F (upd F D (.lst o)) := by
  obtain ⟨f1, f2, f3⟩ := r0.r.fresh hD
  have f0 : F0 D = none := by
    cases e : F0 D with
    | none => rfl
    | some u => rw [r0.r.f0 _ _ e] at f1; cases f1
  have hH : H D = some (.lst o) := r.r.ph _ _ upd_same
  have fD : F D = none := by rw [r.r.pf D _ upd_same]; exact f0
  have iD : D ∉ ι := fun z => by
    have := (r.r.pi D z).1
    rw [upd_same] at this; cases this
  have tD : ∀ p ∈ Z.T, p.1 ≠ D := fun p hp z => by
    have := (r.r.ptN hp).1
    rw [z, upd_same] at this; cases this
  have sF : Sb F (upd F D (.lst o)) := Sb.rfl'.up fD
  have rr : Rel0 Z P F0 (upd F D (.lst o)) ι H st := by
    refine ⟨fun a u e => ?_, fun a u e => ?_, fun a u e => ?_, r.r.f0.tr sF, fun a ha => ?_, ⟨r0.r.pt.1, r.r.pt.2.lst⟩, r.r.nd, r.r.tb, r.r.sto.mono sF fun _ _ _ => rfl⟩
    · by_cases z : a = D
      · subst z; rw [upd_same] at e; cases e; exact hH
      · rw [upd_ne z] at e; exact r.r.fh a u e
    · have ne : a ≠ D := fun z => by rw [z, f2] at e; cases e
      exact r.r.ph a u (by rw [upd_ne ne]; exact e)
    · have ne : a ≠ D := fun z => by rw [z, f2] at e; cases e
      rw [upd_ne ne]
      exact r.r.pf a u (by rw [upd_ne ne]; exact e)
    · have ne : a ≠ D := fun z => iD (by rw [← z]; exact ha)
      have := r.r.pi a ha
      rw [upd_ne ne] at this ⊢; exact this
  have ln : ρ.length = σ.length := by have := r.len; rw [wipe_length, wipeS_len] at this; exact this.symm
  have ln1 : ρ.length = ρ1.length := by rw [ln, r0.len]
  have own : ∀ {j a}, OwnAt σ (backS ρ ρ1 vs) j a → OwnAt (L2.wipe σ vs) (wipeS ρ vs) j a := fun {j a} ⟨xs, h1, h2⟩ => by
    by_cases c : j ∈ vs
    · rw [backS_in ln1 c] at h1; exact absurd h1 (nb j c xs)
    · rw [backS_out c] at h1
      exact ⟨xs, by rw [wipeS_out c]; exact h1, by rw [wipe_out c]; exact h2⟩
  refine ⟨⟨rr, by rw [backS_len]; exact ln.symm, fun j => ?_, fun i j a h1 h2 => r.ap i j a (own h1) (own h2)⟩, sF⟩
  by_cases c : j ∈ vs
  · rw [backS_in ln1 c]
    have hj := r0.sl j
    cases e : getS ρ1 j with
    | no => trivial
    | val y => rw [e] at hj; obtain ⟨v, q1, q2⟩ := hj; exact ⟨v, q1, q2.mono (hs.tr sF) he⟩
    | own xs => exact absurd e (nb j c xs)
  · rw [backS_out c]
    have hj := r.sl j
    rw [wipeS_out c, wipe_out c] at hj
    cases e : getS ρ j with
    | no => trivial
    | val y => rw [e] at hj; obtain ⟨v, q1, q2⟩ := hj; exact ⟨v, q1, q2.mono sF .rfl'⟩
    | own xs =>
      rw [e] at hj
      obtain ⟨b, ws, q1, q2, q3, q4, q5, q6⟩ := hj
      have ne : b ≠ D := fun z => by rw [z, upd_same] at q5; cases q5
      rw [upd_ne ne] at q5
      exact ⟨b, ws, q1, q2, q3.mono sF .rfl', by rw [upd_ne ne]; exact q4, q5, q6⟩
/-! ### what is wanted of the rest of a comprehension -/
def LPost (Z : Fx) (P F0 : Hp) (σ : L2.St) (F : Hp) (ι : List Addr) (Q : VK) (ρb : Evn) (vs : List Nat) (acc : List PV) : ResE → Prop
  | .ok ws ρ' st' => fits (acc.length + ws.length) = true ∧ ∀ F' ι' H' v, Sb F F' → Ex ι ι' → Rel Z P F0 F' ι' σ H' (backS ρ' ρb vs) st' → Rep Z.K F' ι' (.lst (acc ++ ws)) v → Q v H'
  | _ => False
variable {P' : Hp} {Q1 : VK} {acc : List PV} {ρb : Evn}
theorem LPost.weak {x : ResE} (hs : Sb F F1) (he : Ex ι ι1) (h : LPost Z P F0 σ F ι Q ρb vs acc x) : LPost Z P F0 σ F1 ι1 Q ρb vs acc x := by
  cases x with
  | ok ws ρ st => exact ⟨h.1, fun F' ι' H' v a b => h.2 F' ι' H' v (hs.tr a) (he.tr b)⟩
  | ex c v st => exact h
  | fail => exact h
theorem LPost.bB {k : Bool → Evn → Sto → ResE} {x : ResE} (h : LPost Z P F0 σ F ι Q ρb vs acc (x.bind (dB k)))
    (hk : ∀ b ρ st F1 ι1 H1, Sb F F1 → Ex ι ι1 → Rel Z P' F0 F1 ι1 σ2 H1 ρ st → LPost Z P F0 σ F1 ι1 Q ρb vs acc (k b ρ st) → Q1 (.bl b) H1) : EPost Z P' F0 σ2 F ι E Q1 x := by
  cases x with
  | ok xs ρ st =>
    match xs, h with
    | [.bl b], h =>
      intro F' ι' H' v a b' c d
      rw [d.bl_of]
      exact hk b ρ st F' ι' H' a b' c (LPost.weak a b' h)
    | [], h => exact (show False from h).elim
    | [.non], h | [.int _], h | [.str _], h | [.tup _], h | [.lst _], h | [.ob _], h => exact (show False from h).elim
    | .non :: _ :: _, h | .bl _ :: _ :: _, h | .int _ :: _ :: _, h | .str _ :: _ :: _, h | .tup _ :: _ :: _, h | .lst _ :: _ :: _, h | .ob _ :: _ :: _, h => exact (show False from h).elim
  | ex c x st => exact (show False from h).elim
  | fail => exact (show False from h).elim
theorem LPost.b1 {k : PV → Evn → Sto → ResE} {x : ResE} (h : LPost Z P F0 σ F ι Q ρb vs acc (x.bind (d1 k)))
    (hk : ∀ x ρ st F1 ι1 H1 v, Sb F F1 → Ex ι ι1 → Rel Z P' F0 F1 ι1 σ2 H1 ρ st → Rep Z.K F1 ι1 x v → LPost Z P F0 σ F1 ι1 Q ρb vs acc (k x ρ st) → Q1 v H1) : EPost Z P' F0 σ2 F ι E Q1 x := by
  cases x with
  | ok xs ρ st =>
    match xs, h with
    | [x], h => exact fun F' ι' H' v a b c d => hk x ρ st F' ι' H' v a b c d (LPost.weak a b h)
    | [], h => exact (show False from h).elim
    | _ :: _ :: _, h => exact (show False from h).elim
  | ex c x st => exact (show False from h).elim
  | fail => exact (show False from h).elim
theorem LPost.step {w : PV} {x : ResE} (h : LPost Z P F0 σ F ι Q ρb vs acc (x.bind fun ws ρ st => .ok (w :: ws) ρ st)) : LPost Z P F0 σ F ι Q ρb vs (acc ++ [w]) x ∧ fits (acc.length + 1) = true := by
  cases x with
  | ok ws ρ st =>
    obtain ⟨h1, h2⟩ := h
    have e : (acc ++ [w]).length + ws.length = acc.length + (w :: ws).length := by simp; omega
    have e2 : (acc ++ [w]) ++ ws = acc ++ (w :: ws) := by simp
    refine ⟨⟨by rw [e]; exact h1, by rw [e2]; exact h2⟩, ?_⟩
    have h3 := Nat.le_of_ble_eq_true h1
    refine Nat.ble_eq_true_of_le ?_
    have : (w :: ws).length = ws.length + 1 := rfl
    omega
  | ex c v st => exact (show False from h).elim
  | fail => exact (show False from h).elim
end
/-! ### from the model's syntax -/
def ownsOf (N : List Str) : List (Str × NameKind) → List (Str × Nat)
  | [] => []
  | (n, k) :: r => match k with
    | .local | .cell => (match nIx N n with
      | some i => (n, i) :: ownsOf N r
      | none => ownsOf N r)
    | _ => ownsOf N r
def ownCell (scope : Scope) (x : Str) : Bool := scope.names.lookup x == some .cell
def isCmpr : Expr → Bool
  | .ListComp .. => true
  | _ => false
def cmpLC (C : CC) (r : Rc) (sc : Scope) : Expr → Option Ce
  | .ListComp elt gs scope _ => match gs with
    | [⟨tg, it, ifs, n⟩] =>
      if n = 0 && blkC C.N sc scope (ownsOf C.N scope.names) && !isSet it && !decide (C.mks = some (relS scope sc)) then
        (match cmpG C.N (relS scope sc) (ownCell scope) 6 tg, cmpW C r sc tg it, r false (relS scope sc) elt with
        | some t, some ci, some ce => if (tgS t).all fun i => (ownsOf C.N scope.names).map (·.2) |>.contains i then
            (match ifs with
            | [] => some (.lc ((ownsOf C.N scope.names).map (·.2)) t ci (.c (.bl true)) ce)
            | [c] => (r true (relS scope sc) c).map fun cc => .lc ((ownsOf C.N scope.names).map (·.2)) t ci cc ce
            | _ => none) else none
        | _, _, _ => none)
      else none
    | _ => none
  | _ => none
section
variable {Z : Fx} {P F0 F F1 F' H H' H1 : Hp} {ι ι1 ι' : List Addr} {σ σ2 : L2.St} {ρ ρ1 : Evn} {st st' st1 : Sto} {Q : VK} {E : XK} {X : Cx} {C : CC} {f g : Cl} {lv : Nat} {sc : Scope} {r : Rc} {R : It → Hp → Prop} {D : Addr} {vs : List Nat}
theorem Cw.blk (w : Cw Z C f lv sc X E) {scope : Scope} (hm : C.mks ≠ some (relS scope sc)) {s : Shared} {H : Hp} {A : Addr} {cl : List (Str × Addr)} {fp : List Addr} : Cw Z C f lv (relS scope sc) (X.blk s H scope (compEnvC scope cl A X.env) fp) (fun _ _ _ => False) := by
  refine ⟨w.k, w.n, ?_, w.calm, w.nd, takes0, w.rm, w.bl, w.gl, w.fn, w.dt, fun z => absurd (z.trans (congrArg some (show relS scope X.env.scope = relS scope sc by rw [w.sc]))) hm⟩
  show relS scope X.env.scope = relS scope sc
  rw [w.sc]
/-- how a comprehension stands at turn i -/
def LInv (Z : Fx) (P F0 : Hp) (σ : L2.St) (F1 : Hp) (ι1 : List Addr) (Q : VK) (ρb : Evn) (vs : List Nat) (D : Addr) (run : List PV → Evn → Sto → ResE) (xs : List PV) (i : Nat) (H : Hp) : Prop :=
  ∃ F ι ρ st acc accV, Sb F1 F ∧ Ex ι1 ι ∧ Reps Z.K F ι acc accV ∧ Rel Z (upd P D (.lst accV)) F0 F ι (wipe σ vs) H (wipeS ρ vs) st ∧ LPost Z P F0 σ F ι Q ρb vs acc (run (xs.drop i) ρ st)
theorem lc_imp {tt : TT} {g' : Cl} {t : Tgt} {ci cc ce : Ce} (htt : ∀ σ H Q, tTest (tE Z (fun _ _ _ => False) g' cc) σ H Q → tt σ H Q) (hg' : g' = noX g) (hv : ∀ i ∈ tgS t, i ∈ vs) {σ : L2.St} {H : Hp} {Q : VK} (q : tE Z E g (.lc vs t ci cc ce) σ H Q) :
    tLc (tI Z E g ci) (gP Z t) tt (tE Z (fun _ _ _ => False) g' ce) vs σ H Q := by
  obtain ⟨P, F0, F, ι, ρ, st, r0, p⟩ := q
  refine ⟨P, F0, F, ι, ρ, st, r0, ?_⟩
  have p' : EPost Z P F0 σ F ι E Q ((evD ci g ρ st).bind (d1 fun x ρ st => match itemsOf x with
    | some xs => (lcD t vs (evD cc (noX g)) (evD ce (noX g)) xs (Cv.frzAll ρ vs) st).bind fun ws ρ' st' => cnd (fits ws.length) (.ok [.lst ws] (backS ρ' (Cv.frzAll ρ vs) vs) st') .fail
    | none => .fail)) := p
  cases e1 : evD ci g ρ st with
  | ex c x st1 => rw [e1] at p'; exact p'
  | fail => rw [e1] at p'; exact p'
  | ok xs1 ρ1 st1 =>
    rw [e1] at p'
    match xs1, p' with
    | [], p' => exact (show False from p').elim
    | _ :: _ :: _, p' => exact (show False from p').elim
    | [x], p' =>
      have p2 : EPost Z P F0 σ F ι E Q (match itemsOf x with
        | some xs => (lcD t vs (evD cc (noX g)) (evD ce (noX g)) xs (Cv.frzAll ρ1 vs) st1).bind fun ws ρ' st' => cnd (fits ws.length) (.ok [.lst ws] (backS ρ' (Cv.frzAll ρ1 vs) vs) st') .fail
        | none => .fail) := p'
      show (match itemsOf x with | some xs => ∀ F' ι' H' J, Sb F F' → Ex ι ι' → Rel Z P F0 F' ι' σ H' ρ1 st1 → (∀ F2 ι2, Sb F' F2 → Ex ι' ι2 → ItOk Z.K J F2 ι2 xs) → (∀ D, H' D = none → ∃ W : Nat → Nat → Hp → Prop, _) | none => False)
      cases e2 : itemsOf x with
      | none => rw [e2] at p2; exact (show False from p2).elim
      | some xs =>
        rw [e2] at p2
        dsimp only at p2
        intro F1 ι1 H1 J s1 x1 r1 jt D hD
        obtain ⟨F2, s2, r2⟩ := Rel.frzAll vs r1
        have p3 := EPost.weak (s1.tr s2) x1 p2
        have nb : ∀ i ∈ vs, NoOwn (Cv.frzAll ρ1 vs) i := fun i hi => frzAll_own hi
        have f0 : F0 D = none := by
          cases e : F0 D with
          | none => rfl
          | some u => have := r2.r.fh _ _ (r2.r.f0 _ _ e); rw [hD] at this; cases this
        generalize hrun : lcD t vs (evD cc (noX g)) (evD ce (noX g)) = run at p3
        have start : LPost Z P F0 σ F2 ι1 Q (Cv.frzAll ρ1 vs) vs [] (run xs (Cv.frzAll ρ1 vs) st1) := by
          have ne := NoEx.lc (tg := t) (vs := vs) (noEx cc g) (noEx ce g) xs (Cv.frzAll ρ1 vs) st1
          rw [hrun] at ne
          cases e3 : run xs (Cv.frzAll ρ1 vs) st1 with
          | ex c v st2 => rw [e3] at ne; exact ne.elim
          | fail => rw [e3] at p3; exact (show False from p3).elim
          | ok ws ρ' st' =>
            rw [e3] at p3
            have p4 : EPost Z P F0 σ F2 ι1 E Q (cnd (fits ws.length) (.ok [.lst ws] (backS ρ' (Cv.frzAll ρ1 vs) vs) st') .fail) := p3
            cases e4 : fits ws.length with
            | false => rw [e4] at p4; exact (show False from p4).elim
            | true => rw [e4] at p4; exact ⟨by simpa using e4, p4⟩
        refine ⟨fun i m H => m = xs.length - i ∧ i ≤ xs.length ∧ LInv Z P F0 σ F2 ι1 Q (Cv.frzAll ρ1 vs) vs D run xs i H, ⟨xs.length, by simp, Nat.zero_le _, F2, ι1, _, st1, [], [], .rfl', .rfl', .nil, (r2.guard hD).wipe vs, by simpa using start⟩, ?_⟩
        rintro i m H3 ⟨rfl, hi, F3, ι3, ρ3, st3, acc, accV, s3, x3, ra, r3, p5⟩
        have it : ItOk Z.K J F3 ι3 xs := jt F3 ι3 (s2.tr s3) x3
        by_cases hlt : i < xs.length
        · refine .inr ⟨it.go i H3 r3.r.fh hlt, LInv Z P F0 σ F2 ι1 Q (Cv.frzAll ρ1 vs) vs D run xs (i + 1), fun H' h' => ⟨xs.length - (i + 1), by omega, rfl, hlt, h'⟩, fun v H4 y4 => ?_⟩
          have hx : xs[i]? = some xs[i] := List.getElem?_eq_getElem hlt
          have hd : xs.drop i = xs[i] :: xs.drop (i + 1) := List.drop_eq_getElem_cons hlt
          rw [hd] at p5
          -- what came
          have got : ∃ F4, Sb F3 F4 ∧ Rel Z (upd P D (.lst accV)) F0 F4 ι3 (wipe σ vs) H4 (wipeS ρ3 vs) st3 ∧ Rep Z.K F4 ι3 xs[i] v := by
            rcases it.yld i H3 v H4 r3.r.fh y4 _ hx with ⟨rfl, rp⟩ | ⟨T, us, ys, t1, rfl, rfl, t2, t3⟩
            · exact ⟨F3, .rfl', r3, rp⟩
            · have sF : Sb F3 (upd F3 T (.tup us)) := Sb.rfl'.up (r3.r.fresh t1).1
              exact ⟨_, sF, r3.new t1 (fun ps z => by cases z), by rw [t2]; exact .tup (.of upd_same) (t3.mono sF .rfl')⟩
          obtain ⟨F4, s4, r4, rp⟩ := got
          have p6 : LPost Z P F0 σ F3 ι3 Q (Cv.frzAll ρ1 vs) vs acc (match bindT t xs[i] (wipeS ρ3 vs) with
            | some ρ1 => (evD cc (noX g) ρ1 st3).bind (dB fun b ρ2 st2 => cnd b ((evD ce (noX g) ρ2 st2).bind (d1 fun w ρ3 st3 => (run (xs.drop (i + 1)) ρ3 st3).bind fun ws ρ4 st4 => .ok (w :: ws) ρ4 st4)) (run (xs.drop (i + 1)) ρ2 st2))
            | none => .fail) := by rw [← hrun] at p5 ⊢; exact p5
          refine ⟨_, F0, F4, ι3, _, st3, _, r4, rp, ?_⟩
          cases e5 : bindT t xs[i] (wipeS ρ3 vs) with
          | none => rw [e5] at p6; exact (show False from p6).elim
          | some ρ5 =>
            rw [e5] at p6
            intro σ5 o5 r5
            have ws5 : wipe σ5 vs = wipe σ vs := wipe_same o5 hv
            refine ⟨ws5, htt _ _ _ ⟨_, F0, F4, ι3, ρ5, st3, r5, ?_⟩⟩
            subst hg'
            refine LPost.bB (LPost.weak s4 .rfl' p6) fun b ρ6 st6 F6 ι6 H6 s6 x6 r6 p7 => ⟨b, rfl, ?_⟩
            cases b with
            | true =>
              rw [if_pos rfl]
              have p8 : LPost Z P F0 σ F6 ι6 Q (Cv.frzAll ρ1 vs) vs acc ((evD ce (noX g) ρ6 st6).bind (d1 fun w ρ3 st3 => (run (xs.drop (i + 1)) ρ3 st3).bind fun ws ρ4 st4 => .ok (w :: ws) ρ4 st4)) := p7
              refine ⟨_, F0, F6, ι6, ρ6, st6, r6, LPost.b1 p8 fun y ρ7 st7 F7 ι7 H7 v7 s7 x7 r7 rp7 p9 => ?_⟩
              obtain ⟨pa, pb⟩ := p9.step
              have ra7 := ra.mono (s4.tr (s6.tr s7)) (x6.tr x7)
              refine ⟨accV, r7.r.ph _ _ upd_same, ?_, F7, ι7, ρ7, st7, acc ++ [y], accV ++ [v7], s3.tr (s4.tr (s6.tr s7)), x3.tr (x6.tr x7), ra7.app (.cons rp7 .nil), ?_, pa⟩
              · have := fits_le pb
                rw [ra.len]; omega
              · have := (r7.accum (o' := accV ++ [v7]) f0).wipe vs
                rw [ws5] at this
                exact this
            | false =>
              rw [if_neg Bool.false_ne_true]
              have p8 : LPost Z P F0 σ F6 ι6 Q (Cv.frzAll ρ1 vs) vs acc (run (xs.drop (i + 1)) ρ6 st6) := p7
              have := r6.wipe vs
              rw [ws5] at this
              exact ⟨F6, ι6, ρ6, st6, acc, accV, s3.tr (s4.tr s6), x3.tr x6, ra.mono (s4.tr s6) x6, this, p8⟩
        · have e : i = xs.length := by omega
          subst e
          refine .inl ⟨it.stop _ H3 r3.r.fh (Nat.le_refl _), ?_⟩
          rw [List.drop_length] at p5
          have p6 : LPost Z P F0 σ F3 ι3 Q (Cv.frzAll ρ1 vs) vs acc (.ok [] ρ3 st3) := by rw [← hrun] at p5; exact p5
          obtain ⟨r6, s6⟩ := r3.unguard r2 s3 x3 hD nb
          have := p6.2 _ ι3 H3 (.ref D) s6 .rfl' r6 (by rw [List.append_nil]; exact .lst (.of upd_same) (ra.mono s6 .rfl'))
          exact this
end
end Cv

set_option Elab.async false
set_option linter.all false
set_option maxRecDepth 100000
set_option maxHeartbeats 4000000
/-! Core11: all expressions. -/
namespace Cv
open PySem PySem.Spec PyProof.Rows L2
section
variable {Z : Fx} {P F0 F F1 F' H H' H1 : Hp} {ι ι1 ι' : List Addr} {σ σ2 : L2.St} {ρ ρ1 : Evn} {st st' st1 : Sto} {Q : VK} {E : XK} {X : Cx} {C : CC} {f g : Cl} {lv : Nat} {sc : Scope} {r : Rc}
/-- the parts of a comprehension that is read -/
structure LcOk (C : CC) (r : Rc) (sc : Scope) (elt tg it : Expr) (ifs : List Expr) (scope : Scope) (c : Ce) : Prop where
  ok : blkC C.N sc scope (ownsOf C.N scope.names) = true
  ns : isSet it = false
  nm : C.mks ≠ some (relS scope sc)
  ex : ∃ t ci cc ce, c = .lc ((ownsOf C.N scope.names).map (·.2)) t ci cc ce ∧ cmpG C.N (relS scope sc) (ownCell scope) 6 tg = some t ∧ cmpW C r sc tg it = some ci ∧ r false (relS scope sc) elt = some ce ∧
    (∀ i ∈ tgS t, i ∈ (ownsOf C.N scope.names).map (·.2)) ∧ ((ifs = [] ∧ cc = .c (.bl true)) ∨ ∃ x, ifs = [x] ∧ r true (relS scope sc) x = some cc)
theorem cmpLC_ok {e : Expr} {c : Ce} (h : cmpLC C r sc e = some c) : ∃ elt tg it ifs scope pos, e = .ListComp elt [⟨tg, it, ifs, 0⟩] scope pos ∧ LcOk C r sc elt tg it ifs scope c := by
  unfold cmpLC at h
  split at h
  · rename_i elt gs scope pos
    split at h
    · rename_i tg it ifs n
      split at h
      · rename_i hc
        simp only [Bool.and_eq_true, decide_eq_true_eq, Bool.not_eq_true', decide_eq_false_iff_not] at hc
        obtain ⟨⟨⟨h1, h2⟩, h3⟩, h3'⟩ := hc
        subst h1
        split at h
        · rename_i t ci ce e1 e2 e3
          split at h
          · rename_i hv
            rw [List.all_eq_true] at hv
            have hv' : ∀ i ∈ tgS t, i ∈ (ownsOf C.N scope.names).map (·.2) := fun i hi => by simpa using hv i hi
            split at h
            · cases h
              exact ⟨_, _, _, _, _, _, rfl, h2, h3, h3', _, _, _, _, rfl, e1, e2, e3, hv', .inl ⟨rfl, rfl⟩⟩
            · rename_i x
              cases e4 : r true (relS scope sc) x with
              | none => rw [e4] at h; cases h
              | some cc =>
                rw [e4] at h; cases h
                exact ⟨_, _, _, _, _, _, rfl, h2, h3, h3', _, _, _, _, rfl, e1, e2, e3, hv', .inr ⟨_, rfl, e4⟩⟩
            · cases h
          · cases h
        · cases h
      · cases h
    · cases h
  · cases h
theorem fnIs_blk {scope : Scope} {s : Shared} {H : Hp} {A : Addr} {cl : List (Str × Addr)} {fp : List Addr} : FnIs (X.blk s H scope (compEnvC scope cl A X.env) fp) (ownCell scope) := fun x h => h
/-- the rules' premises -/
theorem lc_parts (hr : Snd Z C f lv r) (w : Cw Z C f lv sc X E) (hl : Le g f) {elt tg it : Expr} {ifs : List Expr} {scope : Scope} {c : Ce} (h : LcOk C r sc elt tg it ifs scope c) : ∃ (t : Tgt) (ci ce : Ce) (tt : TT),
    PI X tg it (tI Z E g ci) ∧ (∀ (s : Shared) (H : Hp) (A : Addr) (cl : List (Str × Addr)) (fp : List Addr), PG (X.blk s H scope (compEnvC scope cl A X.env) fp) tg (gP Z t)) ∧
    (∀ (s : Shared) (H : Hp) (A : Addr) (cl : List (Str × Addr)) (fp : List Addr), PTs (X.blk s H scope (compEnvC scope cl A X.env) fp) ifs tt) ∧
    (∀ (s : Shared) (H : Hp) (A : Addr) (cl : List (Str × Addr)) (fp : List Addr), PE (X.blk s H scope (compEnvC scope cl A X.env) fp) elt (tE Z (fun _ _ _ => False) (noX g) ce)) ∧
    (∀ σ H Q, tE Z E g c σ H Q → tLc (tI Z E g ci) (gP Z t) tt (tE Z (fun _ _ _ => False) (noX g) ce) ((ownsOf C.N scope.names).map (·.2)) σ H Q) := by
  obtain ⟨h1, h2, hm, t, ci, cc, ce, rfl, e1, e2, e3, hv, e4⟩ := h
  have wb := fun (s : Shared) (H : Hp) (A : Addr) (cl : List (Str × Addr)) (fp : List Addr) => w.blk hm (scope := scope) (s := s) (H := H) (A := A) (cl := cl) (fp := fp)
  have pg := fun (s : Shared) (H : Hp) (A : Addr) (cl : List (Str × Addr)) (fp : List Addr) => pg_snd (Z := Z) (X := X.blk s H scope (compEnvC scope cl A X.env) fp) (wb s H A cl fp).n w.nd (wb s H A cl fp).k (wb s H A cl fp).sc (wb s H A cl fp).calm fnIs_blk e1
  have pe := fun (s : Shared) (H : Hp) (A : Addr) (cl : List (Str × Addr)) (fp : List Addr) => hr.v _ _ _ e3 _ _ (noX g) (wb s H A cl fp) hl.noX
  rcases e4 with ⟨rfl, rfl⟩ | ⟨x, rfl, e4⟩
  · refine ⟨t, ci, ce, tYes, pi_snd hr w hl e2, pg, fun _ _ _ _ _ => pts_nil, pe, fun σ H Q q => lc_imp (g' := noX g) (fun σ H Q z => ?_) rfl hv q⟩
    obtain ⟨P, F0, F, ι, ρ, st, r0, p⟩ := z
    obtain ⟨k, e, p⟩ := EPost.ret (show EPost Z P F0 σ F ι _ _ (.ok [.bl true] ρ st) from p) r0 .bl
    cases e
    exact p
  · exact ⟨t, ci, ce, _, pi_snd hr w hl e2, pg, fun s H A cl fp => pts_one (hr.t _ _ _ e4 _ _ (noX g) (wb s H A cl fp) hl.noX), pe, fun σ H Q q => lc_imp (g' := noX g) (fun σ H Q z => z) rfl hv q⟩
theorem snd_lc (hr : Snd Z C f lv r) (w : Cw Z C f lv sc X E) (hl : Le g f) {e : Expr} {c : Ce} (h : cmpLC C r sc e = some c) : PE X e (tE Z E g c) := by
  obtain ⟨elt, tg, it, ifs, scope, pos, rfl, k⟩ := cmpLC_ok h
  obtain ⟨t, ci, ce, tt, h1, h2, h3, h4, h5⟩ := lc_parts hr w hl k
  exact pe_imp (pe_lc (own := ownsOf C.N scope.names) w.calm (by rw [w.n]; exact w.nd) h1 (by rw [w.n, w.sc]; exact blkOk_by k.ok) h2 h3 h4 (noFold k.ns)) h5
/-- what is read with no value of its own -/
def plainT : Expr → Bool
  | .UnaryOp .. | .BoolOp .. | .Compare .. | .IfExp .. => false
  | _ => true
def cmpT (C : CC) (r : Rc) (sc : Scope) (e : Expr) : Option Ce := match e with
  | .UnaryOp o a _ => (match o with
    | .Not => (r true sc a).map .not
    | _ => none)
  | .BoolOp o es _ => boolL (r true sc) o es
  | .Compare a os bs _ => cmpC (r false sc) a os bs
  | e => if plainT e then r false sc e else none
end
end Cv

set_option Elab.async false
set_option linter.all false
set_option maxRecDepth 100000
set_option maxHeartbeats 4000000
/-! Core12: all expressions, put together. -/
namespace Cv
open PySem PySem.Spec PyProof.Rows L2
section
variable {Z : Fx} {P F0 F F1 F' H H' H1 : Hp} {ι ι1 ι' : List Addr} {σ σ2 : L2.St} {ρ ρ1 : Evn} {st st' st1 : Sto} {Q : VK} {E : XK} {X : Cx} {C : CC} {f g : Cl} {lv : Nat} {sc : Scope} {r : Rc}
theorem m1 {α γ : Type} {a : Option α} {k : α → γ} {c : γ} (h : a.map k = some c) : ∃ x, a = some x ∧ c = k x := by
  cases a <;> simp at h
  exact ⟨_, rfl, h.symm⟩
theorem cmpC_snd (hr : Snd Z C f lv r) (w : Cw Z C f lv sc X E) (hl : Le g f) {a : Expr} {os : List CmpOp} {bs : List Expr} {pos : Pos} {c : Ce} (h : cmpC (r false sc) a os bs = some c) : PE X (.Compare a os bs pos) (tE Z E g c) := by
  unfold cmpC at h
  split at h
  · split at h
    · cases h
    · rename_i hs
      split at h
      rotate_left
      · cases h
      rename_i x y h1 h2
      cases h
      exact snd_cmp hr w hl (by simpa using hs) h1 h2
  · split at h
    · cases h
    · rename_i hs
      split at h
      rotate_left
      · cases h
      rename_i x y z h1 h2 h3
      cases h
      exact pe_imp (pe_chain (op_cmp w.k (units65 w) _) (op_cmp w.k (units65 w) _) (hr.v _ _ _ h1 X E g w hl) (hr.v _ _ _ h2 X E g w hl) (hr.v _ _ _ h3 X E g w hl) (lastM (by simpa using hs))) fun σ H Q q => chain_imp hr w q
  · cases h
theorem cmpC_sndT (hr : Snd Z C f lv r) (w : Cw Z C f lv sc X E) (hl : Le g f) {a : Expr} {os : List CmpOp} {bs : List Expr} {pos : Pos} {c : Ce} (h : cmpC (r false sc) a os bs = some c) : PT X (.Compare a os bs pos) (tTest (tE Z E g c)) := by
  unfold cmpC at h
  split at h
  · split at h
    · cases h
    · rename_i hs
      split at h
      rotate_left
      · cases h
      rename_i x y h1 h2
      cases h
      exact snd_cmpT hr w hl (by simpa using hs) h1 h2
  · split at h
    · cases h
    · rename_i hs
      split at h
      rotate_left
      · cases h
      rename_i x y z h1 h2 h3
      cases h
      refine pt_imp (pt_chain (op_cmp w.k (units65 w) _) (op_cmp w.k (units65 w) _) (hr.v _ _ _ h1 X E g w hl) (hr.v _ _ _ h2 X E g w hl) (hr.v _ _ _ h3 X E g w hl) (lastM (by simpa using hs))) fun σ H Q q => ?_
      exact chain_imp hr w q
  · cases h
theorem cmpT_snd (hr : Snd Z C f lv r) (w : Cw Z C f lv sc X E) (hl : Le g f) {e : Expr} {c : Ce} (h : cmpT C r sc e = some c) : PT X e (tTest (tE Z E g c)) := by
  unfold cmpT at h
  split at h
  · split at h
    · obtain ⟨x, h1, rfl⟩ := m1 h
      exact snd_notT hr w hl h1
    · cases h
  · exact (snd_boolT hr w hl h).pt
  · exact cmpC_sndT hr w hl h
  · split at h
    · rename_i hp
      refine pt_val (hr.v _ _ _ h X E g w hl) fun whole => ?_
      cases e <;> first | rfl | (exact absurd (show false = true from hp) (by simp))
    · cases h
theorem plainIx {b : Expr} (h : ∀ lo hi st pos, b ≠ .Slice lo hi st pos) : PlainIx b := by
  intro o i
  cases b <;> first | rfl | exact absurd rfl (h _ _ _ _)
theorem oneOf_ok {fe : Expr → Option Ce} {b : BI} {es : List Expr} {c : Ce} (h : oneOf fe b es = some c) : ∃ e a, es = [e] ∧ fe e = some a ∧ c = .bi b (.cons a .nil) := by
  unfold oneOf at h
  split at h
  · obtain ⟨x, h1, rfl⟩ := m1 h
    exact ⟨_, _, rfl, h1, rfl⟩
  · cases h
theorem cmpBi_snd (hr : Snd Z C f lv r) (w : Cw Z C f lv sc X E) (hl : Le g f) {x : Str} {as : List Expr} {p pos : Pos} {c : Ce} (hg : glbB sc x = true) (hp : plainN x = true) (hst : as.all noStar = true) (hb : C.bl.contains x = true) (h : cmpBi C sc (r false sc) x as = some c) :
    PE X (.Call (.Name x p) as [] pos) (tE Z E g c) := by
  unfold cmpBi at h
  split at h
  · rename_i ex
    subst ex
    split at h
    · split at h
      · split at h
        · rename_i hc
          rw [Bool.and_eq_true] at hc
          obtain ⟨i, h1, rfl⟩ := m1 h
          exact snd_leno w hg hb hc.2 hc.1 h1
        · cases h
      · obtain ⟨a, h1, rfl⟩ := m1 h
        exact snd_bi hr w hl hg hp hb boot_len (cr_len w.k) (fun _ _ _ z => z) (cmpL_one h1)
    · cases h
  split at h
  · rename_i ex
    subst ex
    split at h
    · split at h
      · split at h
        · rename_i hc
          simp only [Bool.and_eq_true] at hc
          split at h
          · rename_i t a h1 h2
            cases h
            exact snd_isi hr w hl hg hb hc.1.1 hc.1.2 hc.2 h1 h2
          · cases h
        · cases h
      · cases h
    · cases h
  split at h
  · rename_i ex
    subst ex
    split at h
    · obtain ⟨a, h1, rfl⟩ := m1 h
      exact snd_bi hr w hl hg hp hb boot_max (cr_maxP w.calm) (fun _ _ _ z => .inl z) (cmpL_one h1)
    · split at h
      rotate_left
      · cases h
      rename_i a b h1 h2
      cases h
      exact snd_bi hr w hl hg hp hb boot_max (cr_maxP w.calm) (fun _ _ _ z => .inr z) (cmpL_two h1 h2)
    · cases h
  split at h
  · rename_i ex
    subst ex
    split at h
    · obtain ⟨a, h1, rfl⟩ := m1 h
      exact snd_bi hr w hl hg hp hb boot_min (cr_minP w.calm) (fun _ _ _ z => .inl z) (cmpL_one h1)
    · split at h
      rotate_left
      · cases h
      rename_i a b h1 h2
      cases h
      exact snd_bi hr w hl hg hp hb boot_min (cr_minP w.calm) (fun _ _ _ z => .inr z) (cmpL_two h1 h2)
    · cases h
  split at h
  · rename_i ex
    subst ex
    obtain ⟨e, a, rfl, h1, rfl⟩ := oneOf_ok h
    exact snd_bi hr w hl hg hp hb boot_abs cr_abs (fun _ _ _ z => z) (cmpL_one h1)
  split at h
  · rename_i ex
    subst ex
    obtain ⟨e, a, rfl, h1, rfl⟩ := oneOf_ok h
    exact snd_biT hr w hl hg hp hb boot_int cr_int1 (fun _ _ _ z => z) (cmpL_one h1)
  split at h
  · rename_i ex
    subst ex
    obtain ⟨e, a, rfl, h1, rfl⟩ := oneOf_ok h
    exact snd_bi hr w hl hg hp hb boot_all (cr_allP w.calm) (fun _ _ _ z => z) (cmpL_one h1)
  split at h
  · rename_i ex
    subst ex
    obtain ⟨e, a, rfl, h1, rfl⟩ := oneOf_ok h
    exact snd_bi hr w hl hg hp hb boot_any (cr_anyP w.calm) (fun _ _ _ z => z) (cmpL_one h1)
  split at h
  · rename_i ex
    subst ex
    obtain ⟨e, a, rfl, h1, rfl⟩ := oneOf_ok h
    exact snd_bi hr w hl hg hp hb boot_sum (cr_sumP w.calm) (fun _ _ _ z => z) (cmpL_one h1)
  split at h
  · rename_i ex
    subst ex
    obtain ⟨e, a, rfl, h1, rfl⟩ := oneOf_ok h
    exact snd_biT hr w hl hg hp hb boot_tuple (cr_tupleP w.k) (fun _ _ _ z => z) (cmpL_one h1)
  split at h
  · rename_i ex
    subst ex
    obtain ⟨e, a, rfl, h1, rfl⟩ := oneOf_ok h
    exact snd_biT hr w hl hg hp hb boot_list (cr_listP w.k) (fun _ _ _ z => z) (cmpL_one h1)
  cases h
theorem cmpCall_snd (hr : Snd Z C f lv r) (w : Cw Z C f lv sc X E) (hl : Le g f) {x : Str} {as : List Expr} {kws : List Keyword} {p pos : Pos} {c : Ce} (h : cmpCall C sc (r false sc) x as kws = some c) :
    PE X (.Call (.Name x p) as kws pos) (tE Z E g c) := by
  unfold cmpCall at h
  split at h
  · rename_i hc
    simp only [Bool.and_eq_true, List.isEmpty_iff] at hc
    obtain ⟨⟨⟨h1, h2⟩, h3⟩, h4⟩ := hc
    subst h4
    split at h
    · rename_i i ps hi
      split at h
      · rename_i hn
        obtain ⟨a, h5, rfl⟩ := m1 h
        exact snd_call hr w hl h1 h2 hi hn h5
      · cases h
    · split at h
      · rename_i hb
        exact cmpBi_snd hr w hl h1 h2 h3 hb h
      · cases h
  · cases h
theorem cmpV_snd (hr : Snd Z C f lv r) (w : Cw Z C f lv sc X E) (hl : Le g f) {e : Expr} {c : Ce} (h : cmpV C r sc e = some c) : PE X e (tE Z E g c) := by
  unfold cmpV at h
  split at h
  · obtain ⟨k, h1, rfl⟩ := m1 h
    exact snd_const h1
  · split at h
    · rename_i hp
      split at h
      · rename_i hv
        obtain ⟨i, h1, rfl⟩ := m1 h
        exact snd_var w hp hv h1
      · split at h
        · rename_i hg
          obtain ⟨i, h1, rfl⟩ := m1 h
          exact snd_glob w hp hg h1
        · cases h
    · cases h
  · split at h
    · rename_i o a b h1 h2 h3
      cases h
      exact snd_bin hr w hl h1 h2 h3
    · cases h
  · split at h
    · obtain ⟨i, h1, rfl⟩ := m1 h
      exact snd_neg hr w hl h1
    · obtain ⟨i, h1, rfl⟩ := m1 h
      exact snd_not hr w hl h1
    · cases h
  · exact snd_bool hr w hl h
  · exact cmpC_snd hr w hl h
  · split at h
    · rename_i h1 h2 h3
      cases h
      exact snd_ife hr w hl h1 h2 h3
    · cases h
  · split at h
    · obtain ⟨i, h1, rfl⟩ := m1 h
      exact snd_tup hr w hl h1
    · cases h
  · split at h
    · obtain ⟨i, h1, rfl⟩ := m1 h
      exact snd_lst hr w hl h1
    · cases h
  · split at h
    · split at h
      · split at h
        · rename_i h1 h2 h3
          cases h
          exact snd_sl hr w hl h1 h2 h3
        · cases h
      · cases h
    · rename_i hns
      have pl := plainIx (fun lo hi st pos z => hns lo hi st pos z)
      split at h
      · split at h
        · rename_i hc
          rw [Bool.and_eq_true] at hc
          split at h
          · rename_i h1 h2
            cases h
            exact snd_ixo hr w hl pl hc.2 hc.1 h1 h2
          · cases h
        · split at h
          · rename_i h1 h2
            cases h
            exact snd_ix hr w hl pl h1 h2
          · cases h
      · split at h
        · rename_i h1 h2
          cases h
          exact snd_ix hr w hl pl h1 h2
        · cases h
  · split at h
    · exact cmpCall_snd hr w hl h
    · cases h
  · cases h
end
end Cv

set_option Elab.async false
set_option linter.all false
set_option maxRecDepth 100000
set_option maxHeartbeats 4000000
/-! Core13: statements. -/
namespace Cv
open PySem PySem.Spec PyProof.Rows L2
def SPost (Z : Fx) (P F0 F : Hp) (ι : List Addr) (E : XK) (D : Ends) : ResS → Prop
  | .nx ρ st => ∀ σ' F' ι' H', Sb F F' → Ex ι ι' → Rel Z P F0 F' ι' σ' H' ρ st → D.nx σ' H'
  | .ct ρ st => ∀ σ' F' ι' H', Sb F F' → Ex ι ι' → Rel Z P F0 F' ι' σ' H' ρ st → D.ct σ' H'
  | .rt v st => ∀ F' ι' H' u, Sb F F' → Ex ι ι' → Rel0 Z P F0 F' ι' H' st → Rep Z.K F' ι' v u → D.rt u H'
  | .ex c x st => ∀ cls d H', ExnOk Z P F0 F ι c x st cls d H' → E cls d H'
  | .fail => False
def tS (Z : Fx) (E : XK) (g : Cl) (c : Cs) : TS := fun D σ H => ∃ P F0 F ι ρ st, Rel Z P F0 F ι σ H ρ st ∧ SPost Z P F0 F ι E D (exsD c g ρ st)
section
variable {Z : Fx} {P F0 F F1 F' H H' H1 : Hp} {ι ι1 ι' : List Addr} {σ σ2 : L2.St} {ρ ρ1 : Evn} {st st' st1 : Sto} {Q Q1 : VK} {E : XK} {X : Cx} {C : CC} {f g : Cl} {lv : Nat} {sc : Scope} {r : Rc} {D : Ends}
theorem SPost.weak {x : ResS} (hs : Sb F F1) (he : Ex ι ι1) (h : SPost Z P F0 F ι E D x) : SPost Z P F0 F1 ι1 E D x := by
  cases x with
  | nx ρ st => exact fun σ' F' ι' H' a b => h σ' F' ι' H' (hs.tr a) (he.tr b)
  | ct ρ st => exact fun σ' F' ι' H' a b => h σ' F' ι' H' (hs.tr a) (he.tr b)
  | rt v st => exact fun F' ι' H' u a b => h F' ι' H' u (hs.tr a) (he.tr b)
  | ex c x st => exact fun cls d H' q => h cls d H' (q.weak hs he)
  | fail => exact h
theorem SPost.b1 {k : PV → Evn → Sto → ResS} {x : ResE} (h : SPost Z P F0 F ι E D (x.st (s1 k)))
    (hk : ∀ v ρ st F1 ι1 H1 u, Sb F F1 → Ex ι ι1 → Rel Z P F0 F1 ι1 σ H1 ρ st → Rep Z.K F1 ι1 v u → SPost Z P F0 F1 ι1 E D (k v ρ st) → Q1 u H1) : EPost Z P F0 σ F ι E Q1 x := by
  cases x with
  | ok xs ρ st =>
    match xs, h with
    | [x], h => exact fun F' ι' H' v a b c d => hk x ρ st F' ι' H' v a b c d (SPost.weak a b h)
    | [], h => exact (show False from h).elim
    | _ :: _ :: _, h => exact (show False from h).elim
  | ex c x st => exact h
  | fail => exact h
theorem SPost.bB {k : Bool → Evn → Sto → ResS} {x : ResE} (h : SPost Z P F0 F ι E D (x.st (sB k)))
    (hk : ∀ b ρ st F1 ι1 H1, Sb F F1 → Ex ι ι1 → Rel Z P F0 F1 ι1 σ H1 ρ st → SPost Z P F0 F1 ι1 E D (k b ρ st) → Q1 (.bl b) H1) : EPost Z P F0 σ F ι E Q1 x := by
  cases x with
  | ok xs ρ st =>
    match xs, h with
    | [.bl b], h =>
      intro F' ι' H' v a b' c d
      rw [d.bl_of]
      exact hk b ρ st F' ι' H' a b' c (SPost.weak a b' h)
    | [], h => exact (show False from h).elim
    | [.non], h | [.int _], h | [.str _], h | [.tup _], h | [.lst _], h | [.ob _], h => exact (show False from h).elim
    | .non :: _ :: _, h | .bl _ :: _ :: _, h | .int _ :: _ :: _, h | .str _ :: _ :: _, h | .tup _ :: _ :: _, h | .lst _ :: _ :: _, h | .ob _ :: _ :: _, h => exact (show False from h).elim
  | ex c x st => exact h
  | fail => exact h
theorem SPost.bI {k : PV → Evn → Sto → ResS} {x : ResE} {R : It → Hp → Prop} (h : SPost Z P F0 F ι E D (x.st (s1 fun x ρ st => match itemsOf x with | some xs => k x ρ st | none => .fail)))
    (hk : ∀ v xs ρ st F1 ι1 H1 J, itemsOf v = some xs → Sb F F1 → Ex ι ι1 → Rel Z P F0 F1 ι1 σ H1 ρ st → (∀ F2 ι2, Sb F1 F2 → Ex ι1 ι2 → ItOk Z.K J F2 ι2 xs) → SPost Z P F0 F1 ι1 E D (k v ρ st) → R J H1) : IPost Z P F0 σ F ι E R x := by
  cases x with
  | ok xs ρ st =>
    match xs, h with
    | [x], h =>
      have h' : SPost Z P F0 F ι E D (match itemsOf x with | some xs => k x ρ st | none => .fail) := h
      show (match itemsOf x with | some xs => ∀ F' ι' H' J, Sb F F' → Ex ι ι' → Rel Z P F0 F' ι' σ H' ρ st → (∀ F2 ι2, Sb F' F2 → Ex ι' ι2 → ItOk Z.K J F2 ι2 xs) → R J H' | none => False)
      cases e : itemsOf x with
      | none => rw [e] at h'; exact h'
      | some xs => rw [e] at h'; exact fun F' ι' H' J a b c d => hk x xs ρ st F' ι' H' J e a b c d (SPost.weak a b h')
    | [], h => exact (show False from h).elim
    | _ :: _ :: _, h => exact (show False from h).elim
  | ex c x st => exact h
  | fail => exact h
theorem SPost.seq {k : Evn → Sto → ResS} {x : ResS} {N : L2.St → Hp → Prop} (h : SPost Z P F0 F ι E D (x.then k)) (hk : ∀ ρ st σ' F1 ι1 H1, Sb F F1 → Ex ι ι1 → Rel Z P F0 F1 ι1 σ' H1 ρ st → SPost Z P F0 F1 ι1 E D (k ρ st) → N σ' H1) : SPost Z P F0 F ι E { D with nx := N } x := by
  cases x with
  | nx ρ st => exact fun σ' F' ι' H' a b c => hk ρ st σ' F' ι' H' a b c (SPost.weak a b h)
  | ct ρ st => exact h
  | rt v st => exact h
  | ex c x st => exact h
  | fail => exact h
theorem SPost.turn {k : Evn → Sto → ResS} {x : ResS} {N B : L2.St → Hp → Prop} (h : SPost Z P F0 F ι E D (x.turn k)) (hk : ∀ ρ st σ' F1 ι1 H1, Sb F F1 → Ex ι ι1 → Rel Z P F0 F1 ι1 σ' H1 ρ st → SPost Z P F0 F1 ι1 E D (k ρ st) → N σ' H1) : SPost Z P F0 F ι E { D with nx := N, ct := N, bk := B } x := by
  cases x with
  | nx ρ st => exact fun σ' F' ι' H' a b c => hk ρ st σ' F' ι' H' a b c (SPost.weak a b h)
  | ct ρ st => exact fun σ' F' ι' H' a b c => hk ρ st σ' F' ι' H' a b c (SPost.weak a b h)
  | rt v st => exact h
  | ex c x st => exact h
  | fail => exact h
theorem SPost.here (h : SPost Z P F0 F ι E D (.nx ρ st)) (r0 : Rel Z P F0 F ι σ H ρ st) : D.nx σ H := h σ F ι H .rfl' .rfl' r0
/-! ### the rules -/
theorem s_skip : tS Z E g .skip D σ H → tNext D σ H := fun q => by
  obtain ⟨P, F0, F, ι, ρ, st, r0, p⟩ := q
  exact SPost.here p r0
theorem s_cont : tS Z E g .cont D σ H → tCont D σ H := fun q => by
  obtain ⟨P, F0, F, ι, ρ, st, r0, p⟩ := q
  exact (show SPost Z P F0 F ι E D (.ct ρ st) from p) σ F ι H .rfl' .rfl' r0
theorem s_seq {a b : Cs} (q : tS Z E g (.seq a b) D σ H) : tSeq (tS Z E g a) (tS Z E g b) D σ H := by
  obtain ⟨P, F0, F, ι, ρ, st, r0, p⟩ := q
  exact ⟨P, F0, F, ι, ρ, st, r0, SPost.seq (show SPost Z P F0 F ι E D ((exsD a g ρ st).then fun ρ st => exsD b g ρ st) from p) fun ρ1 st1 σ1 F1 ι1 H1 s1 e1 r1 q1 => ⟨P, F0, F1, ι1, ρ1, st1, r1, q1⟩⟩
theorem s_set {i : Nat} {c : Ce} (q : tS Z E g (.set i c) D σ H) : tAsg (tE Z E g c) (gName i) D σ H := by
  obtain ⟨P, F0, F, ι, ρ, st, r0, p⟩ := q
  exact ⟨P, F0, F, ι, ρ, st, r0, SPost.b1 (show SPost Z P F0 F ι E D ((evD c g ρ st).st (s1 fun v ρ st => .nx (setS ρ i (.val v)) st)) from p) fun v ρ1 st1 F1 ι1 H1 u s1 e1 r1 p1 q1 => SPost.here q1 (r1.set i p1)⟩
theorem s_asg {t : Tgt} {c : Ce} (q : tS Z E g (.asg t c) D σ H) : tAsg (tE Z E g c) (gP Z t) D σ H := by
  obtain ⟨P, F0, F, ι, ρ, st, r0, p⟩ := q
  refine ⟨P, F0, F, ι, ρ, st, r0, SPost.b1 (show SPost Z P F0 F ι E D ((evD c g ρ st).st (s1 fun v ρ st => nx1 (bindT t v ρ) st)) from p) fun v ρ1 st1 F1 ι1 H1 u s1 e1 r1 p1 q1 => ?_⟩
  refine ⟨P, F0, F1, ι1, ρ1, st1, v, r1, p1, ?_⟩
  cases e : bindT t v ρ1 with
  | none => rw [e] at q1; exact q1
  | some ρ2 => rw [e] at q1; exact fun σ' o r2 => SPost.here q1 r2
theorem s_ite {c : Ce} {a b : Cs} (q : tS Z E g (.ite c a b) D σ H) : tIfS (tTest (tE Z E g c)) (tS Z E g a) (tS Z E g b) D σ H := by
  obtain ⟨P, F0, F, ι, ρ, st, r0, p⟩ := q
  refine ⟨P, F0, F, ι, ρ, st, r0, SPost.bB (show SPost Z P F0 F ι E D ((evD c g ρ st).st (sB fun t ρ st => cnd t (exsD a g ρ st) (exsD b g ρ st))) from p) fun t ρ1 st1 F1 ι1 H1 s1 e1 r1 q1 => ⟨t, rfl, ?_⟩⟩
  cases t with
  | true => rw [if_pos rfl]; exact ⟨P, F0, F1, ι1, ρ1, st1, r1, q1⟩
  | false => rw [if_neg Bool.false_ne_true]; exact ⟨P, F0, F1, ι1, ρ1, st1, r1, q1⟩
theorem s_ret {c : Ce} (q : tS Z E g (.ret c) D σ H) : tRet (tE Z E g c) D σ H := by
  obtain ⟨P, F0, F, ι, ρ, st, r0, p⟩ := q
  exact ⟨P, F0, F, ι, ρ, st, r0, SPost.b1 (show SPost Z P F0 F ι E D ((evD c g ρ st).st (s1 fun v _ st => .rt v st)) from p) fun v ρ1 st1 F1 ι1 H1 u s1 e1 r1 p1 q1 => (show SPost Z P F0 F1 ι1 E D (.rt v st1) from q1) F1 ι1 H1 u .rfl' .rfl' r1.r p1⟩
theorem s_drop {c : Ce} (q : tS Z E g (.drop c) D σ H) : tDrop (tE Z E g c) D σ H := by
  obtain ⟨P, F0, F, ι, ρ, st, r0, p⟩ := q
  exact ⟨P, F0, F, ι, ρ, st, r0, SPost.b1 (show SPost Z P F0 F ι E D ((evD c g ρ st).st (s1 fun _ ρ st => .nx ρ st)) from p) fun v ρ1 st1 F1 ι1 H1 u s1 e1 r1 p1 q1 => SPost.here q1 r1⟩
theorem s_par {i j : Nat} {a b : Ce} (q : tS Z E g (.par i j a b false false) D σ H) : tPar i j (tA Z E g (.cons a (.cons b .nil))) D σ H := by
  obtain ⟨P, F0, F, ι, ρ, st, r0, p⟩ := q
  refine ⟨P, F0, F, ι, ρ, st, r0, ?_⟩
  have p' : SPost Z P F0 F ι E D ((evD a g ρ st).st (s1 fun v ρ st => (evD b g ρ st).st (s1 fun w ρ st => .nx (setS (setS ρ i (mkSlot false v)) j (mkSlot false w)) st))) := p
  show APost Z P F0 σ F ι E _ ((evD a g ρ st).bind (d1 fun v ρ st => ((evD b g ρ st).bind (d1 fun v ρ st => (ResE.ok [] ρ st).bind fun vs ρ st => .ok (v :: vs) ρ st)).bind fun vs ρ st => .ok (v :: vs) ρ st))
  cases e1 : evD a g ρ st with
  | ex c x st1 => rw [e1] at p'; exact p'
  | fail => rw [e1] at p'; exact p'
  | ok xs ρ1 st1 =>
    rw [e1] at p'
    match xs, p' with
    | [], p' => exact (show False from p').elim
    | _ :: _ :: _, p' => exact (show False from p').elim
    | [v], p' =>
      have p2 : SPost Z P F0 F ι E D ((evD b g ρ1 st1).st (s1 fun w ρ st => .nx (setS (setS ρ i (mkSlot false v)) j (mkSlot false w)) st)) := p'
      show APost Z P F0 σ F ι E _ (((evD b g ρ1 st1).bind (d1 fun v ρ st => (ResE.ok [] ρ st).bind fun vs ρ st => .ok (v :: vs) ρ st)).bind fun vs ρ st => .ok (v :: vs) ρ st)
      cases e2 : evD b g ρ1 st1 with
      | ex c x st1 => rw [e2] at p2; exact p2
      | fail => rw [e2] at p2; exact p2
      | ok ys ρ2 st2 =>
        rw [e2] at p2
        match ys, p2 with
        | [], p2 => exact (show False from p2).elim
        | _ :: _ :: _, p2 => exact (show False from p2).elim
        | [w], p2 =>
          have p3 : SPost Z P F0 F ι E D (.nx (setS (setS ρ2 i (.val v)) j (.val w)) st2) := p2
          intro F' ι' H' vs a b r2 rs
          obtain ⟨v1, vs1, rfl, g1, g2⟩ := rs.uncons
          obtain ⟨v2, vs2, rfl, g3, g4⟩ := g2.uncons
          obtain rfl := g4.nil_of
          exact ⟨v1, v2, rfl, SPost.here (SPost.weak a b p3) ((r2.set i g1).set j g3)⟩
theorem s_for {t : Tgt} {ci : Ce} {b : Cs} (q : tS Z E g (.for_ t ci b) D σ H) : tFor (tI Z E g ci) (gP Z t) (tS Z E g b) D σ H := by
  obtain ⟨P, F0, F, ι, ρ, st, r0, p⟩ := q
  refine ⟨P, F0, F, ι, ρ, st, r0, ?_⟩
  have p' : SPost Z P F0 F ι E D ((evD ci g ρ st).st (s1 fun x ρ st => match itemsOf x with | some xs => forD t (exsD b g) xs ρ st | none => .fail)) := p
  refine SPost.bI (D := D) (k := fun x ρ st => match itemsOf x with | some xs => forD t (exsD b g) xs ρ st | none => .fail) ?_ fun v xs ρ1 st1 F1 ι1 H1 J hv s1 x1 r1 jt q1 => ?_
  · cases e1 : evD ci g ρ st with
    | ex c x st1 => rw [e1] at p'; exact p'
    | fail => rw [e1] at p'; exact p'
    | ok xs ρ1 st1 =>
      rw [e1] at p'
      match xs, p' with
      | [], p' => exact (show False from p').elim
      | _ :: _ :: _, p' => exact (show False from p').elim
      | [v], p' =>
        have p2 : SPost Z P F0 F ι E D (match itemsOf v with | some xs => forD t (exsD b g) xs ρ1 st1 | none => .fail) := p'
        show SPost Z P F0 F ι E D (match itemsOf v with | some xs => (match itemsOf v with | some xs => forD t (exsD b g) xs ρ1 st1 | none => .fail) | none => .fail)
        cases e : itemsOf v with
        | none => rw [e] at p2; exact p2
        | some ys => rw [e] at p2; exact p2
  · rw [hv] at q1
    have q2 : SPost Z P F0 F1 ι1 E D (forD t (exsD b g) xs ρ1 st1) := q1
    refine ⟨fun i m σ H => m = xs.length - i ∧ i ≤ xs.length ∧ ∃ F ι ρ st, Sb F1 F ∧ Ex ι1 ι ∧ Rel Z P F0 F ι σ H ρ st ∧ SPost Z P F0 F ι E D (forD t (exsD b g) (xs.drop i) ρ st), ⟨xs.length, by simp, Nat.zero_le _, F1, ι1, ρ1, st1, .rfl', .rfl', r1, by simpa using q2⟩, ?_⟩
    rintro i m σ3 H3 ⟨rfl, hi, F3, ι3, ρ3, st3, s3, x3, r3, p5⟩
    have it : ItOk Z.K J F3 ι3 xs := jt F3 ι3 s3 x3
    by_cases hlt : i < xs.length
    · refine .inr ⟨it.go i H3 r3.r.fh hlt, fun σ H => ∃ F ι ρ st, Sb F1 F ∧ Ex ι1 ι ∧ Rel Z P F0 F ι σ H ρ st ∧ SPost Z P F0 F ι E D (forD t (exsD b g) (xs.drop (i + 1)) ρ st), fun σ' H' h' => ⟨xs.length - (i + 1), by omega, rfl, hlt, h'⟩, fun v H4 y4 => ?_⟩
      have hx : xs[i]? = some xs[i] := List.getElem?_eq_getElem hlt
      have hd : xs.drop i = xs[i] :: xs.drop (i + 1) := List.drop_eq_getElem_cons hlt
      rw [hd] at p5
      have got : ∃ F4, Sb F3 F4 ∧ Rel Z P F0 F4 ι3 σ3 H4 ρ3 st3 ∧ Rep Z.K F4 ι3 xs[i] v := by
        rcases it.yld i H3 v H4 r3.r.fh y4 _ hx with ⟨rfl, rp⟩ | ⟨T, us, ys, t1, rfl, rfl, t2, t3⟩
        · exact ⟨F3, .rfl', r3, rp⟩
        · have sF : Sb F3 (upd F3 T (.tup us)) := Sb.rfl'.up (r3.r.fresh t1).1
          exact ⟨_, sF, r3.new t1 (fun ps z => by cases z), by rw [t2]; exact .tup (.of upd_same) (t3.mono sF .rfl')⟩
      obtain ⟨F4, s4, r4, rp⟩ := got
      have p6 : SPost Z P F0 F3 ι3 E D (match bindT t xs[i] ρ3 with | some ρ1 => (exsD b g ρ1 st3).turn fun ρ2 st2 => forD t (exsD b g) (xs.drop (i + 1)) ρ2 st2 | none => .fail) := p5
      refine ⟨P, F0, F4, ι3, ρ3, st3, _, r4, rp, ?_⟩
      cases e5 : bindT t xs[i] ρ3 with
      | none => rw [e5] at p6; exact (show False from p6).elim
      | some ρ5 =>
        rw [e5] at p6
        intro σ5 o5 r5
        exact ⟨P, F0, F4, ι3, ρ5, st3, r5, SPost.turn (SPost.weak s4 .rfl' p6) fun ρ6 st6 σ6 F6 ι6 H6 s6 x6 r6 q6 => ⟨F6, ι6, ρ6, st6, s3.tr (s4.tr s6), x3.tr x6, r6, q6⟩⟩
    · have e : i = xs.length := by omega
      subst e
      rw [List.drop_length] at p5
      exact .inl ⟨it.stop _ H3 r3.r.fh (Nat.le_refl _), SPost.here (show SPost Z P F0 F3 ι3 E D (.nx ρ3 st3) from p5) r3⟩
theorem s_while {c : Ce} {b : Cs} (q : tS Z E g (.while_ c b) D σ H) : tWhile (tTest (tE Z E g c)) (tS Z E g b) D σ H := by
  obtain ⟨P, F0, F, ι, ρ, st, r0, p⟩ := q
  refine ⟨fun m σ H => ∃ F ι ρ st, Rel Z P F0 F ι σ H ρ st ∧ SPost Z P F0 F ι E D (whD (evD c g) (exsD b g) m ρ st), ⟨rounds, F, ι, ρ, st, r0, p⟩, ?_⟩
  rintro m σ1 H1 ⟨F1, ι1, ρ1, st1, r1, p1⟩
  cases m with
  | zero => exact (show False from p1).elim
  | succ m =>
    refine ⟨P, F0, F1, ι1, ρ1, st1, r1, SPost.bB (show SPost Z P F0 F1 ι1 E D ((evD c g ρ1 st1).st (sB fun x ρ st => cnd x ((exsD b g ρ st).turn fun ρ st => whD (evD c g) (exsD b g) m ρ st) (.nx ρ st))) from p1) fun t ρ2 st2 F2 ι2 H2 s2 e2 r2 q2 => ⟨t, rfl, ?_⟩⟩
    cases t with
    | true =>
      rw [if_pos rfl]
      refine ⟨fun σ H => ∃ F ι ρ st, Rel Z P F0 F ι σ H ρ st ∧ SPost Z P F0 F ι E D (whD (evD c g) (exsD b g) m ρ st), fun σ' H' h' => ⟨m, Nat.lt_succ_self m, h'⟩, P, F0, F2, ι2, ρ2, st2, r2, ?_⟩
      exact SPost.turn (show SPost Z P F0 F2 ι2 E D ((exsD b g ρ2 st2).turn fun ρ st => whD (evD c g) (exsD b g) m ρ st) from q2) fun ρ6 st6 σ6 F6 ι6 H6 s6 x6 r6 q6 => ⟨F6, ι6, ρ6, st6, r6, q6⟩
    | false => rw [if_neg Bool.false_ne_true]; exact SPost.here (show SPost Z P F0 F2 ι2 E D (.nx ρ2 st2) from q2) r2
end
end Cv

set_option Elab.async false
set_option linter.all false
set_option maxRecDepth 100000
set_option maxHeartbeats 4000000
/-! Core14: what is changed in place; new objects; what is raised. -/
namespace Cv
open PySem PySem.Spec PyProof.Rows L2
section
variable {Z : Fx} {P F0 F F1 F' H H' H1 : Hp} {ι ι1 ι' : List Addr} {σ σ2 : L2.St} {ρ ρ1 : Evn} {st st' st1 : Sto} {Q Q1 : VK} {E : XK} {X : Cx} {C : CC} {f g : Cl} {lv : Nat} {sc : Scope} {r : Rc} {D : Ends}
theorem Rel0.cellsOf (r : Rel0 Z P F0 F ι H st) {n : Nat} {xs : List PV} (h : cellsAt st n = some xs) : ∃ a vs, ι[n]? = some a ∧ H a = some (.lst vs) ∧ Reps Z.K F ι xs vs ∧ P a = none ∧ F a = none ∧ st[n]? = some (.cells xs) := by
  unfold cellsAt at h
  split at h
  · rename_i ys e
    cases h
    obtain ⟨a, vs, h1, h2, h3⟩ := r.sto.2 n _ e
    have hm : a ∈ ι := List.mem_of_getElem? h1
    exact ⟨a, vs, h1, h2, h3, (r.pi a hm).1, (r.pi a hm).2, e⟩
  · cases h
theorem tabs_lst {a : Addr} {vs ws : List V} (h : H a = some (.lst vs)) (t : LamX.Tabs Z.T H) : LamX.Tabs Z.T (upd H a (.lst ws)) := fun q hq => by
  obtain ⟨ps, t1, t2, t3⟩ := t q hq
  have ne : q.1 ≠ a := fun z => by rw [z, h] at t1; cases t1
  refine ⟨ps, by rw [upd_ne ne]; exact t1, t2, fun pos cv hc => ?_⟩
  obtain ⟨c, c1, c2⟩ := t3 pos cv hc
  exact ⟨c, c1, by rw [upd_ne (fun z => by rw [z, h] at c2; cases c2)]; exact c2⟩
/-- a changeable object is changed -/
theorem Rel.cells (r : Rel Z P F0 F ι σ H ρ st) {n : Nat} {a : Addr} {xs ys : List PV} {vs ws : List V} (hn : ι[n]? = some a) (ha : H a = some (.lst vs)) (rs : Reps Z.K F ι ys ws) (hs : st[n]? = some (.cells xs)) :
    Rel Z P F0 F ι σ (upd H a (.lst ws)) ρ (st.set n (.cells ys)) := by
  have hm : a ∈ ι := List.mem_of_getElem? hn
  have hP := (r.r.pi a hm).1
  have hF := (r.r.pi a hm).2
  have r0 : Rel0 Z P F0 F ι (upd H a (.lst ws)) (st.set n (.cells ys)) := by
    refine ⟨r.r.fh.up hF, r.r.ph.up hP, r.r.pf, r.r.f0, r.r.pi, r.r.pt, r.r.nd, tabs_lst ha r.r.tb, by rw [List.length_set]; exact r.r.sto.1, fun k zs hk => ?_⟩
    by_cases e : n = k
    · subst e
      have hl : n < st.length := (List.getElem?_eq_some_iff.mp hs).1
      rw [List.getElem?_set_self hl] at hk
      cases hk
      exact ⟨a, ws, hn, upd_same, rs⟩
    · rw [List.getElem?_set_ne e] at hk
      obtain ⟨b, us, h1, h2, h3⟩ := r.r.sto.2 k zs hk
      have ne : b ≠ a := fun z => by
        subst z
        obtain ⟨l1, e1⟩ := List.getElem?_eq_some_iff.mp hn
        obtain ⟨l2, e2⟩ := List.getElem?_eq_some_iff.mp h1
        have nd := List.pairwise_iff_getElem.mp r.r.nd
        rcases Nat.lt_trichotomy n k with z | z | z
        · exact nd n k l1 l2 z (e1.trans e2.symm)
        · exact e z
        · exact nd k n l2 l1 z (e2.trans e1.symm)
      exact ⟨b, us, h1, by rw [upd_ne ne]; exact h2, h3⟩
  refine ⟨r0, r.len, fun j => ?_, r.ap⟩
  have hj := r.sl j
  cases ej : getS ρ j with
  | no => trivial
  | val y => rw [ej] at hj; exact hj
  | own zs =>
    rw [ej] at hj
    obtain ⟨b, us, q1, q2, q3, q4, q5, q6⟩ := hj
    have ne : b ≠ a := fun z => q6 (by rw [z]; exact hm)
    exact ⟨b, us, q1, by rw [upd_ne ne]; exact q2, q3, q4, q5, q6⟩
theorem Reps.put : ∀ {xs : List PV} {vs : List V} {j : Nat} {x : PV} {v : V}, Reps Z.K F ι xs vs → Rep Z.K F ι x v → Reps Z.K F ι (xs.set j x) (vs.set j v)
  | [], vs, j, x, v, h, _ => by rw [h.nil_of]; exact .nil
  | y :: xs, vs, 0, x, v, h, hx => by
    obtain ⟨u, us, rfl, h1, h2⟩ := h.uncons
    exact .cons hx h2
  | y :: xs, vs, j + 1, x, v, h, hx => by
    obtain ⟨u, us, rfl, h1, h2⟩ := h.uncons
    exact .cons h1 (Reps.put h2 hx)
theorem s_sti {i : Nat} {a e : Ce} (q : tS Z E g (.sti i a e) D σ H) : tAsg (tE Z E g e) (gSub (tVar i) (tE Z E g a) rSetL) D σ H := by
  obtain ⟨P, F0, F, ι, ρ, st, r0, p⟩ := q
  refine ⟨P, F0, F, ι, ρ, st, r0, SPost.b1 (k := fun v ρ st => match rd (getS ρ i) with | some _ => (evD a g ρ st).st (s1 fun a ρ st => nx2 (stiS a v ρ st i)) | none => .fail) p fun v ρ1 st1 F1 ι1 H1 u s1' e1 r1 p1 q1 => ?_⟩
  have hs := r1.sl i
  cases er : getS ρ1 i with
  | no => rw [er] at q1; exact (show False from q1).elim
  | val y =>
    rw [er] at hs q1
    obtain ⟨w, w1, w2⟩ := hs
    refine ⟨w, w1, P, F0, F1, ι1, ρ1, st1, r1, SPost.b1 (show SPost Z P F0 F1 ι1 E D ((evD a g ρ1 st1).st (s1 fun a ρ st => nx2 (stiS a v ρ st i))) from q1) fun k ρ2 st2 F2 ι2 H2 ku s2 e2 r2 p2 q2 => ?_⟩
    have hs2 := r2.sl i
    unfold stiS at q2
    split at q2
    · rename_i zs j hz
      rw [hz] at hs2
      obtain ⟨b, vs, h1, h2, h3, h4, h5, h6⟩ := hs2
      rw [w1] at h1; cases h1
      cases hp : setPl zs j v with
      | none => rw [hp] at q2; exact (show False from q2).elim
      | some ys =>
        rw [hp] at q2
        unfold setPl at hp
        cases hq : placeOf zs.length j with
        | none => rw [hq] at hp; cases hp
        | some m =>
          rw [hq] at hp; cases hp
          exact ⟨b, vs, j, m, rfl, p2.int_of, h2, by rw [h3.len]; exact hq, SPost.here q2 (r2.chg hz w1 (Reps.put h3 (p1.mono s2 e2)))⟩
    · rename_i n j hz
      rw [hz] at hs2
      obtain ⟨b, h1, h2⟩ := hs2
      rw [w1] at h1; cases h1
      obtain ⟨ad, rfl, h3⟩ := h2.ob_of
      cases hc : cellsAt st2 n with
      | none => rw [hc] at q2; exact (show False from q2).elim
      | some xs =>
        rw [hc] at q2
        obtain ⟨ad', vs, k1, k2, k3, k4, k5, k6⟩ := r2.r.cellsOf hc
        rw [h3] at k1; cases k1
        cases hp : setPl xs j v with
        | none => simp only [hp] at q2; exact (show False from q2).elim
        | some ys =>
          simp only [hp] at q2
          unfold setPl at hp
          cases hq : placeOf xs.length j with
          | none => rw [hq] at hp; cases hp
          | some m =>
            rw [hq] at hp; cases hp
            exact ⟨_, vs, j, m, rfl, p2.int_of, k2, by rw [k3.len]; exact hq, SPost.here q2 (r2.cells h3 k2 (Reps.put k3 (p1.mono s2 e2)) k6)⟩
    · exact (show False from q2).elim
  | own y =>
    rw [er] at hs q1
    obtain ⟨w, vs', w1, w2⟩ := hs
    refine ⟨.ref w, w1, P, F0, F1, ι1, ρ1, st1, r1, SPost.b1 (show SPost Z P F0 F1 ι1 E D ((evD a g ρ1 st1).st (s1 fun a ρ st => nx2 (stiS a v ρ st i))) from q1) fun k ρ2 st2 F2 ι2 H2 ku s2 e2 r2 p2 q2 => ?_⟩
    have hs2 := r2.sl i
    unfold stiS at q2
    split at q2
    · rename_i zs j hz
      rw [hz] at hs2
      obtain ⟨b, vs, h1, h2, h3, h4, h5, h6⟩ := hs2
      rw [w1] at h1; cases h1
      cases hp : setPl zs j v with
      | none => rw [hp] at q2; exact (show False from q2).elim
      | some ys =>
        rw [hp] at q2
        unfold setPl at hp
        cases hq : placeOf zs.length j with
        | none => rw [hq] at hp; cases hp
        | some m =>
          rw [hq] at hp; cases hp
          exact ⟨_, vs, j, m, rfl, p2.int_of, h2, by rw [h3.len]; exact hq, SPost.here q2 (r2.chg hz w1 (Reps.put h3 (p1.mono s2 e2)))⟩
    · rename_i n j hz
      rw [hz] at hs2
      obtain ⟨b, h1, h2⟩ := hs2
      rw [w1] at h1; cases h1
      obtain ⟨ad, ez, h3⟩ := h2.ob_of
      cases ez
      cases hc : cellsAt st2 n with
      | none => rw [hc] at q2; exact (show False from q2).elim
      | some xs =>
        rw [hc] at q2
        obtain ⟨ad', vs, k1, k2, k3, k4, k5, k6⟩ := r2.r.cellsOf hc
        rw [h3] at k1; cases k1
        cases hp : setPl xs j v with
        | none => simp only [hp] at q2; exact (show False from q2).elim
        | some ys =>
          simp only [hp] at q2
          unfold setPl at hp
          cases hq : placeOf xs.length j with
          | none => rw [hq] at hp; cases hp
          | some m =>
            rw [hq] at hp; cases hp
            exact ⟨_, vs, j, m, rfl, p2.int_of, k2, by rw [k3.len]; exact hq, SPost.here q2 (r2.cells h3 k2 (Reps.put k3 (p1.mono s2 e2)) k6)⟩
    · exact (show False from q2).elim
/-- a new changeable object -/
theorem Rel.newOb (r : Rel Z P F0 F ι σ H ρ st) {a : Addr} {xs : List PV} {vs : List V} (ha : H a = none) (rs : Reps Z.K F ι xs vs) : Rel Z P F0 F (ι ++ [a]) σ (upd H a (.lst vs)) ρ (st ++ [.cells xs]) := by
  obtain ⟨f1, f2, f3⟩ := r.r.fresh ha
  have he : Ex ι (ι ++ [a]) := ⟨[a], rfl⟩
  have r0 : Rel0 Z P F0 F (ι ++ [a]) (upd H a (.lst vs)) (st ++ [.cells xs]) := by
    refine ⟨r.r.fh.up f1, r.r.ph.up f2, r.r.pf, r.r.f0, fun b hb => ?_, r.r.pt, ?_, r.r.tb.ext (sub_upd ha), by simp [r.r.sto.1], fun k zs hk => ?_⟩
    · rcases List.mem_append.mp hb with z | z
      · exact r.r.pi b z
      · rw [List.mem_singleton.mp z]; exact ⟨f2, f1⟩
    · rw [List.nodup_append]
      refine ⟨r.r.nd, by simp, fun x hx y hy => ?_⟩
      rw [List.mem_singleton.mp hy]
      exact fun z => f3 (by rw [← z]; exact hx)
    · by_cases e : k < st.length
      · rw [List.getElem?_append_left e] at hk
        obtain ⟨b, us, h1, h2, h3⟩ := r.r.sto.2 k zs hk
        have hl : k < ι.length := by rw [r.r.sto.1]; exact e
        have ne : b ≠ a := fun z => f3 (by rw [← z]; exact List.mem_of_getElem? h1)
        exact ⟨b, us, by rw [List.getElem?_append_left hl]; exact h1, by rw [upd_ne ne]; exact h2, h3.mono .rfl' he⟩
      · have e2 : k = st.length := by
          have := (List.getElem?_eq_some_iff.mp hk).1
          simp at this; omega
        subst e2
        rw [List.getElem?_append_right (Nat.le_refl _), Nat.sub_self] at hk
        cases hk
        refine ⟨a, vs, ?_, upd_same, rs.mono .rfl' he⟩
        rw [← r.r.sto.1, List.getElem?_append_right (Nat.le_refl _), Nat.sub_self]; rfl
  exact r.to r0 .rfl' he fun b us h1 h2 h3 h4 => by
    have ne : b ≠ a := fun z => by rw [z, ha] at h1; cases h1
    exact ⟨by rw [upd_ne ne]; exact h1, h2, fun z => (List.mem_append.mp z).elim h4 fun q => ne (List.mem_singleton.mp q)⟩
theorem snd_obj (hr : Snd Z C f lv r) (w : Cw Z C f lv sc X E) (hl : Le g f) {es : List Expr} {c : Ce} {pos : Pos} (h : cmpL (r false sc) es = some c) : PE X (.List es pos) (tE Z E g (.obj c)) := by
  refine pe_imp (pe_lst (pa_snd hr w hl h)) fun σ H Q q => ?_
  obtain ⟨P, F0, F, ι, ρ, st, r0, p⟩ := q
  refine ⟨P, F0, F, ι, ρ, st, r0, EPost.bA p fun xs ρ1 st1 F1 ι1 H1 vs s1 e1 r1 p1 q1 => ?_⟩
  cases e : fits xs.length with
  | false => rw [e] at q1; exact (show False from q1).elim
  | true =>
    rw [e] at q1
    refine ⟨by rw [p1.len]; exact fits_le e, fun a ha => ?_⟩
    have q2 : EPost Z P F0 σ F1 ι1 E Q (.ok [.ob st1.length] ρ1 (st1 ++ [.cells xs])) := q1
    have he : Ex ι1 (ι1 ++ [a]) := ⟨[a], rfl⟩
    refine EPost.ret (EPost.weak .rfl' he q2) (r1.newOb ha p1) (.ob ?_)
    rw [← r1.r.sto.1, List.getElem?_append_right (Nat.le_refl _), Nat.sub_self]; rfl
/-! ### lists of one's own -/
theorem own_of {s : Slt} (h : isOwn s = true) : ∃ xs, s = .own xs := by
  cases s with
  | own xs => exact ⟨xs, rfl⟩
  | no => cases h
  | val v => cases h
theorem get_list {X : Cx} {pins : List (Addr × Obj)} {σ : L2.St} {s : Shared} {b : Addr} {zs : List V} (I : L2.Inv X pins σ H s) (h : Rd H b (.lst zs)) :
    zs.length ≤ sizeLine ∧ ∃ (us : List Value) (m : Nat), Vals zs us ∧ s.heap.get? b = some { cls := .type "list", data := .seq us.toArray m } := by
  obtain ⟨z, us, m, rv, e⟩ := h.ok I.hok
  exact ⟨z, us, m, rv, e⟩
/-- extend by a list that may stand fast -/
theorem mt_extR {X : Cx} : MtR X "list.extend" (fun x vs H Q => ∃ a b ws zs, x = .ref a ∧ vs = [.ref b] ∧ H a = some (.lst ws) ∧ Rd H b (.lst zs) ∧ ws.length + zs.length ≤ sizeLine ∧ Q .non (upd H a (.lst (ws ++ zs)))) := by
  intro pins s σ0 H x vs v us Q I rx rv w
  obtain ⟨a, b, ws, zs, rfl, rfl, ha, hb, fit, k⟩ := w
  obtain ⟨u, rfl, ru⟩ := rv.one
  cases rx
  cases ru
  obtain ⟨_, l1, m1, v1, e1⟩ := get_list I (.of ha)
  obtain ⟨_, l2, m2, v2, e2⟩ := get_list I hb
  have n1 := v1.length
  have n2 := v2.length
  have small : l1.toArray.size + l2.toArray.size ≤ sizeLine := by simp only [List.size_toArray]; omega
  have short : ¬ (!l1.toArray.isEmpty && Builtin.List.listTooLong (l1.toArray.size + l2.toArray.size)) = true := by
    rw [notLongL small, Bool.and_false]; decide
  refine call_meets F.slot_list_extend ⟨_, e1, rfl⟩ F.entry_list_extend (F.args_list_extend_2 _ _) (AutoSeq1.list_extend_list_list_0 a l1.toArray m1 b l2.toArray m2 short (by first | omega | (simp only [List.size_toArray]; omega)) (by first | omega | (simp only [List.size_toArray]; omega))) ⟨e1, e2, ?_⟩
  exact ⟨.non, _, I.lset (its' := l1 ++ l2) ha e1 (by simp) (v1.append v2) (by rw [List.length_append]; exact fit), rfl, k⟩
/-- one argument -/
theorem SPost.arg {c : Ce} {k : PV → Evn → Sto → ResS} (p : SPost Z P F0 F ι E D ((evD c g ρ st).st (s1 k))) {QA : List V → Hp → Prop}
    (hk : ∀ x ρ st F1 ι1 H1 u, Sb F F1 → Ex ι ι1 → Rel Z P F0 F1 ι1 σ H1 ρ st → Rep Z.K F1 ι1 x u → SPost Z P F0 F1 ι1 E D (k x ρ st) → QA [u] H1) : APost Z P F0 σ F ι E QA (evD (.cons c .nil) g ρ st) := by
  show APost Z P F0 σ F ι E _ ((evD c g ρ st).bind (d1 fun v ρ st => (ResE.ok [] ρ st).bind fun vs ρ st => .ok (v :: vs) ρ st))
  cases e1 : evD c g ρ st with
  | ex c x st1 => rw [e1] at p; exact p
  | fail => rw [e1] at p; exact p
  | ok xs ρ1 st1 =>
    rw [e1] at p
    match xs, p with
    | [], p => exact (show False from p).elim
    | _ :: _ :: _, p => exact (show False from p).elim
    | [v], p =>
      have p2 : SPost Z P F0 F ι E D (k v ρ1 st1) := p
      intro F' ι' H' vs a b r1 rs
      obtain ⟨u, rfl, ru⟩ := rs.one
      exact hk v ρ1 st1 F' ι' H' u a b r1 ru (SPost.weak a b p2)
theorem s_app {i : Nat} {c : Ce} {K : PySem.W.Frag} (q : tS Z E g (.app i c) D σ H) : tDrop (tBM K "list" rAppend (tVar i) (tA Z E g (.cons c .nil))) D σ H := by
  obtain ⟨P, F0, F, ι, ρ, st, r0, p⟩ := q
  have p' : SPost Z P F0 F ι E D (cnd (isOwn (getS ρ i)) ((evD c g ρ st).st (s1 fun v ρ st => nx1 (appS v ρ i) st)) .fail) := p
  cases ho : isOwn (getS ρ i) with
  | false => rw [ho] at p'; exact (show False from p').elim
  | true =>
    rw [ho] at p'
    obtain ⟨xs, ex⟩ := own_of ho
    have hs := r0.sl i
    rw [ex] at hs
    obtain ⟨a, vs, h1, h2, h3, h4, h5, h6⟩ := hs
    refine ⟨.ref a, h1, .inl ⟨rfl, _, SqL.of h2⟩, P, F0, F, ι, ρ, st, r0, SPost.arg (c := c) (k := fun v ρ st => nx1 (appS v ρ i) st) p' fun x ρ1 st1 F1 ι1 H1 u s1' e1 r1 ru q1 => ?_⟩
    have hs1 := r1.sl i
    unfold appS at q1
    cases ey : getS ρ1 i with
    | no => rw [ey] at q1; exact (show False from q1).elim
    | val y => rw [ey] at q1; exact (show False from q1).elim
    | own ys =>
      rw [ey] at q1 hs1
      obtain ⟨b, ws, k1, k2, k3, k4, k5, k6⟩ := hs1
      rw [h1] at k1
      cases k1
      have q2 : SPost Z P F0 F1 ι1 E D (nx1 (cnd (Nat.blt ys.length lineP) (some (setS ρ1 i (.own (ys ++ [x])))) none) st1) := q1
      cases hb : Nat.blt ys.length lineP with
      | false => rw [hb] at q2; exact (show False from q2).elim
      | true =>
        rw [hb] at q2
        have hl : ws.length < sizeLine := by
          rw [k3.len]
          have : ys.length < lineP := by simpa [Nat.blt_eq] using hb
          exact this
        exact ⟨a, ws, u, rfl, rfl, k2, hl, SPost.here (show SPost Z P F0 F1 ι1 E D (.nx (setS ρ1 i (.own (ys ++ [x]))) st1) from q2) (r1.chg ey h1 (k3.app (.cons ru .nil)))⟩
theorem s_ext {i : Nat} {c : Ce} {K : PySem.W.Frag} (q : tS Z E g (.ext i c) D σ H) : tDrop (tBM K "list" (fun x vs H Q => ∃ a b ws zs, x = .ref a ∧ vs = [.ref b] ∧ H a = some (.lst ws) ∧ Rd H b (.lst zs) ∧ ws.length + zs.length ≤ sizeLine ∧ Q .non (upd H a (.lst (ws ++ zs)))) (tVar i) (tA Z E g (.cons c .nil))) D σ H := by
  obtain ⟨P, F0, F, ι, ρ, st, r0, p⟩ := q
  have p' : SPost Z P F0 F ι E D (cnd (isOwn (getS ρ i)) ((evD c g ρ st).st (s1 fun v ρ st => nx1 (extS v ρ i) st)) .fail) := p
  cases ho : isOwn (getS ρ i) with
  | false => rw [ho] at p'; exact (show False from p').elim
  | true =>
    rw [ho] at p'
    obtain ⟨xs, ex⟩ := own_of ho
    have hs := r0.sl i
    rw [ex] at hs
    obtain ⟨a, vs, h1, h2, h3, h4, h5, h6⟩ := hs
    refine ⟨.ref a, h1, .inl ⟨rfl, _, SqL.of h2⟩, P, F0, F, ι, ρ, st, r0, SPost.arg (c := c) (k := fun v ρ st => nx1 (extS v ρ i) st) p' fun x ρ1 st1 F1 ι1 H1 u s1' e1 r1 ru q1 => ?_⟩
    have hs1 := r1.sl i
    unfold extS at q1
    cases ey : getS ρ1 i with
    | no => rw [ey] at q1; exact (show False from q1).elim
    | val y => rw [ey] at q1; exact (show False from q1).elim
    | own ys =>
      rw [ey] at q1 hs1
      obtain ⟨b, ws, k1, k2, k3, k4, k5, k6⟩ := hs1
      rw [h1] at k1
      cases k1
      cases x with
      | lst zs =>
        have q2 : SPost Z P F0 F1 ι1 E D (nx1 (cnd (fits (ys.length + zs.length)) (some (setS ρ1 i (.own (ys ++ zs)))) none) st1) := q1
        obtain ⟨bz, us, rfl, j1, j2⟩ := ru.lst_of
        cases hb : fits (ys.length + zs.length) with
        | false => rw [hb] at q2; exact (show False from q2).elim
        | true =>
          rw [hb] at q2
          exact ⟨a, bz, ws, us, rfl, rfl, k2, r1.r.fh.rd j1, by rw [k3.len, j2.len]; exact fits_le hb, SPost.here (show SPost Z P F0 F1 ι1 E D (.nx (setS ρ1 i (.own (ys ++ zs))) st1) from q2) (r1.chg ey h1 (k3.app j2))⟩
      | _ => exact (show False from q1).elim
/-- x = [..], to be changed later -/
theorem s_setL {i : Nat} {c : Ce} (q : tS Z E g (.setL i (.lst c)) D σ H) : tAsg (tLst (tA Z E g c)) (gName i) D σ H := by
  obtain ⟨P, F0, F, ι, ρ, st, r0, p⟩ := q
  have p' : SPost Z P F0 F ι E D (((evD c g ρ st).bind fun vs ρ st => cnd (fits vs.length) (.ok [.lst vs] ρ st) .fail).st (s1 fun v ρ st => nx1 (ownS v ρ i) st)) := p
  refine ⟨P, F0, F, ι, ρ, st, r0, ?_⟩
  cases e1 : evD c g ρ st with
  | ex c x st1 => rw [e1] at p'; exact p'
  | fail => rw [e1] at p'; exact p'
  | ok xs ρ1 st1 =>
    rw [e1] at p'
    intro F' ι' H' vs a b r1 rs
    have p2 : SPost Z P F0 F ι E D ((cnd (fits xs.length) (ResE.ok [.lst xs] ρ1 st1) .fail).st (s1 fun v ρ st => nx1 (ownS v ρ i) st)) := p'
    cases hf : fits xs.length with
    | false => rw [hf] at p2; exact (show False from p2).elim
    | true =>
      rw [hf] at p2
      have p3 : SPost Z P F0 F ι E D (.nx (setS ρ1 i (.own xs)) st1) := p2
      refine ⟨by rw [rs.len]; exact fits_le hf, fun pp hp => ?_⟩
      obtain ⟨f1, f2, f3⟩ := r1.r.fresh hp
      exact SPost.here (SPost.weak a b p3) ((r1.newOwn hp).setOwn i rs upd_same f1 f2 f3 fun j ⟨ys, y1, y2⟩ => by
        have hj := r1.sl j
        rw [y1] at hj
        obtain ⟨b', ws, k1, k2, _⟩ := hj
        rw [y2] at k1
        cases k1
        rw [hp] at k2
        cases k2)
/-- list + list, not yet read by anything -/
def rOwn (Z : Fx) : R2 := fun x y H Q => ∃ P F0 F ι σ ρ st xs ys, Rel Z P F0 F ι σ H ρ st ∧ Rep Z.K F ι (.lst xs) x ∧ Rep Z.K F ι (.lst ys) y ∧ fits (xs.length + ys.length) = true ∧ ∀ p vs, Reps Z.K F ι (xs ++ ys) vs → H p = none → Q (.ref p) (upd H p (.lst vs))
theorem op_own {X : Cx} : OpR X (binaryOp .Add) (rOwn Z) := by
  refine or_imp op_catL fun x y H Q h => ?_
  obtain ⟨P, F0, F, ι, σ, ρ, st, xs, ys, r, rx, ry, hf, k⟩ := h
  obtain ⟨a, vs, rfl, h1, h2⟩ := rx.lst_of
  obtain ⟨b, ws, rfl, h3, h4⟩ := ry.lst_of
  exact ⟨a, b, vs, ws, rfl, rfl, r.r.fh.rd h1, r.r.fh.rd h3, by rw [h2.len, h4.len]; exact fits_le hf, fun p hp => k p _ (h2.app h4) hp⟩
theorem st_d1 {r : ResE} {k : PV → Evn → Sto → ResE} {K : List PV → Evn → Sto → ResS} : (r.bind (d1 k)).st K = r.st (s1 fun x ρ st => (k x ρ st).st K) := by
  cases r with
  | ok vs ρ st =>
    match vs with
    | [x] => rfl
    | [] => rfl
    | _ :: _ :: _ => rfl
  | ex c v st => rfl
  | fail => rfl
theorem binP_lst {x y : PV} {zs : List PV} (h : binP .add x y = some (.lst zs)) : ∃ xs ys, x = .lst xs ∧ y = .lst ys ∧ fits (xs.length + ys.length) = true ∧ zs = xs ++ ys := by
  cases x with
  | lst xs =>
    cases y with
    | lst ys =>
      have h' : (if fits (xs.length + ys.length) then some (PV.lst (xs ++ ys)) else none) = some (.lst zs) := h
      split at h'
      · rename_i c; cases h'; exact ⟨xs, ys, rfl, rfl, c, rfl⟩
      · cases h'
    | _ => cases h
  | int i =>
    cases y with
    | int j => cases h
    | _ => cases h
  | tup xs =>
    cases y with
    | tup ys =>
      have h' : (if fits (xs.length + ys.length) then some (PV.tup (xs ++ ys)) else none) = some (.lst zs) := h
      split at h' <;> cases h'
    | _ => cases h
  | str xs =>
    cases y with
    | str ys =>
      have h' : (if fits (xs.length + ys.length) then some (PV.str (xs ++ ys)) else none) = some (.lst zs) := h
      split at h' <;> cases h'
    | _ => cases h
  | _ => cases y <;> cases h
theorem s_catL {i : Nat} {a b : Ce} (q : tS Z E g (.setL i (.bin .add a b)) D σ H) : tAsg (tOp (rOwn Z) (tE Z E g a) (tE Z E g b)) (gName i) D σ H := by
  obtain ⟨P, F0, F, ι, ρ, st, r0, p⟩ := q
  have p' : SPost Z P F0 F ι E D (((evD a g ρ st).bind (d1 fun x ρ st => (evD b g ρ st).bind (d1 fun y ρ st => givD (binP .add x y) ρ st))).st (s1 fun v ρ st => nx1 (ownS v ρ i) st)) := p
  rw [st_d1] at p'
  refine ⟨P, F0, F, ι, ρ, st, r0, SPost.b1 p' fun x ρ1 st1 F1 ι1 H1 u s1' e1 r1 rx q1 => ?_⟩
  rw [st_d1] at q1
  refine ⟨P, F0, F1, ι1, ρ1, st1, r1, SPost.b1 q1 fun y ρ2 st2 F2 ι2 H2 w s2 e2 r2 ry q2 => ?_⟩
  cases hb : binP .add x y with
  | none => rw [hb] at q2; exact (show False from q2).elim
  | some v =>
    rw [hb] at q2
    have q3 : SPost Z P F0 F2 ι2 E D (nx1 (ownS v ρ2 i) st2) := q2
    cases v with
    | lst zs =>
      obtain ⟨xs, ys, rfl, rfl, hf, rfl⟩ := binP_lst hb
      refine ⟨P, F0, F2, ι2, σ, ρ2, st2, xs, ys, r2, rx.mono s2 e2, ry, hf, fun pp vs rs hp => ?_⟩
      obtain ⟨f1, f2, f3⟩ := r2.r.fresh hp
      exact SPost.here (show SPost Z P F0 F2 ι2 E D (.nx (setS ρ2 i (.own (xs ++ ys))) st2) from q3) ((r2.newOwn hp).setOwn i rs upd_same f1 f2 f3 fun j ⟨us, y1, y2⟩ => by
        have hj := r2.sl j
        rw [y1] at hj
        obtain ⟨b', ws, k1, k2, _⟩ := hj
        rw [y2] at k1
        cases k1
        rw [hp] at k2
        cases k2)
    | _ => exact (show False from q3).elim
end
end Cv

set_option Elab.async false
set_option linter.all false
set_option maxRecDepth 100000
set_option maxHeartbeats 4000000
/-! Core15: from the model's statements to the small ones. -/
namespace Cv
open PySem PySem.Spec PyProof.Rows L2
def lclB (sc : Scope) (x : Str) : Bool := match sc.names.lookup x with
  | some .local => true
  | _ => false
/-- is the comprehension's list stored within the comprehension -/
def swB (sc : Scope) (x : Str) (px : Pos) : Expr → Bool
  | .ListComp _ _ s pos => lclB sc x && (px.line == pos.line) && !(s.names.any fun (n, k) => n == x && (k == .local || k == .cell))
  | _ => false
theorem lclB_ok {sc : Scope} {x : Str} (h : lclB sc x = true) : sc.names.lookup x = some .local := by
  unfold lclB at h
  split at h
  · assumption
  · cases h
theorem lclB_eq {sc : Scope} {x : Str} : (sc.names.lookup x == some .local) = lclB sc x := by
  unfold lclB
  split
  · rename_i h; rw [h]; rfl
  · rename_i h
    cases e : sc.names.lookup x with
    | none => rfl
    | some k => cases k <;> first | rfl | exact absurd e (h)
theorem sw_eq {env : PySem.Env} {e : Expr} {x : Str} {px : Pos} {l : Nat} (hk : env.scope.kind = .function) (hn : ∀ a b c d, e ≠ .SetComp a b c d) (hn2 : ∀ a b c d f, e ≠ .DictComp a b c d f) : swapsWith e (some (.Name x px)) l env = pure (swB env.scope x px e) := by
  cases e with
  | ListComp elt gs s pos =>
    have hb : (env.blockKind == ScopeKind.function) = true := by unfold Env.blockKind; rw [hk]; rfl
    have hl : (env.kindOf x == some .local) = lclB env.scope x := lclB_eq
    show (pure (env.blockKind == .function && env.kindOf x == some .local && px.line == pos.line && !(s.names.any fun (n, k) => n == x && (k == .local || k == .cell))) : Sem Bool) = _
    rw [hb, hl, Bool.true_and]
    rfl
  | SetComp a b c d => exact absurd rfl (hn a b c d)
  | DictComp a b c d f => exact absurd rfl (hn2 a b c d f)
  | _ => rfl
def isTupE : Expr → Bool
  | .Tuple .. => true
  | _ => false
def bothB (p : Expr → Bool) (vs : List Expr) : Bool := vs.all p
/-- may the stores be swapped -/
def parB (sc : Scope) (x y : Str) (px py : Pos) (a b : Expr) : Bool :=
  lclB sc x && lclB sc y && (px.line == py.line) && !(x == y) && noStar a && noStar b && !([a, b].all (foldedForSure 8)) && !([a, b].all (constantsAlone 8))
theorem par_eq {env : PySem.Env} {x y : Str} {px py pt pt2 : Pos} {a b : Expr} {kt k2 : Nat} (hk : env.scope.kind = .function) (h : parB env.scope x y px py a b = true) :
    swappedStores [.Tuple [.Name x px, .Name y py] kt pt] (.Tuple [a, b] k2 pt2) env = pure (some [x, y]) := by
  unfold parB at h
  simp only [Bool.and_eq_true, Bool.not_eq_true'] at h
  obtain ⟨⟨⟨⟨⟨⟨⟨h1, h2⟩, h3⟩, h4⟩, h5⟩, h6⟩, h7⟩, h8⟩ := h
  have hb : (env.blockKind != ScopeKind.function) = false := by unfold Env.blockKind; rw [hk]; rfl
  have e1 : (env.kindOf x == some .local) = true := lclB_eq.trans h1
  have e2 : (env.kindOf y == some .local) = true := lclB_eq.trans h2
  have l1 : (px.line == px.line) = true := beq_self_eq_true _
  have l2 : (py.line == px.line) = true := by rw [beq_iff_eq] at h3 ⊢; exact h3.symm
  have yx : (y == x) = false := by
    rw [beq_eq_false_iff_ne] at h4 ⊢; exact fun z => h4 z.symm
  have dd : ([x, y] : List Str).eraseDups.length = 2 := by
    simp [List.eraseDups_cons, List.filter, yx]
  unfold swappedStores
  dsimp only
  have no : ∀ {c : Bool}, c = false → ¬ c = true := fun {c} e => by rw [e]; exact Bool.false_ne_true
  rw [if_neg (no (by rw [hb]; rfl))]
  rw [if_neg (no (by cases a <;> cases b <;> first | rfl | (cases h5; done) | (cases h6; done)))]
  have key : ∀ (G : Expr → Option Str), G (.Name x px) = some x → G (.Name y py) = some y → List.filterMap G [.Name x px, .Name y py] = [x, y] := fun G a b => by simp [List.filterMap_cons, a, b]
  have q1 : (env.kindOf x == some NameKind.local && px.line == px.line) = true := by rw [e1, l1]; rfl
  have q2 : (env.kindOf y == some NameKind.local && py.line == px.line) = true := by rw [e2, l2]; rfl
  rw [key _ (if_pos q1) (if_pos q2), if_neg (no (by rw [dd]; rfl)), if_neg (no h7), if_neg (no h8)]
/-- names that a def's own block stores -/
def ownT (x : Str) : Bool := true
/-- names that a block changes in place -/
def chE (ms : List Str) : Expr → List Str
  | .Call g _ _ _ => match g with
    | .Attribute o m _ => (match o with
      | .Name x _ => if ms.contains m then [x] else []
      | _ => [])
    | _ => []
  | _ => []
def chT : Expr → List Str
  | .Subscript o _ _ => match o with
    | .Name x _ => [x]
    | _ => []
  | _ => []
def chS : Nat → Stmt → List Str
  | 0, _ => []
  | n + 1, s => match s with
    | .Expr e _ => chE ["append", "extend"] e
    | .Assign tgs _ _ => tgs.flatMap chT
    | .If _ a b _ => a.flatMap (chS n) ++ b.flatMap (chS n)
    | .For _ _ b _ _ => b.flatMap (chS n)
    | .While _ b _ _ => b.flatMap (chS n)
    | _ => []
/-- x.append(e), x.extend(e) -/
def cmpM (C : CC) (r : Rc) (ch : List Str) (sc : Scope) : Expr → Option Cs
  | .Call g as kws cpos => match g with
    | .Attribute o m apos => (match o, as, kws with
      | .Name x _, [a], [] => if ch.contains x && visB sc x && plainN x && noStar a && (apos.endLine == cpos.line) then (match nIx C.N x, r false sc a with
        | some i, some c => if m = ("append" : Str) then some (.app i c) else if m = ("extend" : Str) then some (.ext i c) else none
        | _, _ => none) else none
      | _, _, _ => none)
    | _ => none
  | _ => none
/-- a written list -/
def lstE : Expr → Option (List Expr)
  | .List es _ => some es
  | _ => none
def addE : Expr → Option (Expr × Expr)
  | .BinOp a op b _ => match op with
    | .Add => some (a, b)
    | _ => none
  | _ => none
theorem addE_ok {e a b : Expr} (h : addE e = some (a, b)) : ∃ pos, e = .BinOp a .Add b pos := by
  unfold addE at h
  split at h
  · split at h
    · cases h; exact ⟨_, rfl⟩
    · cases h
  · cases h
/-- the stores are not swapped, since the tuple is folded, or long, or a name is captured -/
def notLcl (sc : Scope) : Expr → Bool
  | .Name x _ => !lclB sc x
  | _ => true
def noSw (sc : Scope) (ts vs : List Expr) : Bool := (!(ts.length == 2 || ts.length == 3)) || (vs.all (foldedForSure 8) || ts.any (notLcl sc))
theorem noSw_ok {ts vs : List Expr} {kt k2 : Nat} {pt p2 : Pos} {env : PySem.Env} (h : noSw env.scope ts vs = true) : swappedStores [.Tuple ts kt pt] (.Tuple vs k2 p2) env = pure none := by
  unfold swappedStores
  dsimp only
  split
  · rfl
  · rename_i h1
    split
    · rfl
    · split
      · rfl
      · rename_i h3
        unfold noSw at h
        rw [Bool.or_eq_true, Bool.or_eq_true] at h
        rcases h with h | h | h
        · exact absurd (by rw [h]; rfl) h1
        · rw [if_pos h]
        · obtain ⟨t, ht, hn⟩ := List.any_eq_true.mp h
          refine absurd ?_ h3
          rw [Bool.or_eq_true]
          refine .inl (bne_iff_ne.mpr fun e => ?_)
          have all := List.filterMap_length_eq_length.mp e t ht
          cases t with
          | Name x px =>
            have hx : lclB env.scope x = false := by
              have z : (!lclB env.scope x) = true := hn
              simpa using z
            have hk : (env.kindOf x == some .local) = false := lclB_eq.trans hx
            dsimp only at all
            rw [hk] at all
            exact absurd all (by simp)
          | _ => exact absurd all (by simp)
def cmpA (C : CC) (r : Rc) (ch : List Str) (sc : Scope) (tg : Expr) (e : Expr) (pos : Pos) : Option Cs := match tg with
  | .Name x px => if locB sc x then (match nIx C.N x with
    | some i => if ch.contains x && (lstE e).isSome then (match lstE e with
        | some es => (cmpL (r false sc) es).map fun c => .setL i (.lst c)
        | none => none) else if ch.contains x && (addE e).isSome then (match addE e with
        | some (a, b) => (match r false sc a, r false sc b with
          | some ca, some cb => some (.setL i (.bin .add ca cb))
          | _, _ => none)
        | none => none) else if swB sc x px e then (cmpLC C r sc e).map (.set i) else (match e with
      | .SetComp .. | .DictComp .. => none
      | e => (r false sc e).map (.set i))
    | none => none) else none
  | .Tuple ts _ _ => if isTupE e then (match ts, e with
      | [.Name x px, .Name y py], .Tuple [a, b] _ _ => if parB sc x y px py a b then (match nIx C.N x, nIx C.N y, r false sc a, r false sc b with
        | some i, some j, some ca, some cb => if i = j then none else some (.par i j ca cb false false)
        | _, _, _, _ => none) else (match cmpG C.N sc ownT 6 tg, r false sc e with
        | some t, some c => if noSw sc [.Name x px, .Name y py] [a, b] then some (.asg t c) else none
        | _, _ => none)
      | ts, .Tuple vs _ _ => (match cmpG C.N sc ownT 6 tg, r false sc e with
        | some t, some c => if noSw sc ts vs then some (.asg t c) else none
        | _, _ => none)
      | _, _ => none)
    else (match cmpG C.N sc ownT 6 tg, r false sc e with
      | some t, some c => some (.asg t c)
      | _, _ => none)
  | .Subscript o i _ => (match o with
    | .Name x _ => if visB sc x && plainN x then (match nIx C.N x, r false sc i, r false sc e with
      | some j, some ci, some ce => if plainS i then some (.sti j ci ce) else none
      | _, _, _ => none) else none
    | _ => none)
  | _ => none
where plainS : Expr → Bool
  | .Slice .. => false
  | _ => true
def isStrE : Expr → Bool
  | .Constant k _ _ => (match k with | .str _ => true | _ => false)
  | _ => false
def isCompE : Expr → Bool
  | .ListComp .. | .SetComp .. | .DictComp .. => true
  | _ => false
def seqL (fs : Stmt → Option Cs) : List Stmt → Option Cs
  | [] => some .skip
  | s :: ss => match ss with
    | [] => fs s
    | _ :: _ => match fs s, seqL fs ss with
      | some a, some b => some (.seq a b)
      | _, _ => none
def exIx (x : Str) : List Str → Nat → Option Nat
  | [], _ => none
  | y :: r, n => if y = x then some n else exIx x r (n + 1)
theorem exIx_ok {x : Str} : ∀ {l : List Str} {n i : Nat}, exIx x l n = some i → n ≤ i ∧ l[i - n]? = some x
  | y :: r, n, i, h => by
    unfold exIx at h
    by_cases e : y = x
    · rw [if_pos e] at h; cases h; subst e; simp
    · rw [if_neg e] at h
      obtain ⟨h1, h2⟩ := exIx_ok h
      refine ⟨by omega, ?_⟩
      obtain ⟨k, rfl⟩ : ∃ k, i = n + 1 + k := ⟨i - (n + 1), by omega⟩
      have e1 : n + 1 + k - (n + 1) = k := by omega
      have e2 : n + 1 + k - n = k + 1 := by omega
      rw [e1] at h2
      rw [e2]; simpa using h2
  | [], _, _, h => by cases h
/-- ob: a list that is handed back may be changed -/
def cmpS (C : CC) (r : Rc) (ob : Bool) (ch : List Str) (sc : Scope) : Nat → Stmt → Option Cs
  | 0, _ => none
  | n + 1, s => match s with
    | .Pass _ => some .skip
    | .Expr e _ => if isStrE e then some .skip else if isCompE e then none else (match cmpM C r ch sc e with
      | some c => some c
      | none => (r false sc e).map .drop)
    | .Assign tgs e pos => (match tgs with
      | [tg] => cmpA C r ch sc tg e pos
      | _ => none)
    | .If c a b _ => (match r true sc c, seqL (cmpS C r ob ch sc n) a, seqL (cmpS C r ob ch sc n) b with
      | some c, some a, some b => some (.ite c a b)
      | _, _, _ => none)
    | .Return o _ => (match o with
      | none => some (.ret (.c .non))
      | some e => (match e with
        | .List es _ => if ob then (cmpL (r false sc) es).map fun c => .ret (.obj c) else (r false sc e).map .ret
        | e => (r false sc e).map .ret))
    | .For tg it b o _ => (match o with
      | [] => if isSet it then none else (match cmpG C.N sc ownT 6 tg, cmpW C r sc tg it, seqL (cmpS C r ob ch sc n) b with
        | some t, some i, some b => some (.for_ t i b)
        | _, _, _ => none)
      | _ => none)
    | .While c b o _ => (match o with
      | [] => (match r true sc c, seqL (cmpS C r ob ch sc n) b with
        | some c, some b => some (.while_ c b)
        | _, _ => none)
      | _ => none)
    | .Continue _ => some .cont
    | .Raise o fr _ => (match o, fr with
      | some (.Call (.Name x _) [e] [] _), none => if glbB sc x && plainN x && noStar e then (match exIx x C.exn 0, r false sc e with
        | some k, some c => some (.raise k c)
        | _, _ => none) else none
      | _, _ => none)
    | _ => none
/-- where a def's statements stand -/
structure Sw (Z : Fx) (C : CC) (f : Cl) (lv : Nat) (sc : Scope) (X : Cx) (E : XK) : Prop where
  toCw : Cw Z C f lv sc X E
  po : PassesOwn (model X.prog X.w) X.A X.env X.xe
  ow : ∀ x, X.fn x = true
  kd : sc.kind = .function
  mkx : ∀ (k : Nat) (x : Str), C.exn[k]? = some x → ∀ (e : Expr) (ta : TA) (p pos : Pos), Gl X x → plainN x = true → noStar e = true → PA X [e] ta →
    PMk X (.Call (.Name x p) [e] [] pos) (fun σ H Q => ta σ H fun vs H1 => ∃ P F0 F ι σ' ρ st y, Rel Z P F0 F ι σ' H1 ρ st ∧ Reps Z.K F ι [y] vs ∧ ∀ cls d H', ExnOk Z P F0 F ι k y st cls d H' → Q cls d H')
section
variable {Z : Fx} {P F0 F F1 F' H H' H1 : Hp} {ι ι1 ι' : List Addr} {σ σ2 : L2.St} {ρ ρ1 : Evn} {st st' st1 : Sto} {Q Q1 : VK} {E : XK} {X : Cx} {C : CC} {f g : Cl} {lv : Nat} {sc : Scope} {r : Rc} {D : Ends}
theorem s_raise {k : Nat} {c : Ce} (q : tS Z E g (.raise k c) D σ H) : (fun (D : Ends) (σ : L2.St) (H : Hp) => tA Z E g (.cons c .nil) σ H fun vs H1 => ∃ P F0 F ι σ' ρ st y, Rel Z P F0 F ι σ' H1 ρ st ∧ Reps Z.K F ι [y] vs ∧ ∀ cls d H', ExnOk Z P F0 F ι k y st cls d H' → E cls d H') D σ H := by
  obtain ⟨P, F0, F, ι, ρ, st, r0, p⟩ := q
  refine ⟨P, F0, F, ι, ρ, st, r0, ?_⟩
  have p' : SPost Z P F0 F ι E D ((evD c g ρ st).st (s1 fun v _ st => .ex k v st)) := p
  show APost Z P F0 σ F ι E _ ((evD c g ρ st).bind (d1 fun v ρ st => (ResE.ok [] ρ st).bind fun vs ρ st => .ok (v :: vs) ρ st))
  cases e1 : evD c g ρ st with
  | ex c x st1 => rw [e1] at p'; exact p'
  | fail => rw [e1] at p'; exact p'
  | ok xs ρ1 st1 =>
    rw [e1] at p'
    match xs, p' with
    | [], p' => exact (show False from p').elim
    | _ :: _ :: _, p' => exact (show False from p').elim
    | [v], p' =>
      have p2 : SPost Z P F0 F ι E D (.ex k v st1) := p'
      exact fun F' ι' H' vs a b r1 rs => ⟨P, F0, F', ι', σ, ρ1, st1, v, r1, rs, fun cls d H' h => p2 cls d H' (h.weak a b)⟩
theorem s_retN (q : tS Z E g (.ret (.c .non)) D σ H) : tRetN D σ H := by
  obtain ⟨P, F0, F, ι, ρ, st, r0, p⟩ := q
  exact (show SPost Z P F0 F ι E D (.rt .non st) from p) F ι H .non .rfl' .rfl' r0.r .non
theorem seqL_snd {fs : Stmt → Option Cs} (h : ∀ s c, fs s = some c → PS X s (tS Z E g c)) : ∀ {ss : List Stmt} {c : Cs}, seqL fs ss = some c → PSs X ss (tS Z E g c)
  | [], c, e => by cases e; exact pss_imp pss_nil fun D σ H q => s_skip q
  | [s], c, e => pss_one (h s c e)
  | s :: s2 :: ss, c, e => by
    have e' : (match fs s, seqL fs (s2 :: ss) with | some a, some b => some (Cs.seq a b) | _, _ => none) = some c := e
    split at e'
    · rename_i a b h1 h2
      cases e'
      exact pss_imp (pss_cons (h s a h1) (seqL_snd h h2)) fun D σ H q => s_seq q
    · cases e'
theorem isi_comp {e : Expr} (h : isCompE e = false) : ∀ {l : Nat} {env : PySem.Env}, swapsWith e none l env = pure false := by
  intro l env
  cases e <;> first | rfl | cases h
theorem lstE_ok {e : Expr} {es : List Expr} (h : lstE e = some es) : ∃ pos, e = .List es pos := by
  cases e <;> first | (cases h; exact ⟨_, rfl⟩) | cases h
theorem cmpM_snd (hr : Snd Z C f lv r) (w : Sw Z C f lv sc X E) (hl : Le g f) {ch : List Str} {e : Expr} {pos : Pos} {c : Cs} (hc : isCompE e = false) (h : cmpM C r ch sc e = some c) : PS X (.Expr e pos) (tS Z E g c) := by
  have wc := w.toCw
  unfold cmpM at h
  split at h
  · rename_i g1 as kws cpos
    split at h
    · rename_i o m apos
      split at h
      · rename_i x px a
        split at h
        · rename_i hq
          simp only [Bool.and_eq_true] at hq
          obtain ⟨⟨⟨⟨_, h2⟩, h3⟩, h4⟩, h5⟩ := hq
          split at h
          · rename_i i c1 e1 e2
            obtain ⟨p1, p2, p3⟩ := plainN_ok h3
            have pv := pe_var (X := X) (i := i) (x := x) (pos := px) (by rw [wc.n]; exact nIx_ok e1) (by rw [wc.sc]; exact visB_ok h2) p1 p2
            have pa := pa_snd hr wc hl (cmpL_one e2)
            have st1 : starEach [a] X.env = (false, eval a X.env) :: starEach [] X.env := no1 h4
            have few : ((backTo cpos (starEach [a] X.env)).all (fun x => !x.1) && (backToKw cpos (keywordEach [] X.env)).all (fun x => x.1.isSome) && decide ([a].length + ([] : List Keyword).length + (if ([] : List Keyword).isEmpty then 0 else 1) < 30)) = true := by rw [st1]; rfl
            split at h
            · rename_i hm
              subst hm
              cases h
              exact ps_imp (ps_expr (pe_bm PySem.F.plainAttrs_list PySem.F.slot_list_append PySem.F.type_list_append mt_append pv pa rfl few h5 st1 rfl) (isi_comp hc)) fun D σ H q => s_app q
            · split at h
              · rename_i hm
                subst hm
                cases h
                exact ps_imp (ps_expr (pe_bm PySem.F.plainAttrs_list PySem.F.slot_list_extend PySem.F.type_list_extend mt_extR pv pa rfl few h5 st1 rfl) (isi_comp hc)) fun D σ H q => s_ext q
              · cases h
          · cases h
        · cases h
      · cases h
    · cases h
  · cases h
theorem cmpA_snd (hr : Snd Z C f lv r) (w : Sw Z C f lv sc X E) (hl : Le g f) {ch : List Str} {tg e : Expr} {pos : Pos} {c : Cs} (h : cmpA C r ch sc tg e pos = some c) : PS X (.Assign [tg] e pos) (tS Z E g c) := by
  have wc := w.toCw
  unfold cmpA at h
  split at h
  · rename_i x px
    split at h
    · rename_i hloc
      split at h
      · rename_i i hi
        have ht : X.N[i]? = some x := by rw [wc.n]; exact nIx_ok hi
        have hN : X.N.Nodup := by rw [wc.n]; exact wc.nd
        have hx : Loc X.env.scope x := by rw [wc.sc]; exact locB_ok hloc
        split at h
        · split at h
          · rename_i es he
            obtain ⟨c1, h1, rfl⟩ := m1 h
            obtain ⟨pl, rfl⟩ := lstE_ok he
            refine ps_imp (ps_set hN ht hx (pe_lst (pa_snd hr wc hl h1)) ?_ (.inl (w.ow x))) fun D σ H q => s_setL q
            rw [sw_eq (by rw [wc.sc]; exact w.kd) (fun _ _ _ _ z => by cases z) (fun _ _ _ _ _ z => by cases z)]
            rfl
          · cases h
        split at h
        · split at h
          · rename_i ea eb he
            obtain ⟨pl, rfl⟩ := addE_ok he
            split at h
            · rename_i ca cb h1 h2
              cases h
              refine ps_imp (ps_set hN ht hx (pe_op (op_own (Z := Z)) (hr.v _ _ _ h1 X E g wc hl) (hr.v _ _ _ h2 X E g wc hl)) ?_ (.inl (w.ow x))) fun D σ H q => s_catL q
              rw [sw_eq (by rw [wc.sc]; exact w.kd) (fun _ _ _ _ z => by cases z) (fun _ _ _ _ _ z => by cases z)]
              rfl
            · cases h
          · cases h
        split at h
        · rename_i hsw
          obtain ⟨c1, h1, rfl⟩ := m1 h
          obtain ⟨elt, tg, it, ifs, scope, pos', rfl, k⟩ := cmpLC_ok h1
          obtain ⟨t, ci, ce, tt, k1, k2, k3, k4, k5⟩ := lc_parts hr wc hl k
          have hloc2 : X.env.scope.names.lookup x = some .local := by
            have : (lclB sc x && (px.line == pos'.line) && !(scope.names.any fun (n, k) => n == x && (k == .local || k == .cell))) = true := hsw
            rw [Bool.and_eq_true, Bool.and_eq_true] at this
            rw [wc.sc]; exact lclB_ok this.1.1
          refine ps_imp (ps_setLc (own := ownsOf C.N scope.names) wc.calm hN ht hloc2 ?_ k1 (by rw [wc.n, wc.sc]; exact blkOk_by k.ok) k2 k3 k4 (noFold k.ns)) fun D σ H q => ?_
          · rw [sw_eq (by rw [wc.sc]; exact w.kd) (fun _ _ _ _ z => by cases z) (fun _ _ _ _ _ z => by cases z), wc.sc, hsw]
          · exact k5 _ _ _ (s_set q)
        · rename_i hsw
          have fin : ∀ {e : Expr} {c : Cs}, (∀ a b c d, e ≠ .SetComp a b c d) → (∀ a b c d f, e ≠ .DictComp a b c d f) → ¬ swB sc x px e = true → (r false sc e).map (Cs.set i) = some c → PS X (.Assign [.Name x px] e pos) (tS Z E g c) := fun {e c} n1 n2 ns z => by
            obtain ⟨c1, h1, rfl⟩ := m1 z
            refine ps_imp (ps_set hN ht hx (hr.v _ _ _ h1 X E g wc hl) ?_ (.inl (w.ow x))) fun D σ H q => s_set q
            rw [sw_eq (by rw [wc.sc]; exact w.kd) n1 n2, wc.sc]
            rw [show swB sc x px e = false by simpa using ns]
          split at h
          · cases h
          · cases h
          · rename_i n1 n2
            exact fin n1 n2 hsw h
      · cases h
    · cases h
  · rename_i ts kt pt
    split at h
    · rename_i hT
      split at h
      · rename_i x px y py a b k2 pt2
        split at h
        · rename_i hp
          split at h
          · rename_i i j ca cb e1 e2 e3 e4
            split at h
            · cases h
            · rename_i hij
              cases h
              have lx : X.env.scope.names.lookup x = some .local ∧ X.env.scope.names.lookup y = some .local := by
                unfold parB at hp
                simp only [Bool.and_eq_true] at hp
                rw [wc.sc]
                exact ⟨lclB_ok hp.1.1.1.1.1.1.1, lclB_ok hp.1.1.1.1.1.1.2⟩
              refine ps_imp (ps_par wc.calm (by rw [wc.n]; exact wc.nd) (by rw [wc.n]; exact nIx_ok e1) (by rw [wc.n]; exact nIx_ok e2) hij lx.1 lx.2 (pa_snd hr wc hl (cmpL_two e3 e4)) (par_eq (by rw [wc.sc]; exact w.kd) (by rw [wc.sc]; exact hp))) fun D σ H q => s_par q
          · cases h
        · split at h
          · rename_i t c1 e1 e2
            split at h
            · rename_i hn
              cases h
              exact ps_imp (ps_asg (hr.v _ _ _ e2 X E g wc hl) (pg_snd wc.n wc.nd wc.k wc.sc wc.calm (fun x _ => w.ow x) e1) rfl (noSw_ok (by rw [wc.sc]; exact hn))) fun D σ H q => s_asg q
            · cases h
          · cases h
      · split at h
        · rename_i t c1 e1 e2
          split at h
          · rename_i hn
            cases h
            exact ps_imp (ps_asg (hr.v _ _ _ e2 X E g wc hl) (pg_snd wc.n wc.nd wc.k wc.sc wc.calm (fun x _ => w.ow x) e1) rfl (noSw_ok (by rw [wc.sc]; exact hn))) fun D σ H q => s_asg q
          · cases h
        · cases h
      · cases h
    · rename_i hT
      split at h
      · rename_i t c1 e1 e2
        cases h
        refine ps_imp (ps_asg (hr.v _ _ _ e2 X E g wc hl) (pg_snd wc.n wc.nd wc.k wc.sc wc.calm (fun x _ => w.ow x) e1) ?_ ?_) fun D σ H q => s_asg q
        · cases e <;> rfl
        · cases e <;> first | rfl | exact absurd rfl hT
      · cases h
  · rename_i o i pos'
    split at h
    · rename_i x px
      split at h
      · rename_i hc
        rw [Bool.and_eq_true] at hc
        split at h
        · rename_i j ci ce e1 e2 e3
          split at h
          · rename_i hpl
            cases h
            obtain ⟨p1, p2, p3⟩ := plainN_ok hc.2
            refine ps_imp (ps_asg (hr.v _ _ _ e3 X E g wc hl) (pg_sub (pe_var (i := j) (by rw [wc.n]; exact nIx_ok e1) (by rw [wc.sc]; exact visB_ok hc.1) p1 p2) (hr.v _ _ _ e2 X E g wc hl) set_list ?_) ?_ ?_) fun D σ H q => s_sti q
            · intro v
              cases i <;> first | rfl | exact absurd (show false = true from hpl) (by simp)
            · cases e <;> rfl
            · cases e <;> rfl
          · cases h
        · cases h
      · cases h
    · cases h
  · cases h
theorem cmpS_snd (hr : Snd Z C f lv r) (w : Sw Z C f lv sc X E) (hl : Le g f) {ob : Bool} {ch : List Str} : ∀ {n : Nat} {s : Stmt} {c : Cs}, cmpS C r ob ch sc n s = some c → PS X s (tS Z E g c)
  | 0, _, _, h => by cases h
  | n + 1, s, c, h => by
    have wc := w.toCw
    have ih : ∀ s c, cmpS C r ob ch sc n s = some c → PS X s (tS Z E g c) := fun s c => cmpS_snd hr w hl
    unfold cmpS at h
    split at h
    · cases h; exact ps_imp ps_pass fun D σ H q => s_skip q
    · split at h
      · rename_i e pos hs
        cases h
        have : ∃ x j p, e = .Constant (.str x) j p := by
          cases e with
          | Constant k j p => cases k <;> first | exact ⟨_, _, _, rfl⟩ | exact absurd (show false = true from hs) (by simp)
          | _ => exact absurd (show false = true from hs) (by simp)
        obtain ⟨x, j, p, rfl⟩ := this
        exact ps_imp ps_doc fun D σ H q => s_skip q
      · split at h
        · cases h
        · rename_i hc
          split at h
          · rename_i c2 hm
            cases h
            exact cmpM_snd hr w hl (by simpa using hc) hm
          · obtain ⟨c1, h1, rfl⟩ := m1 h
            exact ps_imp (ps_expr (hr.v _ _ _ h1 X E g wc hl) (isi_comp (by simpa using hc))) fun D σ H q => s_drop q
    · split at h
      · exact cmpA_snd hr w hl h
      · cases h
    · split at h
      · rename_i h1 h2 h3
        cases h
        exact ps_imp (ps_if (hr.t _ _ _ h1 X E g wc hl) (seqL_snd ih h2) (seqL_snd ih h3)) fun D σ H q => s_ite q
      · cases h
    · split at h
      · cases h; exact ps_imp ps_retN fun D σ H q => s_retN q
      · split at h
        · split at h
          · obtain ⟨c1, h1, rfl⟩ := m1 h
            exact ps_imp (ps_ret (snd_obj hr wc hl h1)) fun D σ H q => s_ret q
          · obtain ⟨c1, h1, rfl⟩ := m1 h
            exact ps_imp (ps_ret (hr.v _ _ _ h1 X E g wc hl)) fun D σ H q => s_ret q
        · obtain ⟨c1, h1, rfl⟩ := m1 h
          exact ps_imp (ps_ret (hr.v _ _ _ h1 X E g wc hl)) fun D σ H q => s_ret q
    · split at h
      · split at h
        · cases h
        · rename_i hs
          split at h
          · rename_i h1 h2 h3
            cases h
            exact ps_imp (ps_for w.po wc.calm (pi_snd hr wc hl h2) (pg_snd wc.n wc.nd wc.k wc.sc wc.calm (fun x _ => w.ow x) h1) (seqL_snd ih h3) (noFold (by simpa using hs))) fun D σ H q => s_for q
          · cases h
      · cases h
    · split at h
      · split at h
        · rename_i h1 h2
          cases h
          exact ps_imp (ps_while w.po (hr.t _ _ _ h1 X E g wc hl) (seqL_snd ih h2)) fun D σ H q => s_while q
        · cases h
      · cases h
    · cases h; exact ps_imp ps_continue fun D σ H q => s_cont q
    · split at h
      · rename_i x px e pos2
        split at h
        · rename_i hc
          simp only [Bool.and_eq_true] at hc
          split at h
          · rename_i k c1 e1 e2
            cases h
            have hm : C.exn[k]? = some x := by simpa using (exIx_ok e1).2
            exact ps_imp (ps_raise wc.calm wc.tk (w.mkx k x hm e _ _ _ (glbB_ok (by rw [wc.sc]; exact hc.1.1)) hc.1.2 hc.2 (pa_snd hr wc hl (cmpL_one e2)))) fun D σ H q => s_raise q
          · cases h
        · cases h
      · cases h
    · cases h
end
end Cv

set_option Elab.async false
set_option linter.all false
set_option maxRecDepth 100000
set_option maxHeartbeats 4000000
/-! Core16: written dicts, keywords, lambdas that are refused. -/
namespace Cv
open PySem PySem.Spec PyProof.Rows L2
section
variable {Z : Fx} {P F0 F F1 F' H H' H1 : Hp} {ι ι1 ι' : List Addr} {σ σ2 : L2.St} {ρ ρ1 : Evn} {st st' st1 : Sto} {Q Q1 : VK} {E : XK} {X : Cx} {C : CC} {f g : Cl} {lv : Nat} {sc : Scope} {r : Rc} {D : Ends}
/-! ### d.get(k, x), d written -/
theorem pe_kget {x : Str} {px apos cpos : Pos} {e f : Expr} {a : Addr} {es : Array DictEntry} {n : Nat} {ty tx : TE} (gx : Gl X x) (mx : X.mg x = some (.ref a)) (dx : (x == ("__debug__" : Str)) = false) (K : KDict X.K X.w a es n) (he : PE X e ty) (hf : PE X f tx) (m : M2 X (.Name x px) "get" apos e f cpos) :
    PE X (.Call (.Attribute (.Name x px) "get" apos) [e, f] [] cpos) (fun σ H Q => ty σ H fun y H1 => tx σ H1 fun z H2 => ∃ (k : Str) (w : V), y = .str k ∧ (match PySem.W.nsIn X.K a k with | some (some u) => RelV w u | some none => w = z | none => False) ∧ Q w H2) := by
  refine ⟨fun pins s σ H Q I h => ?_⟩
  refine wpAny_Call_method m.base m.few m.line PySem.F.plainAttrs_dict PySem.F.slot_dict_get PySem.F.type_dict_get (ld_glob I gx mx ?_ dx)
  have mp := PySem.W.mapOf_K (prog := X.prog) (w := X.w) I.kIn K.at_ K.lit
  refine ⟨mp.typeIs, fun b q => ?_, ?_⟩
  · cases q
    exact ⟨_, I.kIn _ _ K.at_, rfl⟩
  rw [m.trees]
  refine Calls.callWith_builtin rfl (Calls.evalArgs_plain (Calls.spliced_cons (thn (he.run pins s σ H _ I h) fun iv s2 ⟨y, H2, I2, ry, q2⟩ =>
    Calls.spliced_cons (thn (hf.run pins s2 σ H2 _ I2 q2) fun fv s3 ⟨z, H3, I3, rz, k, w, ey, hw, q3⟩ => Calls.spliced_nil ?_))))
  subst ey
  obtain ⟨t, rfl⟩ := (show ∃ t, iv = Value.str k t from ry)
  have mp3 := PySem.W.mapOf_K (prog := X.prog) (w := X.w) I3.kIn K.at_ K.lit
  refine call_meetsIn PySem.F.slot_dict_get mp3.typeIs PySem.F.entry_dict_get (PySem.F.args_dict_get_3 _ _ _) (meets_dict_get_default (strKind X.prog X.w) a (strKind_is X.prog X.w k t) K.low fv) ⟨_, mp3, w, H3, I3.tok _, ?_, q3⟩
  cases hn : PySem.W.nsIn X.K a k with
  | none => rw [hn] at hw; exact hw.elim
  | some o =>
    rw [PySem.W.find_K K.at_ hn]
    rw [hn] at hw
    cases o with
    | none =>
      have hw' : w = z := hw
      subst hw'; exact rz
    | some u => exact hw
def cmpGet (C : CC) (r : Rc) (sc : Scope) : Expr → Option Ce
  | .Call g as kws cpos => match g with
    | .Attribute o m apos => (match o, as, kws with
      | .Name x _, [a, b], [] => if m = ("get" : Str) && glbB sc x && plainN x && noStar a && noStar b && (apos.endLine == cpos.line) then (match C.dts.lookup x, r false sc a, r false sc b with
        | some kvs, some ca, some cb => some (.bi (.dget kvs) (.cons ca (.cons cb .nil)))
        | _, _, _ => none) else none
      | _, _, _ => none)
    | _ => none
  | _ => none
theorem cmpGet_snd (hr : Snd Z C f lv r) (w : Cw Z C f lv sc X E) (hl : Le g f) {e : Expr} {c : Ce} (h : cmpGet C r sc e = some c) : PE X e (tE Z E g c) := by
  unfold cmpGet at h
  split at h
  · rename_i g1 as kws cpos
    split at h
    · rename_i o m apos
      split at h
      · rename_i x px a b
        split at h
        · rename_i hc
          simp only [Bool.and_eq_true, decide_eq_true_eq] at hc
          obtain ⟨⟨⟨⟨⟨h1, h2⟩, h3⟩, h4⟩, h5⟩, h6⟩ := hc
          subst h1
          split at h
          · rename_i kvs ca cb e1 e2 e3
            cases h
            obtain ⟨ad, es, n, d1, d2, d3⟩ := w.dt x kvs e1
            have m2 : M2 X (.Name x px) "get" apos a b cpos := by
              have t2 : starEach [a, b] X.env = [(false, eval a X.env), (false, eval b X.env)] := no2 h4 h5
              exact ⟨rfl, by rw [t2]; rfl, h6, by rw [t2]; rfl⟩
            refine pe_imp (pe_kget (glbB_ok (by rw [w.sc]; exact h2)) d1 (plainN_ok h3).1 d2 (hr.v _ _ _ e2 X E g w hl) (hr.v _ _ _ e3 X E g w hl) m2) fun σ H Q q => ?_
            obtain ⟨P, F0, F, ι, ρ, st, r0, p⟩ := q
            have p' : EPost Z P F0 σ F ι E Q (((evD ca g ρ st).bind (Cv.d1 fun v ρ st => (((evD cb g ρ st).bind (Cv.d1 fun v ρ st => (ResE.ok [] ρ st).bind fun vs ρ st => .ok (v :: vs) ρ st)).bind fun vs ρ st => .ok (v :: vs) ρ st))).bind fun vs ρ st => givD (biP (.dget kvs) vs) ρ st) := p
            have p2 : EPost Z P F0 σ F ι E Q ((evD ca g ρ st).bind (Cv.d1 fun v ρ st => (evD cb g ρ st).bind (Cv.d1 fun u ρ st => givD (biP (.dget kvs) [v, u]) ρ st))) := by
              cases q : evD ca g ρ st with
              | ok xs ρ1 st1 =>
                rw [q] at p'
                match xs, p' with
                | [], p' => exact p'
                | _ :: _ :: _, p' => exact p'
                | [x], p' =>
                  have p'' : EPost Z P F0 σ F ι E Q ((((evD cb g ρ1 st1).bind (Cv.d1 fun v ρ st => (ResE.ok [] ρ st).bind fun vs ρ st => .ok (v :: vs) ρ st)).bind fun vs ρ st => .ok (x :: vs) ρ st).bind fun vs ρ st => givD (biP (.dget kvs) vs) ρ st) := p'
                  show EPost Z P F0 σ F ι E Q ((evD cb g ρ1 st1).bind (Cv.d1 fun u ρ st => givD (biP (.dget kvs) [x, u]) ρ st))
                  cases q2 : evD cb g ρ1 st1 with
                  | ok ys ρ2 st2 =>
                    rw [q2] at p''
                    match ys, p'' with
                    | [], p'' => exact p''
                    | _ :: _ :: _, p'' => exact p''
                    | [y], p'' => exact p''
                  | ex c v s => rw [q2] at p''; exact p''
                  | fail => rw [q2] at p''; exact p''
              | ex c v s => rw [q] at p'; exact p'
              | fail => rw [q] at p'; exact p'
            refine ⟨P, F0, F, ι, ρ, st, r0, EPost.b1 p2 fun y ρ1 st1 F1 ι1 H1 v1 s1 x1 r1 p1 q1 => ?_⟩
            refine ⟨P, F0, F1, ι1, ρ1, st1, r1, EPost.b1 q1 fun z ρ2 st2 F2 ι2 H2 v2 s2 x2 r2 p3 q2 => ?_⟩
            have q3 : VPost Z P F0 σ F2 ι2 ρ2 st2 Q (dgetP kvs [y, z]) := q2.giv
            cases y with
            | str k =>
              have q4 : VPost Z P F0 σ F2 ι2 ρ2 st2 Q (some ((kvs.lookup k).getD z)) := q3
              have dk := d3 k
              refine ⟨k, ?_⟩
              cases hk : kvs.lookup k with
              | none =>
                rw [hk] at dk q4
                exact ⟨v2, p1.str_of, by rw [dk], q4.here r2 p3⟩
              | some v =>
                rw [hk] at dk q4
                obtain ⟨u, w', k1, k2, k3⟩ := dk
                exact ⟨w', p1.str_of, by rw [k1]; exact k2, q4.here r2 (k3 F2 ι2)⟩
            | _ => exact (show False from q3).elim
          · cases h
        · cases h
      · cases h
    · cases h
  · cases h
/-! ### f(k = v, ..) -/
theorem kw_names : ∀ {kws : List Keyword} {pos : Pos} {env : PySem.Env}, (backToKw pos (keywordEach kws env)).map (·.1) = kws.map (·.arg)
  | [], _, _ => rfl
  | ⟨n, v, p⟩ :: r, pos, env => by
    show n :: (backToKw pos (keywordEach r env)).map (·.1) = n :: r.map (·.arg)
    rw [kw_names]
def argsK : List Keyword → Option (List Str)
  | [] => some []
  | ⟨n, v, p⟩ :: r => match n with
    | some x => (argsK r).map (x :: ·)
    | none => none
theorem argsK_ok : ∀ {kws : List Keyword} {ks : List Str} {pos : Pos} {env : PySem.Env}, argsK kws = some ks → (backToKw pos (keywordEach kws env)).all (·.1.isSome) = true ∧ (backToKw pos (keywordEach kws env)).filterMap (·.1) = ks ∧ (backToKw pos (keywordEach kws env)).any (·.1.isNone) = false ∧ ks.length = kws.length
  | [], ks, _, _, h => by cases h; exact ⟨rfl, rfl, rfl, rfl⟩
  | ⟨n, v, p⟩ :: r, ks, pos, env, h => by
    cases n with
    | none => cases h
    | some x =>
      have h' : (argsK r).map (x :: ·) = some ks := h
      obtain ⟨l, h1, rfl⟩ := m1 h'
      obtain ⟨a, b, c, d⟩ := argsK_ok (pos := pos) (env := env) h1
      refine ⟨?_, ?_, ?_, by simp [d]⟩
      · show (true && (backToKw pos (keywordEach r env)).all (·.1.isSome)) = true
        rw [a]; rfl
      · show x :: (backToKw pos (keywordEach r env)).filterMap (·.1) = x :: l
        rw [b]
      · show (false || (backToKw pos (keywordEach r env)).any (·.1.isNone)) = false
        rw [c]; rfl
theorem pk_snd (hr : Snd Z C f lv r) (w : Cw Z C f lv sc X E) (hl : Le g f) : ∀ {kws : List Keyword} {c : Ce}, cmpL (r false sc) (kws.map (·.value)) = some c → PK X kws (tA Z E g c)
  | [], c, h => by
    cases h
    refine ⟨fun pos pins s σ H Q I q => pk_nil.run pos pins s σ H Q I ?_⟩
    obtain ⟨P, F0, F, ι, ρ, st, r0, p⟩ := q
    exact p F ι H [] .rfl' .rfl' r0 .nil
  | ⟨n, e, p⟩ :: r', c, h => by
    have h' : (match r false sc e with
      | some a => (match cmpL (r false sc) (r'.map (·.value)) with
        | some b => some (Ce.cons a b)
        | none => none)
      | none => none) = some c := h
    cases h1 : r false sc e with
    | none => rw [h1] at h'; cases h'
    | some a =>
      rw [h1] at h'
      cases h2 : cmpL (r false sc) (r'.map (·.value)) with
      | none => simp only [h2] at h'; cases h'
      | some b =>
        simp only [h2] at h'
        cases h'
        have hk := pk_cons (nm := n) (kpos := p) (hr.v _ _ _ h1 X E g w hl) (pk_snd hr w hl h2)
        refine ⟨fun pos pins s σ H Q I q => hk.run pos pins s σ H Q I ?_⟩
        obtain ⟨P, F0, F, ι, ρ, st, rr, p⟩ := q
        refine ⟨P, F0, F, ι, ρ, st, rr, APost.b1 p fun x ρ1 st1 F1 ι1 H1 v1 s1 e1 r1 p1 q1 => ?_⟩
        refine ⟨P, F0, F1, ι1, ρ1, st1, r1, APost.bA q1 fun xs ρ2 st2 F2 ι2 H2 vs2 s2 e2 r2 p2 q2 => ?_⟩
        exact q2 F2 ι2 H2 _ .rfl' .rfl' r2 (.cons (p1.mono s2 e2) p2)
theorem pickV : ∀ {gp : List Nat} {vs : List V} {us : List Value}, Vals vs us → (∀ j ∈ gp, j < vs.length) → Vals (gp.map fun j => vs.getD j .non) (gp.map fun j => us.getD j .none)
  | [], _, _, _, _ => .nil
  | j :: gp, vs, us, r, h => by
    refine .cons ?_ (pickV r fun k hk => h k (List.mem_cons_of_mem _ hk))
    have hj := h j List.mem_cons_self
    have key : ∀ {vs : List V} {us : List Value} {j : Nat}, Vals vs us → j < vs.length → RelV (vs.getD j .non) (us.getD j .none) := by
      intro vs us j r
      induction r generalizing j with
      | nil => intro h; simp at h
      | cons a b ih =>
        intro h
        cases j with
        | zero => exact a
        | succ j => simpa using ih (by simpa using h)
    exact key r hj
theorem pickR : ∀ {gp : List Nat} {xs us : List PV} {vs : List V}, Reps Z.K F ι xs vs → picks xs gp = some us → Reps Z.K F ι us (gp.map fun j => vs.getD j .non) ∧ us.length = gp.length
  | [], xs, us, vs, r, h => by cases h; exact ⟨.nil, rfl⟩
  | j :: gp, xs, us, vs, r, h => by
    have h' : (match xs[j]? with | some v => (picks xs gp).map (v :: ·) | none => none) = some us := h
    cases e : xs[j]? with
    | none => rw [e] at h'; cases h'
    | some v =>
      rw [e] at h'
      obtain ⟨l, h1, rfl⟩ := m1 h'
      obtain ⟨w, e2, rw'⟩ := r.get e
      obtain ⟨a, b⟩ := pickR r h1
      refine ⟨.cons ?_ a, by simp [b]⟩
      have : vs.getD j .non = w := by rw [List.getD_eq_getElem?_getD, e2]; rfl
      show Rep Z.K F ι v (vs.getD j .non)
      rw [this]; exact rw'
theorem pe_callK0 {x : Str} {a : Addr} {fd : FuncData} {ps ks : List Str} {gp : List Nat} {sp : Sp} {tk : TA} {p pos : Pos} {kws : List Keyword} (Fk : FnOk X.prog X.w X.K X.mg X.base (L2.CX X.prog X.w) lv a fd ps sp) (hr : Room lv X.A) (hg : Gl X x) (hm : X.mg x = some (.ref a)) (hk : PySem.W.keepIn X.K (.ref a) = true)
    (kb : KB fd ps ks gp) (hx : Passes (L2.CX X.prog X.w) X E) (ha : argsK kws = some ks) (hkw : PK X kws tk) (hdb : (x == ("__debug__" : Str)) = false) :
    PE X (.Call (.Name x p) [] kws pos) (fun σ H Q => tk σ H fun zs H2 => zs.length = ks.length ∧ sp (gp.map fun j => zs.getD j .non) H2 Q E) := by
  obtain ⟨k1, k2, k3, k4⟩ := argsK_ok (pos := pos) (env := X.env) ha
  refine ⟨fun pins s σ H Q I h => ?_⟩
  refine wpAny_Call_Name_kw (ld_glob I hg hm ?_ hdb)
  refine PySem.W.callWith_KW0 (h₀ := X.base) I.ok.mod.kin hk k1 (thn (hkw.run pos pins s σ H _ I h) fun ws s2 ⟨zs, H2, I2, rz, hn, q2⟩ => ⟨I2.kIn, ?_⟩) (by rw [k3]; rfl)
  rw [k2]
  have hl : ws.length = ks.length := by rw [← rz.length, hn]
  have rv := pickV rz (fun j hj => by rw [hn]; exact kb.2.1 j hj)
  show wpAny _ _ (call (.ref a) [] (ks.zip ws)) _ _ _
  refine wpAny_call (codeAny_mono (Fk.run X.A X.stack s2 H2 ⟨[], ks.zip ws⟩ _ _ Q E hr I2.env0 (.of_eq (kb.2.2 ws hl)) rv q2) fun r s' hq => ?_)
  cases r with
  | error e => exact hx pins σ H2 s2 e s' I2 hq
  | ok fl =>
    cases fl with
    | ret u => exact I2.after hq
    | next => exact False.elim hq
    | brk => exact False.elim hq
    | cont => exact False.elim hq
def kwOf (l : List (Nat × List Str × List Nat)) (i : Nat) (ks : List Str) : Option (List Nat) := match l with
  | [] => none
  | (j, k, gp) :: r => if i = j && ks = k then some gp else kwOf r i ks
theorem kwOf_ok {i : Nat} {ks : List Str} : ∀ {l : List (Nat × List Str × List Nat)} {gp : List Nat}, kwOf l i ks = some gp → (i, ks, gp) ∈ l
  | (j, k, gq) :: r, gp, h => by
    unfold kwOf at h
    split at h
    · rename_i hc
      simp only [Bool.and_eq_true, decide_eq_true_eq] at hc
      cases h
      rw [hc.1, hc.2]
      exact List.mem_cons_self
    · exact List.mem_cons_of_mem _ (kwOf_ok h)
def cmpKw (C : CC) (r : Rc) (sc : Scope) : Expr → Option Ce
  | .Call g as kws _ => match g with
    | .Name x _ => (match as with
      | [] => if glbB sc x && plainN x then (match argsK kws, fnIxG x C.fns 0 with
        | some ks, some (i, ps) => (match kwOf C.kws i ks, cmpL (r false sc) (kws.map (·.value)) with
          | some gp, some c => some (.callk i gp c)
          | _, _ => none)
        | _, _ => none) else none
      | _ => none)
    | _ => none
  | _ => none
theorem cmpKw_snd (hr : Snd Z C f lv r) (w : Cw Z C f lv sc X E) (hl : Le g f) {e : Expr} {c : Ce} (h : cmpKw C r sc e = some c) : PE X e (tE Z E g c) := by
  unfold cmpKw at h
  split at h
  · rename_i g1 as kws pos
    split at h
    · rename_i x p
      split at h
      · split at h
        · rename_i hc
          rw [Bool.and_eq_true] at hc
          split at h
          · rename_i ks i ps e1 e2
            split at h
            · rename_i gp c1 e3 e4
              cases h
              obtain ⟨a, fd, m1, m2, m3, m4, m5⟩ := w.fn i x ps (by simpa using (fnIx_ok e2).2)
              have kb := m5 ks gp (kwOf_ok e3)
              refine pe_imp (pe_callK0 (E := E) m4 (w.rm.mono (by omega)) (glbB_ok (by rw [w.sc]; exact hc.1)) m1 m2 kb (passes_call w.tk fun _ _ _ _ z => z) e1 (pk_snd hr w hl e4) (plainN_ok hc.2).1) fun σ H Q q => ?_
              obtain ⟨P, F0, F, ι, ρ, st, r0, p⟩ := q
              obtain ⟨_, _, _, kl⟩ := argsK_ok (pos := pos) (env := X.env) e1
              refine ⟨P, F0, F, ι, ρ, st, r0, EPost.args e4 p fun xs ρ1 st1 F1 ι1 H1 vs hn s1 x1 r1 p1 q1 => ?_⟩
              have hn' : xs.length = ks.length := by rw [hn, List.length_map, kl]
              refine ⟨by rw [p1.len, hn'], ?_⟩
              cases hp : picks xs gp with
              | none => rw [hp] at q1; exact (show False from q1).elim
              | some us =>
                rw [hp] at q1
                obtain ⟨pr, pl⟩ := pickR p1 hp
                exact sp_of hl r1 pr (pl.trans kb.1) q1
            · cases h
          · cases h
        · cases h
      · cases h
    · cases h
  · cases h
/-! ### told(lambda: e) -/
theorem Rel.extN (r : Rel Z P F0 F ι σ H ρ st) (e : LamX.ExtN H H1) (t : LamX.Tabs Z.T H1) : Rel Z P F0 F ι σ H1 ρ st := by
  refine ⟨⟨fun a o h => e a o (r.r.fh a o h) fun ps z => r.r.pt.2 a ps (by rw [h, z]), fun a o h => e a o (r.r.ph a o h) fun ps z => r.r.pt.1 a ps (by rw [h, z]), r.r.pf, r.r.f0, r.r.pi, r.r.pt, r.r.nd, t, ?_⟩, r.len, fun j => ?_, r.ap⟩
  · refine r.r.sto.mono .rfl' fun n a h => ?_
    have hl : n < st.length := by rw [← r.r.sto.1]; exact (List.getElem?_eq_some_iff.mp h).1
    obtain ⟨xs, hx⟩ := cells_at hl
    obtain ⟨b, vs, h1, h2, _⟩ := r.r.sto.2 n xs hx
    rw [h] at h1; cases h1
    rw [h2]; exact e _ _ h2 fun ps z => by cases z
  · have hj := r.sl j
    cases ej : getS ρ j with
    | no => trivial
    | val y => rw [ej] at hj; exact hj
    | own zs =>
      rw [ej] at hj
      obtain ⟨b, ws, q1, q2, q3, q4, q5, q6⟩ := hj
      exact ⟨b, ws, q1, e _ _ q2 (fun ps z => by cases z), q3, q4, q5, q6⟩
theorem frzE_len : ∀ {ρ : Evn}, (frzE ρ).length = ρ.length
  | [] => rfl
  | .own xs :: r => by simp [frzE, frzE_len (ρ := r)]
  | .no :: r => by simp [frzE, frzE_len (ρ := r)]
  | .val v :: r => by simp [frzE, frzE_len (ρ := r)]
theorem frzE_get : ∀ {ρ : Evn} {i : Nat}, getS (frzE ρ) i = match getS ρ i with | .own xs => .val (.lst xs) | s => s
  | [], _ => rfl
  | .own xs :: r, 0 => rfl
  | .no :: r, 0 => rfl
  | .val v :: r, 0 => rfl
  | .own xs :: r, i + 1 => frzE_get (ρ := r)
  | .no :: r, i + 1 => frzE_get (ρ := r)
  | .val v :: r, i + 1 => frzE_get (ρ := r)
theorem frz_get {ρ : Evn} {i j : Nat} : getS (Cv.frz ρ i) j = if i = j then (match getS ρ j with | .own xs => .val (.lst xs) | s => s) else getS ρ j := by
  unfold Cv.frz
  cases e : getS ρ i with
  | no =>
    by_cases c : i = j
    · subst c; rw [if_pos rfl]; show getS ρ i = _; rw [e]
    · rw [if_neg c]
  | val v =>
    by_cases c : i = j
    · subst c; rw [if_pos rfl]; show getS ρ i = _; rw [e]
    · rw [if_neg c]
  | own xs =>
    by_cases c : i = j
    · subst c
      rw [if_pos rfl, e]
      exact get_set_self (get_lt (by rw [e]; intro q; cases q))
    · rw [if_neg c]; exact get_set_ne c
theorem Rel.same (r : Rel Z P F0 F ι σ H ρ st) (hl : ρ1.length = ρ.length) (h : ∀ j, getS ρ1 j = getS ρ j) : Rel Z P F0 F ι σ H ρ1 st := by
  refine ⟨r.r, by rw [hl]; exact r.len, fun j => by rw [h]; exact r.sl j, fun i j a ⟨xs, h1, h2⟩ ⟨ys, h3, h4⟩ => r.ap i j a ⟨xs, by rw [← h]; exact h1, h2⟩ ⟨ys, by rw [← h]; exact h3, h4⟩⟩
theorem frz_len {ρ : Evn} {i : Nat} : (Cv.frz ρ i).length = ρ.length := by
  unfold Cv.frz
  cases getS ρ i with
  | no => rfl
  | val v => rfl
  | own xs => exact set_len
theorem frzAll_len : ∀ {l : List Nat} {ρ : Evn}, (Cv.frzAll ρ l).length = ρ.length
  | [], _ => rfl
  | i :: l, ρ => (frzAll_len (l := l) (ρ := Cv.frz ρ i)).trans frz_len
theorem frzAll_get : ∀ {l : List Nat} {ρ : Evn} {j : Nat}, getS (Cv.frzAll ρ l) j = if j ∈ l then (match getS ρ j with | .own xs => .val (.lst xs) | s => s) else getS ρ j
  | [], ρ, j => by simp [Cv.frzAll]
  | i :: l, ρ, j => by
    show getS (Cv.frzAll (Cv.frz ρ i) l) j = _
    rw [frzAll_get (l := l), frz_get]
    by_cases c : i = j
    · subst c
      rw [if_pos rfl, if_pos List.mem_cons_self]
      split
      · cases e : getS ρ i <;> rfl
      · rfl
    · rw [if_neg c]
      have : (j ∈ i :: l) ↔ j ∈ l := ⟨fun z => (List.mem_cons.mp z).elim (fun q => absurd q.symm c) id, List.mem_cons_of_mem _⟩
      by_cases d : j ∈ l
      · rw [if_pos d, if_pos (this.mpr d)]
      · rw [if_neg d, if_neg (fun z => d (this.mp z))]
theorem Rel.frzE (r : Rel Z P F0 F ι σ H ρ st) : ∃ F', Sb F F' ∧ Rel Z P F0 F' ι σ H (Cv.frzE ρ) st := by
  obtain ⟨F', s, r'⟩ := Rel.frzAll (List.range ρ.length) r
  refine ⟨F', s, r'.same (by rw [frzE_len, frzAll_len]) fun j => ?_⟩
  rw [frzE_get, frzAll_get]
  by_cases c : j ∈ List.range ρ.length
  · rw [if_pos c]
  · have : ρ.length ≤ j := by
      rcases Nat.lt_or_ge j ρ.length with z | z
      · exact absurd (List.mem_range.mpr z) c
      · exact z
    rw [if_neg c, get_out this]
/-- all slots are as they were -/
theorem Rel.reset (r : Rel Z P F0 F1 ι1 σ H1 ρ1 st1) (r0 : Rel Z P F0 F ι σ H (Cv.frzE ρ) st) (hs : Sb F F1) (he : Ex ι ι1) : Rel0 Z P F0 F1 ι1 H1 st1 → Rel Z P F0 F1 ι1 σ H1 (Cv.frzE ρ) st1 := fun z => by
  have no : ∀ j xs, getS (Cv.frzE ρ) j ≠ .own xs := fun j xs e => by
    rw [frzE_get] at e
    cases q : getS ρ j <;> rw [q] at e <;> cases e
  refine ⟨z, r0.len, fun j => ?_, fun i j a ⟨xs, h, _⟩ => absurd h (no i xs)⟩
  have hj := r0.sl j
  cases ej : getS (Cv.frzE ρ) j with
  | no => trivial
  | val y => rw [ej] at hj; obtain ⟨v, q1, q2⟩ := hj; exact ⟨v, q1, q2.mono hs he⟩
  | own xs => exact absurd ej (no j xs)
theorem Rel0.slots (z : Rel0 Z P F0 F1 ι1 H1 st1) (r0 : Rel Z P F0 F ι σ H (Cv.frzE ρ) st) (hs : Sb F F1) (he : Ex ι ι1) : Rel Z P F0 F1 ι1 σ H1 (Cv.frzE ρ) st1 := by
  have no : ∀ j xs, getS (Cv.frzE ρ) j ≠ .own xs := fun j xs e => by
    rw [frzE_get] at e
    cases q : getS ρ j <;> rw [q] at e <;> cases e
  refine ⟨z, r0.len, fun j => ?_, fun i j a ⟨xs, h, _⟩ => absurd h (no i xs)⟩
  have hj := r0.sl j
  cases ej : getS (Cv.frzE ρ) j with
  | no => trivial
  | val y => rw [ej] at hj; obtain ⟨v, q1, q2⟩ := hj; exact ⟨v, q1, q2.mono hs he⟩
  | own xs => exact absurd ej (no j xs)
def rfOf (l : List (Str × Nat × PV)) (x : Str) : Option (Nat × Str) := match l with
  | [] => none
  | (y, k, v) :: r => if y = x then (match v with
    | .str s => some (k, s)
    | _ => none) else rfOf r x
theorem rfOf_ok {x : Str} {k : Nat} {s : Str} : ∀ {l : List (Str × Nat × PV)}, rfOf l x = some (k, s) → (x, k, .str s) ∈ l
  | (y, j, v) :: r, h => by
    unfold rfOf at h
    split at h
    · rename_i e
      subst e
      split at h
      · cases h; exact List.mem_cons_self
      · cases h
    · exact List.mem_cons_of_mem _ (rfOf_ok h)
def cmpRf (C : CC) (r : Rc) (sc : Scope) : Expr → Option Ce
  | .Call g as kws _ => match g with
    | .Name x _ => (match as, kws with
      | [.Lambda ps body scope _], [] => if glbB sc x && noPar ps && LamX.lamSB sc scope && decide (C.mks = some sc) && !decide (C.mks = some scope) then (match rfOf C.rfs x, r false scope body with
        | some (k, s), some c => some (.rf k (.str s) c)
        | _, _ => none) else none
      | _, _ => none)
    | _ => none
  | _ => none
theorem cmpRf_snd (hr : Snd Z C f lv r) (w : Cw Z C f lv sc X E) (hl : Le g f) {e : Expr} {c : Ce} (h : cmpRf C r sc e = some c) : PE X e (tE Z E g c) := by
  unfold cmpRf at h
  split at h
  · rename_i g1 as kws pos
    split at h
    · rename_i x p
      split at h
      · rename_i ps body scope lpos
        split at h
        · rename_i hc
          simp only [Bool.and_eq_true, decide_eq_true_eq, Bool.not_eq_true', decide_eq_false_iff_not] at hc
          obtain ⟨⟨⟨⟨h1, h2⟩, h3⟩, h4⟩, h5⟩ := hc
          rw [noPar_ok h2]
          split at h
          · rename_i k s cb e1 e2
            cases h
            refine pe_imp (w.rf (by rw [w.sc]; exact h4) x k (.str s) (rfOf_ok e1) (glbB_ok (by rw [w.sc]; exact h1)) (fun E' => tE Z E' g cb) body scope lpos p pos (by rw [w.sc]; exact h3) fun A outer s1 H1 E' f1 c1 rm => ?_) fun σ H Q q => ?_
            · have wl : Cw Z C f lv scope (LamX.lamCx X A outer s1 H1 E' scope f1 c1) E' := ⟨w.k, w.n, rfl, rfl, w.nd, takes_of rfl rfl rfl rfl, rm, w.bl, w.gl, w.fn, w.dt, fun z => absurd z h5⟩
              exact hr.v _ _ _ e2 _ _ g wl hl
            · obtain ⟨P, F0, F, ι, ρ, st, r0, p⟩ := q
              refine ⟨r0.r.tb, fun H1 eN T1 => ⟨.str s, fun _ _ => .str, ?_⟩⟩
              obtain ⟨F1, s1, r1⟩ := (r0.extN eN T1).frzE
              have p' : EPost Z P F0 σ F ι E Q (match evD cb g (Cv.frzE ρ) st with
                | .ok [_] ρ' st' => .ok [.str s] (Cv.frzE ρ) st'
                | .ok _ ρ' st' => .fail
                | .ex c v st' => cnd (decide (c = k)) (.ok [v] (Cv.frzE ρ) st') .fail
                | .fail => .fail) := p
              refine ⟨P, F0, F1, ι, _, st, r1, ?_⟩
              cases q : evD cb g (Cv.frzE ρ) st with
              | fail => rw [q] at p'; exact p'
              | ok vs ρ2 st2 =>
                rw [q] at p'
                match vs, p' with
                | [], p' => exact p'
                | _ :: _ :: _, p' => exact p'
                | [x], p' =>
                  intro F2 ι2 H2 v a b r2 pv
                  exact EPost.ret (EPost.weak (s1.tr a) b (show EPost Z P F0 σ F ι E Q (.ok [.str s] (Cv.frzE ρ) st2) from p')) (r2.r.slots r1 a b) .str
              | ex c v st2 =>
                rw [q] at p'
                have p2 : EPost Z P F0 σ F ι E Q (cnd (decide (c = k)) (.ok [v] (Cv.frzE ρ) st2) .fail) := p'
                cases hk : decide (c = k) with
                | false => rw [hk] at p2; exact (show False from p2).elim
                | true =>
                  rw [hk] at p2
                  have ek : c = k := of_decide_eq_true hk
                  subst ek
                  rintro cls d H' ⟨F2, ι2, dx, u, CA, fd, a, b, r2, x1, x2, x3, x4, x5⟩
                  exact ⟨CA, fd, u, dx, x1, x2, x3, x4, EPost.ret (EPost.weak (s1.tr a) b (show EPost Z P F0 σ F ι E Q (.ok [v] (Cv.frzE ρ) st2) from p2)) (r2.slots r1 a b) x5⟩
          · cases h
        · cases h
      · cases h
    · cases h
  · cases h
end
end Cv

set_option Elab.async false
set_option linter.all false
set_option maxRecDepth 100000
set_option maxHeartbeats 4000000
/-! Core17: sorted(..) of data that are alike. -/
namespace Cv
open PySem PySem.Spec PyProof.Rows L2
mutual
theorem alk_ok : ∀ {x y : PV}, alkP x y = true → PySem.W.alike (toD x) (toD y) = true
  | .non, .non, _ => by simp [toD, PySem.W.alike]
  | .bl _, .bl _, _ => by simp [toD, PySem.W.alike]
  | .int _, .int _, _ => by simp [toD, PySem.W.alike]
  | .str _, .str _, _ => by simp [toD, PySem.W.alike]
  | .lst xs, .lst ys, h => by
    show PySem.W.alike (.list (toDs xs)) (.list (toDs ys)) = true
    simp only [PySem.W.alike]
    exact alkL_ok (show alkL xs ys = true from h)
  | .tup xs, .tup ys, h => by
    show PySem.W.alike (.tuple (toDs xs)) (.tuple (toDs ys)) = true
    simp only [PySem.W.alike]
    exact alkL_ok (show alkL xs ys = true from h)
  | .non, .bl _, h | .non, .int _, h | .non, .str _, h | .non, .lst _, h | .non, .tup _, h | .non, .ob _, h => absurd (show false = true from h) (by simp)
  | .bl _, .non, h | .bl _, .int _, h | .bl _, .str _, h | .bl _, .lst _, h | .bl _, .tup _, h | .bl _, .ob _, h => absurd (show false = true from h) (by simp)
  | .int _, .non, h | .int _, .bl _, h | .int _, .str _, h | .int _, .lst _, h | .int _, .tup _, h | .int _, .ob _, h => absurd (show false = true from h) (by simp)
  | .str _, .non, h | .str _, .bl _, h | .str _, .int _, h | .str _, .lst _, h | .str _, .tup _, h | .str _, .ob _, h => absurd (show false = true from h) (by simp)
  | .lst _, .non, h | .lst _, .bl _, h | .lst _, .int _, h | .lst _, .str _, h | .lst _, .tup _, h | .lst _, .ob _, h => absurd (show false = true from h) (by simp)
  | .tup _, .non, h | .tup _, .bl _, h | .tup _, .int _, h | .tup _, .str _, h | .tup _, .lst _, h | .tup _, .ob _, h => absurd (show false = true from h) (by simp)
  | .ob _, .non, h | .ob _, .bl _, h | .ob _, .int _, h | .ob _, .str _, h | .ob _, .lst _, h | .ob _, .tup _, h | .ob _, .ob _, h => absurd (show false = true from h) (by simp)
theorem alkL_ok : ∀ {xs ys : List PV}, alkL xs ys = true → PySem.W.alikeAll (toDs xs) (toDs ys) = true
  | [], _, _ => by simp [toDs, PySem.W.alikeAll]
  | _ :: _, [], _ => by simp [toDs, PySem.W.alikeAll]
  | x :: xs, y :: ys, h => by
    have h' : (alkP x y && alkL xs ys) = true := h
    rw [Bool.and_eq_true] at h'
    show PySem.W.alikeAll (toD x :: toDs xs) (toD y :: toDs ys) = true
    simp only [PySem.W.alikeAll]
    rw [alk_ok h'.1, alkL_ok h'.2]; rfl
end
mutual
theorem alk_eq : ∀ {x y : PV}, alkP x y = true → eqP x y = true → x = y
  | .non, .non, _, _ => rfl
  | .bl a, .bl b, _, e => by rw [show a = b from by simpa [eqP] using e]
  | .int a, .int b, _, e => by rw [show a = b from by simpa [eqP] using e]
  | .str a, .str b, _, e => by rw [show a = b from by simpa [eqP] using e]
  | .lst xs, .lst ys, h, e => by rw [alkL_eq (show alkL xs ys = true from h) (show eqL xs ys = true from e)]
  | .tup xs, .tup ys, h, e => by rw [alkL_eq (show alkL xs ys = true from h) (show eqL xs ys = true from e)]
  | .non, .bl _, h, _ | .non, .int _, h, _ | .non, .str _, h, _ | .non, .lst _, h, _ | .non, .tup _, h, _ | .non, .ob _, h, _ => absurd (show false = true from h) (by simp)
  | .bl _, .non, h, _ | .bl _, .int _, h, _ | .bl _, .str _, h, _ | .bl _, .lst _, h, _ | .bl _, .tup _, h, _ | .bl _, .ob _, h, _ => absurd (show false = true from h) (by simp)
  | .int _, .non, h, _ | .int _, .bl _, h, _ | .int _, .str _, h, _ | .int _, .lst _, h, _ | .int _, .tup _, h, _ | .int _, .ob _, h, _ => absurd (show false = true from h) (by simp)
  | .str _, .non, h, _ | .str _, .bl _, h, _ | .str _, .int _, h, _ | .str _, .lst _, h, _ | .str _, .tup _, h, _ | .str _, .ob _, h, _ => absurd (show false = true from h) (by simp)
  | .lst _, .non, h, _ | .lst _, .bl _, h, _ | .lst _, .int _, h, _ | .lst _, .str _, h, _ | .lst _, .tup _, h, _ | .lst _, .ob _, h, _ => absurd (show false = true from h) (by simp)
  | .tup _, .non, h, _ | .tup _, .bl _, h, _ | .tup _, .int _, h, _ | .tup _, .str _, h, _ | .tup _, .lst _, h, _ | .tup _, .ob _, h, _ => absurd (show false = true from h) (by simp)
  | .ob _, .non, h, _ | .ob _, .bl _, h, _ | .ob _, .int _, h, _ | .ob _, .str _, h, _ | .ob _, .lst _, h, _ | .ob _, .tup _, h, _ | .ob _, .ob _, h, _ => absurd (show false = true from h) (by simp)
theorem alkL_eq : ∀ {xs ys : List PV}, alkL xs ys = true → eqL xs ys = true → xs = ys
  | [], [], _, _ => rfl
  | [], _ :: _, _, e => absurd (show false = true from e) (by simp)
  | _ :: _, [], _, e => absurd (show false = true from e) (by simp)
  | x :: xs, y :: ys, h, e => by
    have h' : (alkP x y && alkL xs ys) = true := h
    have e' : (eqP x y && eqL xs ys) = true := e
    rw [Bool.and_eq_true] at h' e'
    rw [alk_eq h'.1 e'.1, alkL_eq h'.2 e'.2]
end
mutual
theorem lt_ok : ∀ {n m : Nat} {x y : PV}, alkP x y = true → dat n x = true → dat m y = true → ltP x y = PySem.W.dataLt (toD x) (toD y)
  | n, m, .non, .non, _, _, _ => by
    show false = _
    exact (PyProof.Rows.lex_irrefl (O := itemOrd) _).symm
  | n, m, .bl a, .bl b, _, _, _ => by
    rw [show toD (.bl a) = .bool a from rfl, show toD (.bl b) = .bool b from rfl, PySem.W.dataLt_bool]
    cases a <;> cases b <;> decide
  | n, m, .int a, .int b, _, _, _ => by
    rw [show toD (.int a) = .int a from rfl, show toD (.int b) = .int b from rfl, PySem.W.dataLt_int]
    rfl
  | n, m, .str a, .str b, _, _, _ => by
    rw [show toD (.str a) = .str a from rfl, show toD (.str b) = .str b from rfl, PySem.W.dataLt_str]
    rfl
  | n, m, .lst xs, .lst ys, h, d1, d2 => by
    cases n with
    | zero => cases d1
    | succ n =>
      cases m with
      | zero => cases d2
      | succ m =>
        rw [show toD (.lst xs) = .list (toDs xs) from rfl, show toD (.lst ys) = .list (toDs ys) from rfl, PySem.W.dataLt_list]
        exact ltL_ok (n := n) (m := m) (show alkL xs ys = true from h) d1 d2
  | n, m, .tup xs, .tup ys, h, d1, d2 => by
    cases n with
    | zero => cases d1
    | succ n =>
      cases m with
      | zero => cases d2
      | succ m =>
        rw [show toD (.tup xs) = .tuple (toDs xs) from rfl, show toD (.tup ys) = .tuple (toDs ys) from rfl, PySem.W.dataLt_tuple]
        exact ltL_ok (n := n) (m := m) (show alkL xs ys = true from h) d1 d2
  | _, _, .non, .bl _, h, _, _ | _, _, .non, .int _, h, _, _ | _, _, .non, .str _, h, _, _ | _, _, .non, .lst _, h, _, _ | _, _, .non, .tup _, h, _, _ | _, _, .non, .ob _, h, _, _ => absurd (show false = true from h) (by simp)
  | _, _, .bl _, .non, h, _, _ | _, _, .bl _, .int _, h, _, _ | _, _, .bl _, .str _, h, _, _ | _, _, .bl _, .lst _, h, _, _ | _, _, .bl _, .tup _, h, _, _ | _, _, .bl _, .ob _, h, _, _ => absurd (show false = true from h) (by simp)
  | _, _, .int _, .non, h, _, _ | _, _, .int _, .bl _, h, _, _ | _, _, .int _, .str _, h, _, _ | _, _, .int _, .lst _, h, _, _ | _, _, .int _, .tup _, h, _, _ | _, _, .int _, .ob _, h, _, _ => absurd (show false = true from h) (by simp)
  | _, _, .str _, .non, h, _, _ | _, _, .str _, .bl _, h, _, _ | _, _, .str _, .int _, h, _, _ | _, _, .str _, .lst _, h, _, _ | _, _, .str _, .tup _, h, _, _ | _, _, .str _, .ob _, h, _, _ => absurd (show false = true from h) (by simp)
  | _, _, .lst _, .non, h, _, _ | _, _, .lst _, .bl _, h, _, _ | _, _, .lst _, .int _, h, _, _ | _, _, .lst _, .str _, h, _, _ | _, _, .lst _, .tup _, h, _, _ | _, _, .lst _, .ob _, h, _, _ => absurd (show false = true from h) (by simp)
  | _, _, .tup _, .non, h, _, _ | _, _, .tup _, .bl _, h, _, _ | _, _, .tup _, .int _, h, _, _ | _, _, .tup _, .str _, h, _, _ | _, _, .tup _, .lst _, h, _, _ | _, _, .tup _, .ob _, h, _, _ => absurd (show false = true from h) (by simp)
  | _, _, .ob _, .non, h, _, _ | _, _, .ob _, .bl _, h, _, _ | _, _, .ob _, .int _, h, _, _ | _, _, .ob _, .str _, h, _, _ | _, _, .ob _, .lst _, h, _, _ | _, _, .ob _, .tup _, h, _, _ | _, _, .ob _, .ob _, h, _, _ => absurd (show false = true from h) (by simp)
theorem ltL_ok : ∀ {n m : Nat} {xs ys : List PV}, alkL xs ys = true → datL n xs = true → datL m ys = true → ltL xs ys = PyProof.Rows.lexLt itemOrd (PySem.W.keyToksAll (toDs xs)) (PySem.W.keyToksAll (toDs ys))
  | n, m, [], [], _, _, _ => (PyProof.Rows.lex_irrefl (O := itemOrd) _).symm
  | n, m, [], y :: ys, _, _, _ => by
    show true = _
    rw [show toDs ([] : List PV) = [] from rfl, show toDs (y :: ys) = toD y :: toDs ys from rfl, PySem.W.toks_all_cons]
    simp only [PySem.W.keyToksAll]
    rw [PyProof.Rows.lex_diff (O := itemOrd) (by simp)]
    rfl
  | n, m, x :: xs, [], _, _, _ => by
    show false = _
    rw [show toDs ([] : List PV) = [] from rfl, show toDs (x :: xs) = toD x :: toDs xs from rfl, PySem.W.toks_all_cons]
    simp only [PySem.W.keyToksAll]
    rw [PyProof.Rows.lex_diff (O := itemOrd) (by simp)]
    rfl
  | n, m, x :: xs, y :: ys, h, d1, d2 => by
    have h' : (alkP x y && alkL xs ys) = true := h
    have d1' : (dat n x && datL n xs) = true := d1
    have d2' : (dat m y && datL m ys) = true := d2
    rw [Bool.and_eq_true] at h' d1' d2'
    show (if eqP x y = true then ltL xs ys else ltP x y) = PyProof.Rows.lexLt itemOrd (PySem.W.keyToksAll (toD x :: toDs xs)) (PySem.W.keyToksAll (toD y :: toDs ys))
    have ev := eqP_ok d1'.1 d2'.1
    cases e : eqP x y with
    | true =>
      rw [if_pos rfl, PySem.W.dataLt_all_yes (alk_ok h'.1) (by rw [ev, e])]
      exact ltL_ok h'.2 d1'.2 d2'.2
    | false =>
      rw [if_neg Bool.false_ne_true, PySem.W.dataLt_all_no (alk_ok h'.1) (by rw [ev, e])]
      exact lt_ok h'.1 d1'.1 d2'.1
end
/-! ### the sorted list -/
abbrev kk (x : PV) : List (Int ⊕ List Nat) := PySem.W.keyToks (toD x)
abbrev leB (x y : PV) : Bool := !PySem.W.dataLt (toD y) (toD x)
theorem le_total (a b : PV) : (leB a b || leB b a) = true := by
  have h := (listOrd itemOrd).trans (kk a) (kk b) (kk a)
  have i := (listOrd itemOrd).irrefl (kk a)
  show (!(listOrd itemOrd).blt (kk b) (kk a) || !(listOrd itemOrd).blt (kk a) (kk b)) = true
  cases h1 : (listOrd itemOrd).blt (kk b) (kk a) <;> cases h2 : (listOrd itemOrd).blt (kk a) (kk b) <;> first | rfl | (rw [h h2 h1] at i; cases i)
theorem le_trans' (a b c : PV) (h1 : leB a b = true) (h2 : leB b c = true) : leB a c = true := by
  have h1' : (!(listOrd itemOrd).blt (kk b) (kk a)) = true := h1
  have h2' : (!(listOrd itemOrd).blt (kk c) (kk b)) = true := h2
  show (!(listOrd itemOrd).blt (kk c) (kk a)) = true
  cases h : (listOrd itemOrd).blt (kk c) (kk a) with
  | false => rfl
  | true =>
    rcases (listOrd itemOrd).negTrans (kk c) (kk b) (kk a) h with z | z
    · rw [z] at h2'; cases h2'
    · rw [z] at h1'; cases h1'
/-- data of which neither is less are the same -/
theorem le_anti {n m : Nat} {x y : PV} (ha : alkP x y = true) (d1 : dat n x = true) (d2 : dat m y = true) (h1 : leB x y = true) (h2 : leB y x = true) : x = y := by
  have e1 : (listOrd itemOrd).blt (kk y) (kk x) = false := by
    have h1' : (!(listOrd itemOrd).blt (kk y) (kk x)) = true := h1
    simpa using h1'
  have e2 : (listOrd itemOrd).blt (kk x) (kk y) = false := by
    have h2' : (!(listOrd itemOrd).blt (kk x) (kk y)) = true := h2
    simpa using h2'
  have ek : kk x = kk y := (listOrd itemOrd).total _ _ e2 e1
  have tk := PySem.W.toks_eqv _ _ (alk_ok ha)
  have ev := eqP_ok d1 d2
  cases e : eqP x y with
  | true => exact alk_eq ha e
  | false =>
    exfalso
    have := tk.2 (by rw [ev, e]) [Sum.inl 0] [Sum.inl 1]
    rw [show PySem.W.keyToks (toD x) = PySem.W.keyToks (toD y) from ek, PyProof.Rows.lex_irrefl] at this
    rw [PySem.W.lex_pre] at this
    have z : PyProof.Rows.lexLt itemOrd [Sum.inl 0] [Sum.inl 1] = true := rfl
    rw [z] at this; cases this
/-- what the sorting asks of the items -/
structure Alk (n : Nat) (xs : List PV) : Prop where
  al : ∀ x ∈ xs, ∀ y ∈ xs, alkP x y = true
  dt : ∀ x ∈ xs, dat n x = true
theorem Alk.tail {n : Nat} {x : PV} {xs : List PV} (h : Alk n (x :: xs)) : Alk n xs := ⟨fun a ha b hb => h.al a (List.mem_cons_of_mem _ ha) b (List.mem_cons_of_mem _ hb), fun a ha => h.dt a (List.mem_cons_of_mem _ ha)⟩
theorem ins_perm (x : PV) : ∀ ys : List PV, (insS x ys).Perm (x :: ys)
  | [] => .refl _
  | y :: r => by
    unfold insS
    split
    · exact ((ins_perm x r).cons y).trans (.swap x y r)
    · exact .refl _
theorem sort_perm : ∀ xs : List PV, (sortS xs).Perm xs
  | [] => .refl _
  | x :: r => (ins_perm x (sortS r)).trans ((sort_perm r).cons x)
theorem ins_sorted {n : Nat} {x : PV} : ∀ {ys : List PV}, Alk n (x :: ys) → ys.Pairwise (fun a b => leB a b = true) → (insS x ys).Pairwise fun a b => leB a b = true
  | [], _, _ => List.pairwise_singleton _ _
  | y :: r, al, h => by
    obtain ⟨h1, h2⟩ := List.pairwise_cons.mp h
    have hx : x ∈ x :: y :: r := List.mem_cons_self
    have hy : y ∈ x :: y :: r := List.mem_cons_of_mem _ List.mem_cons_self
    have lt := lt_ok (al.al y hy x hx) (al.dt y hy) (al.dt x hx)
    unfold insS
    split
    · rename_i c
      refine List.pairwise_cons.mpr ⟨fun z hz => ?_, ins_sorted ⟨fun a ha b hb => al.al a ?_ b ?_, fun a ha => al.dt a ?_⟩ h2⟩
      · rcases List.mem_cons.mp ((ins_perm x r).mem_iff.mp hz) with e | e
        · subst e
          rw [lt] at c
          have := le_total y z
          rw [show leB z y = false by show (!PySem.W.dataLt (toD y) (toD z)) = false; rw [c]; rfl, Bool.or_false] at this
          exact this
        · exact h1 z e
      · rcases List.mem_cons.mp ha with e | e
        · rw [e]; exact hx
        · exact List.mem_cons_of_mem _ (List.mem_cons_of_mem _ e)
      · rcases List.mem_cons.mp hb with e | e
        · rw [e]; exact hx
        · exact List.mem_cons_of_mem _ (List.mem_cons_of_mem _ e)
      · rcases List.mem_cons.mp ha with e | e
        · rw [e]; exact hx
        · exact List.mem_cons_of_mem _ (List.mem_cons_of_mem _ e)
    · rename_i c
      have hxy : leB x y = true := by
        show (!PySem.W.dataLt (toD y) (toD x)) = true
        rw [← lt]
        simpa using c
      refine List.pairwise_cons.mpr ⟨fun z hz => ?_, h⟩
      rcases List.mem_cons.mp hz with e | e
      · rw [e]; exact hxy
      · exact le_trans' x y z hxy (h1 z e)
theorem sort_sorted {n : Nat} : ∀ {xs : List PV}, Alk n xs → (sortS xs).Pairwise fun a b => leB a b = true
  | [], _ => .nil
  | x :: r, al => by
    refine ins_sorted (n := n) ⟨fun a ha b hb => al.al a ?_ b ?_, fun a ha => al.dt a ?_⟩ (sort_sorted al.tail)
    · exact (List.Perm.cons x (sort_perm r)).mem_iff.mp ha
    · exact (List.Perm.cons x (sort_perm r)).mem_iff.mp hb
    · exact (List.Perm.cons x (sort_perm r)).mem_iff.mp ha
theorem sort_merge {n : Nat} {xs : List PV} (al : Alk n xs) : xs.mergeSort leB = sortS xs := by
  have p : (xs.mergeSort leB).Perm (sortS xs) := (List.mergeSort_perm xs leB).trans (sort_perm xs).symm
  refine List.Perm.eq_of_pairwise (le := fun a b => leB a b = true) (fun a b ha hb h1 h2 => ?_) (List.pairwise_mergeSort le_trans' le_total xs) (sort_sorted al) p
  have ma := (List.mergeSort_perm xs leB).mem_iff.mp ha
  have mb := (sort_perm xs).mem_iff.mp hb
  exact le_anti (al.al a ma b mb) (al.dt a ma) (al.dt b mb) h1 h2
end Cv

set_option Elab.async false
set_option linter.all false
set_option maxRecDepth 100000
set_option maxHeartbeats 4000000
/-! set(..) of a list of whole numbers, with all that a walk over it wants -/
namespace Cv
open PySem PySem.Spec PyProof.Rows L2
/-- a set as it is made -/
abbrev bare0 (w : World) : Obj := { cls := .type "set", dict := none, data := .set #[] 0 (.fresh 0 0 (!w.params.followText "set-order")) }
section
variable {P : Program} {w : World} {A : Around} {E : Value → Shared → Prop} {s : Shared} {l : Addr} {its : Array Value} {ns : List Int}
abbrev Filled (w : World) (h0 h1 : Heap) (a : Addr) (ns : List Int) : Prop := ∃ c, SetR w h1 a (fun j => decide (j ∈ ns)) c ∧ c ≤ ns.length ∧ ∀ b o, b ≠ a → h0.get? b = some o → h1.get? b = some o
/-- what an int list's cells are -/
theorem cell_int (nums : IntsAre its.toList ns) (i : Nat) (v : Value) (h : its[i]? = some v) : ∃ k t, ns[i]? = some k ∧ v = .int k t := by
  have len : its.size = ns.length := by have := nums.length; rwa [Array.length_toList] at this
  have lt : i < ns.length := len ▸ (Array.getElem?_eq_some_iff.mp h).1
  obtain ⟨t, rfl⟩ := nums.int_at i v (by rw [Array.getElem?_toList]; exact h)
  exact ⟨ns[i], t, List.getElem?_eq_getElem lt, by simp [List.getD_eq_getElem?_getD, List.getElem?_eq_getElem lt]⟩
/-- a set that is there takes in what a list holds -/
theorem take_in {a : Addr} {R : Result → Shared → Prop} (calm : A.handled = none) (sa : s.heap.get? a = some (bare0 w)) (lst : s.heap.IsList l its) (nums : IntsAre its.toList ns) (room : ns.length + 1 < scanBound)
    (fin : ∀ h1 tk, Filled w s.heap h1 a ns → R (.ok (.ret .none)) { s with heap := h1, toks := tk }) : codeAny (model P w) A (.call (.builtin "set.__init__") ⟨[.ref a, .ref l], []⟩) R s := by
  have ty : s.TypeIs (.ref a) "set" := ⟨_, sa, rfl⟩
  refine codeAny_mono (codeAny_call_builtin (R := R) F.called_set.init.plain F.entry_set_init (check_set_init_1 ty ?_)) fun _ _ h => h
  have la : l < s.heap.objs.size := lst.elim fun _ q => Heap.lt_size q.1
  have aa : a < s.heap.objs.size := Heap.lt_size sa
  have al : a ≠ l := fun z => by
    obtain ⟨o, q1, q2, _⟩ := lst
    rw [← z, sa] at q1
    cases q1
    exact absurd (show Value.type "set" = Value.type "list" from q2) (by decide)
  have keep := lst
  obtain ⟨⟨c0, d0, dat, sl⟩, at0, c1, m, d1⟩ := lst
  obtain rfl : c0 = _ := c1
  obtain rfl : dat = _ := d1
  have no1 := F.sub_list_set
  have no2 := F.sub_list_frozenset
  have no3 : (Value.type "list" == Value.type "dict") = false := by decide
  unfold Builtin.«set.__init__» noKeywords Builtin.Frozenset.updateFrom
  generalize walk : pyIter = it0
  wp_walk
  subst walk
  refine wpAny_pyIter_list keep (wpAny_bind (wpAny_runValue ?_))
  have calm3 : A.in1.in1.handled = none := by simp [calm]
  refine set_update_ints ((Walks.list calm3 _ l (Nat.ne_of_lt la) its).toS) a (by simp only [List.mem_cons, List.not_mem_nil, or_false, not_or]; exact ⟨Nat.ne_of_lt aa, al⟩) ns (by have := nums.length; rwa [Array.length_toList] at this) room (cell_int nums)
    (its.size - 0) 0 _ (by omega) (Nat.zero_le _) ?first ?start ?stop
  case first => exact ⟨⟨_, Heap.get?_push_size _ rfl, rfl, rfl⟩, keep.push _⟩
  case start => exact ⟨0, Nat.le_refl 0, setR_new_at (Heap.get?_push_of_some _ sa)⟩
  rintro ⟨h1, g1, r1, t1, o1⟩ c moved few full
  obtain rfl : g1 = s.gens := moved.gens
  obtain rfl : r1 = s.drawn := moved.drawn
  obtain rfl : o1 = s.os := moved.os
  have size : its.size = ns.length := by have := nums.length; rwa [Array.length_toList] at this
  refine wpAny_pure (wpAny_pure (fin h1 t1 ⟨c, full, size ▸ few, fun b o nb e => ?_⟩))
  refine moved.heap b o (fun z => ?_) (Heap.get?_push_of_some _ e)
  rcases List.mem_cons.mp z with z | z
  · exact nb z
  · exact absurd (Heap.lt_size e) (by rw [List.mem_singleton.mp z]; exact Nat.lt_irrefl _)
theorem set_of_list (calm : A.handled = none) (lst : s.heap.IsList l its) (nums : IntsAre its.toList ns) (room : ns.length + 1 < scanBound) {Q : Value → Shared → Prop}
    (fin : ∀ h1 tk c, SetR w h1 s.heap.objs.size (fun j => decide (j ∈ ns)) c → c ≤ ns.length → (∀ b o, s.heap.get? b = some o → h1.get? b = some o) → Q (.ref s.heap.objs.size) { s with heap := h1, toks := tk }) :
    wpAny (model P w) A (call (.type "set") [.ref l]) Q E s := by
  obtain ⟨_, _, mro⟩ := F.called_set.mro
  have made := F.called_set.made
  have sub := F.called_set.sub
  have notType := F.called_set.notType
  have can := F.called_set.canCreate
  have chk := F.typeCall_set_1 (.ref l)
  refine wpAny_call (codeAny_of_tree (show wpAny _ _ (callAny (.type "set") _) _ _ _ from wpAny_pure ⟨Code.quiet_builtin _ (by decide +kernel), codeAny_builtin F.entry_type_call ?_⟩))
  rw [Around.under_plain (weight_type_call_type "set" [.ref l] []) rfl]
  repeat (any_goals (first | assumption | wp_step))
  refine codeAny_mono (code_set_led1 (.ref l) (E := E) (Q₁ := fun v s1 => v = .ref s.heap.objs.size ∧ s1 = { s with heap := s.heap.push (bare0 w) }) ⟨rfl, rfl⟩) fun r s1 got => ?_
  cases r with
  | error e => exact got
  | ok fl =>
    cases fl with
    | ret v =>
      obtain ⟨rfl, rfl⟩ := got
      have sa : (s.heap.push (bare0 w)).get? s.heap.objs.size = some (bare0 w) := Heap.get?_push_size _ rfl
      have ty : Shared.TypeIs { s with heap := s.heap.push (bare0 w) } (.ref s.heap.objs.size) "set" := ⟨_, sa, rfl⟩
      have look := F.called_set.init.lookup
      have bound := F.called_set.init.bind (.ref s.heap.objs.size)
      repeat (any_goals (first | assumption | wp_step))
      refine take_in (by simp [calm]) sa (lst.push _) nums room fun h1 tk ⟨c, full, few, kept⟩ => ?_
      have kept' : ∀ (b : Addr) (o : Obj), s.heap.get? b = some o → h1.get? b = some o := fun b o e => kept b o (Nat.ne_of_lt (Heap.lt_size e)) (Heap.get?_push_of_some _ e)
      repeat (any_goals (first | assumption | wp_step))
      exact fin _ _ _ full few kept'
    | _ => exact got.elim
end

/-- sorted(set(xs)) of whole numbers -/
def tSortSet (K : PySem.W.Frag) (ta : TE) : TE := fun σ H Q => ta σ H fun x H1 => ∃ (l : Addr) (ns : List Int), x = .ref l ∧ SqL K H1 l (ns.map V.int) ∧ ns.length < 64 ∧ ∀ (ms : List Int) (p : Addr), ms.Pairwise (· < ·) → (∀ k : Int, k ∈ ms ↔ k ∈ ns) → H1 p = none → Q (.ref p) (upd H1 p (.lst (ms.map V.int)))
theorem pe_sortSet {X : Cx} {a : Expr} {ta : TE} {p p2 q pos : Pos} (hc : X.calm = true) (hg : Gl X "sorted") (hm : X.mg "sorted" = none) (hg2 : Gl X "set") (hm2 : X.mg "set" = none) (ha : PE X a ta)
    (na : starEach [a] X.env = [(false, eval a X.env)]) : PE X (.Call (.Name "sorted" p) [.Call (.Name "set" p2) [a] [] q] [] pos) (tSortSet X.K ta) := by
  refine ⟨fun pins s σ H Q I w => Call_ (ld_blt I hg hm boot_sorted (PyProof.Rows.callWith_builtin1 (PyProof.Rows.args_cons (Call_ (ld_blt I hg2 hm2 boot_set ?_)) rfl) rfl rfl))⟩
  refine PyProof.Rows.callWith_type1 (PyProof.Rows.args_cons (thn (ha.run pins s σ H _ I w) fun v s1 ⟨x, H1, I1, r1, l, ns, ex, sq, few, go⟩ => PyProof.Rows.args_nil ?_) na) na rfl
  subst ex
  cases r1
  obtain ⟨its, rv, pl, _⟩ := I1.list sq
  have nums : IntsAre its ns := ints_of_vals rv
  refine set_of_list (I1.ok.hd hc) pl.isList (by simpa using nums) (by unfold scanBound; omega) fun h1 tk c full c64 kept => PyProof.Rows.args_nil ?_
  have I2 : L2.Inv X pins σ H1 { s1 with heap := h1, toks := tk } := I1.kept kept
  refine sorted_set full (I2.ok.hd hc) (by omega) fun s2 b out n ms old eg eo fresh at2 are up mem many => ?_
  have none2 : H1 b = none := I2.hok.fresh fresh
  have short : (ms.map V.int).length ≤ sizeLine := by rw [List.length_map, many, sizeLine_eq]; omega
  have I3 : L2.Inv X pins σ (upd H1 b (.lst (ms.map V.int))) s2 := I2.call' (ch := []) eo (Un.laid old fresh none2) (I2.hok.laid old fresh ⟨short, out.toList, n, vals_of_ints are, at2⟩) (by rw [eg]; exact I2.bare) (fun _ z => nomatch z)
  exact ⟨.ref b, _, I3, rfl, go ms b up (fun k => by rw [mem k, decide_eq_true_eq]) none2⟩
/-! the plain reading of it -/
theorem insU_mem (x k : Int) : ∀ l : List Int, k ∈ insU x l ↔ k = x ∨ k ∈ l
  | [] => by simp [insU]
  | y :: r => by
    unfold insU
    split
    · simp
    · split
      · rename_i e; subst e; simp
      · rw [List.mem_cons, insU_mem x k r, List.mem_cons]
        constructor <;> rintro (h | h | h) <;> simp [h]
theorem insU_up (x : Int) : ∀ l : List Int, l.Pairwise (· < ·) → (insU x l).Pairwise (· < ·)
  | [], _ => by simp [insU]
  | y :: r, h => by
    obtain ⟨h1, h2⟩ := List.pairwise_cons.mp h
    unfold insU
    split
    · rename_i lt
      exact List.pairwise_cons.mpr ⟨fun z hz => by
        rcases List.mem_cons.mp hz with e | e
        · rw [e]; exact lt
        · exact Int.lt_trans lt (h1 z e), h⟩
    · split
      · exact h
      · exact List.pairwise_cons.mpr ⟨fun z hz => by
          rcases (insU_mem x z r).mp hz with e | e
          · rw [e]; omega
          · exact h1 z e, insU_up x r h2⟩
theorem sortU_mem (k : Int) : ∀ l : List Int, k ∈ sortU l ↔ k ∈ l
  | [] => by simp [sortU]
  | x :: r => by
    show k ∈ insU x (sortU r) ↔ _
    rw [insU_mem, sortU_mem k r, List.mem_cons]
theorem sortU_up : ∀ l : List Int, (sortU l).Pairwise (· < ·)
  | [] => .nil
  | x :: r => insU_up x _ (sortU_up r)
theorem up_eq : ∀ {l m : List Int}, l.Pairwise (· < ·) → m.Pairwise (· < ·) → (∀ k, k ∈ l ↔ k ∈ m) → l = m
  | [], [], _, _, _ => rfl
  | [], y :: m, _, _, h => absurd ((h y).mpr List.mem_cons_self) (by simp)
  | x :: l, [], _, _, h => absurd ((h x).mp List.mem_cons_self) (by simp)
  | x :: l, y :: m, hl, hm, h => by
    obtain ⟨a1, a2⟩ := List.pairwise_cons.mp hl
    obtain ⟨b1, b2⟩ := List.pairwise_cons.mp hm
    have e : x = y := by
      have h1 := (h x).mp List.mem_cons_self
      have h2 := (h y).mpr List.mem_cons_self
      rcases List.mem_cons.mp h1 with z | z
      · exact z
      · rcases List.mem_cons.mp h2 with z2 | z2
        · exact z2.symm
        · have := a1 y z2; have := b1 x z; omega
    subst e
    rw [up_eq a2 b2 fun k => ?_]
    constructor
    · intro hk
      rcases List.mem_cons.mp ((h k).mp (List.mem_cons_of_mem _ hk)) with z | z
      · have := a1 k hk; omega
      · exact z
    · intro hk
      rcases List.mem_cons.mp ((h k).mpr (List.mem_cons_of_mem _ hk)) with z | z
      · have := b1 k hk; omega
      · exact z
end Cv

set_option Elab.async false
set_option linter.all false
set_option maxRecDepth 100000
set_option maxHeartbeats 4000000
/-! Core18: the call sorted(..). -/
namespace Cv
open PySem PySem.Spec PyProof.Rows L2
section
open PySem.W PySem.SeqAt
variable {prog : Program} {w : World} {A : Around} {E : Value → Shared → Prop} {s : Shared}
theorem call_tup_lt {Q : Value → Shared → Prop} {l b : Addr} {items items2 : Array Value} {e r : Nat → Bool} (hl : s.heap.IsTuple l items) (hb : s.heap.IsTuple b items2)
    (he : ∀ j (h1 : j < items.size) (h2 : j < items2.size), EqAt A.in1 s items[j] items2[j] (e j)) (hr : ∀ j (h1 : j < items.size) (h2 : j < items2.size), e j = false → RcLt A.in1 s items[j] items2[j] (r j))
    (h : Q (.bool (firstLt e r (decide (items.size < items2.size)) (List.range (min items.size items2.size)))) s) : wpAny (model prog w) A (call (.builtin "tuple.__lt__") [.ref l, .ref b]) Q E s := by
  obtain ⟨⟨cls, dd, data, sl⟩, ho, hc, n, hd⟩ := id hl
  obtain ⟨⟨cls2, dd2, data2, sl2⟩, ho2, hc2, n2, hd2⟩ := id hb
  simp only at hc hd hc2 hd2
  subst hc hd hc2 hd2
  exact call_meets F.slot_tuple_lt ⟨_, ho, rfl⟩ F.entry_tuple_lt (F.args_tuple_lt_2 _ _) (tuple_ltAt l b items items2 n n2 dd dd2 sl sl2 e r) ⟨ho, ho2, he, hr, h⟩
/-- one tuple against another, by the tuples' own order -/
theorem one_tup {xs ys : List PyData} {a b : Value} {as bs : List Addr} {Q : Bool → Shared → Prop} (ra : Reads s.heap a (.tuple xs) as) (rb : Reads s.heap b (.tuple ys) bs) (h : alike (.tuple xs) (.tuple ys) = true)
    (hu : A.units + min (PyData.tuple xs).depth (PyData.tuple ys).depth < cLine) (hq : Q (dataLt (.tuple xs) (.tuple ys)) s) : wpAny (model prog w) A (oneLt' true a b) Q E s := by
  have hal : alikeAll xs ys = true := by simpa [alike] using h
  cases ra with
  | @tuple l o vs n _ as₁ h1 h2 h3 h4 =>
    cases rb with
    | @tuple l' o' vs' n' _ bs₁ k1 k2 k3 k4 =>
      have n1 : vs.size = xs.length := by simpa using ReadsAll.length _ _ _ h4
      have n2 : vs'.size = ys.length := by simpa using ReadsAll.length _ _ _ k4
      rw [dataLt_tuple, ← firstLt_toks xs ys hal, ← n1, ← n2] at hq
      rw [oneLt'_eq]
      simp only [if_true]
      refine wpAny_bind (wpAny_cRoomFor (room_here hu) ?_)
      refine wpAny_bind (wpAny_callSpecialIfBound?_slot (T := "tuple") ⟨_, h1, h2⟩ F.slot_tuple_lt (call_tup_lt (e := pairEq xs ys) (r := fun j => dataLt (xs.getD j .none) (ys.getD j .none)) ⟨_, h1, h2, _, h3⟩ ⟨_, k1, k2, _, k3⟩ (fun j j1 j2 => ?_) (fun j j1 j2 hj => ?_) ?_))
      · have := eqAt_alikeAll xs ys A.in1 s vs.toList vs'.toList _ _ h4 k4 hal (room_in hu) j (by simpa using j1) (by simpa using j2)
        simpa using this
      · have := rcLt_alikeAll xs ys A.in1 s vs.toList vs'.toList _ _ h4 k4 hal (room_in hu) j (by simpa using j1) (by simpa using j2) hj
        simpa using this
      · exact wpAny_truthy_bool hq
theorem firsts_tups {M : Model} {h : Heap} : ∀ {vs : List Value} {ds : List PyData}, EachIs (fun v d => ∃ as, Reads h v d as) vs ds → (∀ d ∈ ds, ∃ xs, d = .tuple xs) → s.heap = h → ∃ fs : List (Option Value), fs.length = vs.length ∧ (ds.head? = some (.tuple []) → fs.head? = some none) ∧
    ∀ (Q : List (Option Value) → Shared → Prop), Q fs s → wpAny M A (vs.mapM firstOfTuple') Q E s
  | _, _, .nil, _, _ => ⟨[], rfl, (fun z => by cases z), (fun Q q => by rw [List.mapM_nil]; exact wpAny_pure q)⟩
  | _, _, .cons (b := d) ⟨as, r⟩ t, ht, hh => by
    obtain ⟨fs, l, _, k⟩ := firsts_tups (M := M) t (fun d hd => ht d (List.mem_cons_of_mem _ hd)) hh
    obtain ⟨xs, rfl⟩ := ht d List.mem_cons_self
    cases r with
    | @tuple a o its n _ _ ho hc hd hr =>
      refine ⟨its[0]? :: fs, by simp [l], fun z => ?_, fun Q q => ?_⟩
      · have : xs = [] := by
          have z' : some (PyData.tuple xs) = some (.tuple []) := z
          cases z'; rfl
        subst this
        have hl : its.toList.length = 0 := by simpa using ReadsAll.length _ _ _ hr
        have : its[0]? = none := by
          rw [Array.getElem?_eq_none]
          simpa using hl
        rw [this]; rfl
      · rw [List.mapM_cons]
        refine wpAny_bind ?_
        rw [kas_first_eq]
        refine wpAny_bind (Looks.here (show Looks M s.heap (typeOf (.ref a)) o.cls from (Looks.ld (by rw [hh]; exact ho)).andThen .now) ?_)
        rw [hc, if_neg (by first | decide | simp)]
        refine wpAny_bind (listItems_at (by rw [hh]; exact ho) hd (wpAny_pure ?_))
        exact wpAny_bind (k _ (wpAny_pure q))
theorem kind_empty {M : Model} {vs : List Value} {ds : List PyData} {Q : SortKind → Shared → Prop} (e : EachIs (fun v d => ∃ as, Reads s.heap v d as) vs ds) (ht : ∀ d ∈ ds, ∃ xs, d = .tuple xs) (h0 : ds.head? = some (.tuple [])) (h : Q oneType' s) : wpAny M A (keyKind' vs.toArray) Q E s := by
  obtain ⟨fs, l, hd, k⟩ := firsts_tups (M := M) (A := A) (E := E) (s := s) e ht rfl
  obtain ⟨fr, rfl⟩ : ∃ fr, fs = none :: fr := by
    have := hd h0
    cases fs with
    | nil => cases this
    | cons a b => cases this; exact ⟨b, rfl⟩
  rw [kat_kind_eq, List.mapM_toArray, map_eq_pure_bind]
  refine wpAny_bind (wpAny_bind (k _ (wpAny_pure ?_)))
  rw [if_neg (by simp), if_neg (by simp)]
  rw [oneTypeOnly'_eq, List.mapM_toArray, map_eq_pure_bind]
  have hT : ∀ v ∈ vs, Looks M s.heap (typeOf v) (.type "tuple") := fun v hv => by
    obtain ⟨d, hd, as, r⟩ := e.left v hv
    obtain ⟨xs, rfl⟩ := ht d hd
    exact looks_reads r
  refine wpAny_bind (wpAny_bind (wpAny_bind (kas_mapM (r := .type "tuple") _ (fun v hv Q' hq => (hT v hv).here hq) (wpAny_pure ?_))))
  obtain ⟨v₁, rest, rfl⟩ : ∃ v₁ rest, vs = v₁ :: rest := by
    cases vs with
    | nil => simp at l
    | cons a b => exact ⟨a, b, rfl⟩
  have hall : ((List.map (fun _ => Value.type "tuple") (v₁ :: rest)).toArray.all fun x => x == Value.type "tuple") = true := by
    simp only [List.all_toArray, List.all_map, List.all_eq_true]
    intro _ _
    exact beq_self_eq_true _
  have h0' : (List.map (fun _ => Value.type "tuple") (v₁ :: rest)).toArray[0]? = some (Value.type "tuple") := by simp
  rw [h0']
  simp only [hall, if_true]
  exact wpAny_pure (wpAny_pure h)
/-- tuples of which the first is empty can be sorted, too -/
theorem sorts_empty {vs : List Value} {ds : List PyData} (e : EachIs (fun v d => ∃ as, Reads s.heap v d as) vs ds) (hal : AllAlike ds) (ht : ∀ d ∈ ds, ∃ xs, d = .tuple xs) (h0 : ds.head? = some (.tuple [])) (hu : ∀ d, d ∈ ds → A.units + d.depth < cLine) : SortsAt prog w A s (dataKind s.heap ds) vs := by
  refine ⟨fun v hv => ?_, oneType', ?_, fun h2 E Q hq => kind_empty e ht h0 hq⟩
  · obtain ⟨d, hd, as, r⟩ := e.left v hv
    exact ⟨_, dataKind_some hal hd r⟩
  · intro E x y a b Q ha hb hq
    obtain ⟨d, as, hd, ra, rfl⟩ := dataKind_inv ha
    obtain ⟨d', as', hd', rb, rfl⟩ := dataKind_inv hb
    obtain ⟨x1, rfl⟩ := ht d hd
    obtain ⟨x2, rfl⟩ := ht d' hd'
    rw [keyLt'_oneType]
    exact one_tup ra rb (hal _ hd _ hd') (Nat.lt_of_le_of_lt (Nat.add_le_add_left (Nat.min_le_left _ _) _) (hu _ hd)) hq
theorem sorted_any {β : Type} {vs : List Value} {bs : List β} {enc : β → PyData} {R : Value → β → Prop} {l : Addr} {Q : Value → Shared → Prop} (hl : s.heap.IsList l vs.toArray) (e : EachIs R vs bs) (er : EachIs (fun v b => ∃ as, Reads s.heap v (enc b) as) vs bs) (hal : AllAlike (bs.map enc))
    (hk : Sortable (bs.map enc) ∨ ((∀ d ∈ bs.map enc, ∃ xs, d = .tuple xs) ∧ (bs.map enc).head? = some (.tuple []))) (hL : bs.length ≤ sizeLine)
    (hu : ∀ b, b ∈ bs → A.units + 2 + (enc b).depth < cLine) (h : ∀ out, out.length = bs.length → EachIs R out (bs.mergeSort (dataLe false enc)) → Q (.ref (s.heap.objs.size + 1)) { s with heap := sortedAll s.heap vs (List.toArray out) }) :
    wpAny (model prog w) A (call (.builtin "sorted") [.ref l]) Q E s := by
  rcases hk with hk | ⟨h1, h2⟩
  · exact sorted_data hl e er hal hk hL hu h
  have er' : EachIs (fun v b => ∃ as, Reads (sortingHeap (copyHeap s.heap vs) (s.heap.objs.size + 1) vs) v (enc b) as) vs bs := er.mono fun _ _ ⟨as, r⟩ => ⟨as, PyProof.Rows.Reads.keeps (fun _ _ => sorting_copy_old) r⟩
  exact sorted_vals hl (sorts_empty (s := { s with heap := sortingHeap (copyHeap s.heap vs) (s.heap.objs.size + 1) vs }) (each_map (R := fun v d => ∃ as, Reads (sortingHeap (copyHeap s.heap vs) (s.heap.objs.size + 1) vs) v d as) enc er') hal h1 h2 (bound_map hu)) (by rw [e.length]; exact hL)
    (h _ (by rw [sortVals_length false rfl]; exact e.length) (sortVals_data false e er' hal))
end
theorem tup0_ok {x : PV} (h : tup0 x = true) : x = .tup [] := by
  unfold tup0 at h
  split at h
  · rfl
  · cases h
theorem tup1_ok {x : PV} (h : tup1 x = true) : ∃ y ys, x = .tup (y :: ys) := by
  unfold tup1 at h
  split at h
  · exact ⟨_, _, rfl⟩
  · cases h
theorem tupA_ok {x : PV} (h : tupA x = true) : ∃ ys, x = .tup ys := by
  unfold tupA at h
  split at h
  · exact ⟨_, rfl⟩
  · cases h
section
variable {Z : Fx} {P F0 F F1 F' H H' H1 : Hp} {ι ι1 ι' : List Addr} {σ σ2 : L2.St} {ρ ρ1 : Evn} {st st' st1 : Sto} {Q Q1 : VK} {E : XK} {X : Cx} {C : CC} {f g : Cl} {lv : Nat} {sc : Scope} {r : Rc} {D : Ends}
theorem fst_zip {α β : Type} : ∀ {l : List α} {m : List β}, l.length = m.length → (l.zip m).map (·.1) = l
  | [], [], _ => rfl
  | a :: l, b :: m, h => by simp [fst_zip (l := l) (m := m) (by simpa using h)]
  | [], _ :: _, h => by simp at h
  | _ :: _, [], h => by simp at h
theorem reps_zip : ∀ {xs : List PV} {vs : List V}, Reps Z.K F ι xs vs → ∀ p ∈ xs.zip vs, Rep Z.K F ι p.1 p.2
  | [], _, _, p, h => by simp at h
  | x :: xs, vs, r, p, h => by
    obtain ⟨v, us, rfl, h1, h2⟩ := r.uncons
    rw [List.zip_cons_cons] at h
    rcases List.mem_cons.mp h with e | e
    · subst e; exact h1
    · exact reps_zip h2 p e
theorem reps_of : ∀ {l : List (PV × V)}, (∀ p ∈ l, Rep Z.K F ι p.1 p.2) → Reps Z.K F ι (l.map (·.1)) (l.map (·.2))
  | [], _ => .nil
  | p :: l, h => .cons (h p List.mem_cons_self) (reps_of fun q hq => h q (List.mem_cons_of_mem _ hq))
theorem each_zip {its : List Value} : ∀ {xs : List PV} {vs : List V}, Vals vs its → xs.length = vs.length → PySem.W.EachIs (fun u (p : PV × V) => RelV p.2 u) its (xs.zip vs) := by
  intro xs vs r
  induction r generalizing xs with
  | nil => intro _; rw [List.zip_nil_right]; exact .nil
  | cons a b ih =>
    intro h
    cases xs with
    | nil => simp at h
    | cons x xs => exact .cons a (ih (by simpa using h))
theorem each_vals {out : List Value} : ∀ {l : List (PV × V)}, PySem.W.EachIs (fun u (p : PV × V) => RelV p.2 u) out l → Vals (l.map (·.2)) out
  | _, .nil => .nil
  | _, .cons h t => .cons h (each_vals t)
theorem datL_mem {n : Nat} : ∀ {xs : List PV}, datL n xs = true → ∀ x ∈ xs, dat n x = true
  | y :: xs, h, x, hx => by
    have h' : (dat n y && datL n xs) = true := h
    rw [Bool.and_eq_true] at h'
    rcases List.mem_cons.mp hx with e | e
    · rw [e]; exact h'.1
    · exact datL_mem h'.2 x e
theorem cr_sortedP (hu : X.A.units + 65 < cLine) (hK : X.K = Z.K) : CallR X (.builtin "sorted") (rB Z (biP .sorted)) := by
  intro pins s σ' H vs us Q I rv h
  obtain ⟨P, F0, F, ι, σ, ρ, st, xs, r, rs, p⟩ := h
  match xs, rs, p with
  | [x], rs, p =>
    obtain ⟨v1, vs1, rfl, g1, g2⟩ := rs.uncons
    obtain rfl := g2.nil_of
    cases x with
    | lst ys =>
      obtain ⟨a, ws, rfl, k1, k2⟩ := g1.lst_of
      have p' : VPost Z P F0 σ F ι ρ st Q ((sortP ys).map .lst) := p
      unfold sortP at p'
      by_cases hc : (fits ys.length && datL 40 ys && ys.all (fun x => ys.all (alkP x)) && srtOk ys) = true
      · rw [if_pos hc] at p'
        simp only [Bool.and_eq_true] at hc
        obtain ⟨⟨⟨c1, c2⟩, c3⟩, c4⟩ := hc
        have al : Alk 40 ys := ⟨fun x hx y hy => List.all_eq_true.mp (List.all_eq_true.mp c3 x hx) y hy, datL_mem c2⟩
        have hl : SqL X.K H a ws := .inl (r.r.fh.rd k1)
        obtain ⟨its, rw1, pl, hz⟩ := I.list hl
        rw [Vals.ref1 rv]
        have ln : ys.length = ws.length := by rw [k2.len]
        have e := each_zip (xs := ys) rw1 ln
        have mz := reps_zip k2
        have mx : ∀ q ∈ ys.zip ws, q.1 ∈ ys := fun q hq => (List.of_mem_zip hq).1
        have er : PySem.W.EachIs (fun v (b : PV × V) => ∃ as, Reads s.heap v (toD b.1) as) its (ys.zip ws) := (PySem.W.each_mem e).mono fun u q ⟨ru, hq⟩ =>
          Dp.reads I (toD q.1) q.2 u (by rw [hK]; exact dp_mono r.r.fh ((mz q hq).dp (al.dt _ (mx q hq)))) ru
        have hal : PySem.W.AllAlike ((ys.zip ws).map fun b => toD b.1) := by
          intro d hd d' hd'
          obtain ⟨b, hb, rfl⟩ := List.mem_map.mp hd
          obtain ⟨b', hb', rfl⟩ := List.mem_map.mp hd'
          exact alk_ok (al.al _ (mx b hb) _ (mx b' hb'))
        have hk : PySem.W.Sortable ((ys.zip ws).map fun b => toD b.1) ∨ ((∀ d ∈ (ys.zip ws).map fun b => toD b.1, ∃ xs, d = .tuple xs) ∧ ((ys.zip ws).map fun b => toD b.1).head? = some (.tuple [])) := by
          cases ys with
          | nil => exact .inl (.inl fun d hd => by simp at hd)
          | cons y0 yr =>
            have c4' : (((y0 :: yr).all tup1 || (y0 :: yr).all plainK) || (tup0 y0 && yr.all tupA)) = true := c4
            simp only [Bool.or_eq_true, Bool.and_eq_true] at c4'
            rcases c4' with (z | z) | ⟨z1, z2⟩
            · refine .inl (.inl fun d hd => ?_)
              obtain ⟨b, hb, rfl⟩ := List.mem_map.mp hd
              obtain ⟨q, qs, e⟩ := tup1_ok (List.all_eq_true.mp z _ (mx b hb))
              rw [e]; exact ⟨_, _, rfl⟩
            · refine .inl (.inr fun d hd => ?_)
              obtain ⟨b, hb, rfl⟩ := List.mem_map.mp hd
              have zz := List.all_eq_true.mp z _ (mx b hb)
              have dd := al.dt _ (mx b hb)
              cases hb1 : b.1 with
              | tup xs => rw [hb1] at zz; exact absurd (show false = true from zz) (by simp)
              | non => rw [hb1] at zz; exact absurd (show false = true from zz) (by simp)
              | ob n => rw [hb1] at dd; cases dd
              | bl c => exact ⟨(fun q => by cases q), (fun xs q => by cases q)⟩
              | int c => exact ⟨(fun q => by cases q), (fun xs q => by cases q)⟩
              | str c => exact ⟨(fun q => by cases q), (fun xs q => by cases q)⟩
              | lst c => exact ⟨(fun q => by cases q), (fun xs q => by cases q)⟩
            · refine .inr ⟨fun d hd => ?_, ?_⟩
              · obtain ⟨b, hb, rfl⟩ := List.mem_map.mp hd
                rcases List.mem_cons.mp (mx b hb) with e | e
                · rw [e, tup0_ok z1]; exact ⟨_, rfl⟩
                · obtain ⟨qs, e⟩ := tupA_ok (List.all_eq_true.mp z2 _ e)
                  rw [e]; exact ⟨_, rfl⟩
              · cases ws with
                | nil => simp at ln
                | cons w0 wr => rw [List.zip_cons_cons, tup0_ok z1]; rfl
        have lz : (ys.zip ws).length = ys.length := by rw [List.length_zip, ← ln, Nat.min_self]
        refine sorted_any (enc := fun b : PV × V => toD b.1) (R := fun u (q : PV × V) => RelV q.2 u) pl.isList e er hal hk (by rw [lz]; exact fits_le c1) (fun b hb => ?_) fun out ho eo => ?_
        · have := (dat_ok (al.dt _ (mx b hb))).2
          omega
        · generalize hm : (ys.zip ws).mergeSort (PySem.W.dataLe false fun b : PV × V => toD b.1) = ms at eo
          have pm : ms.Perm (ys.zip ws) := by rw [← hm]; exact List.mergeSort_perm _ _
          have rep : Reps Z.K F ι (ms.map (·.1)) (ms.map (·.2)) := reps_of fun q hq => mz q (pm.mem_iff.mp hq)
          have srt : ms.map (·.1) = sortS ys := by
            rw [← sort_merge al, ← hm]
            have hmm := List.map_mergeSort (r := PySem.W.dataLe false fun b : PV × V => toD b.1) (s := leB) (f := fun b : PV × V => b.1) (l := ys.zip ws) (fun a _ b _ => rfl)
            rw [hmm, fst_zip ln]
          obtain ⟨ep, he'⟩ := PyProof.Rows.sortedAll_at s.heap its (List.toArray out)
          have hlen : (ms.map (·.2)).length ≤ sizeLine := by
            rw [List.length_map, pm.length_eq, lz]; exact fits_le c1
          have fr := I.hok.fresh (Nat.le_succ s.heap.objs.size)
          rw [srt] at rep
          exact ⟨.ref _, upd H (s.heap.objs.size + 1) (.lst (ms.map (·.2))), I.laid (t' := s.toks) (fun _ _ => PyProof.Rows.sortedAll_old) (Nat.le_succ _) ⟨hlen, out, ep, each_vals eo, he'⟩, rfl, VPost.lst p' r rep fr⟩
      · rw [if_neg hc] at p'; exact p'.elim
    | _ => exact (show False from p).elim
  | [], _, p => exact (show False from p).elim
  | _ :: _ :: _, _, p => exact (show False from by
      rename_i a b c
      cases a <;> exact p).elim
def setArg : Expr → Option Expr
  | .Call g as kws _ => match g, as, kws with
    | .Name y _, [b], [] => if y = ("set" : Str) then some b else none
    | _, _, _ => none
  | _ => none
theorem setArg_ok {a b : Expr} (h : setArg a = some b) : ∃ p pos, a = .Call (.Name "set" p) [b] [] pos := by
  unfold setArg at h
  split at h
  · split at h
    · split at h
      · rename_i e
        subst e
        cases h
        exact ⟨_, _, rfl⟩
      · cases h
    · cases h
  · cases h
theorem intsO_ok : ∀ {xs : List PV} {ns : List Int}, intsO xs = some ns → xs = ns.map .int
  | [], _, h => by cases h; rfl
  | .int i :: r, ns, h => by
    have h' : (intsO r).map (i :: ·) = some ns := h
    cases e : intsO r with
    | none => rw [e] at h'; cases h'
    | some m => rw [e] at h'; cases h'; rw [intsO_ok e]; rfl
  | .non :: _, _, h | .bl _ :: _, _, h | .str _ :: _, _, h | .tup _ :: _, _, h | .lst _ :: _, _, h | .ob _ :: _, _, h => by cases h
theorem snd_sortSet (hr : Snd Z C f lv r) (w : Cw Z C f lv sc X E) (hl : Le g f) {b : Expr} {c : Ce} {p p2 q pos : Pos} (h1 : glbB sc ("sorted" : Str) = true) (h2 : C.bl.contains ("sorted" : Str) = true) (h3 : glbB sc ("set" : Str) = true) (h4 : C.bl.contains ("set" : Str) = true) (h5 : noStar b = true) (hb : r false sc b = some c) :
    PE X (.Call (.Name "sorted" p) [.Call (.Name "set" p2) [b] [] q] [] pos) (tE Z E g (.bi .sortSet (.cons c .nil))) := by
  refine pe_imp (pe_sortSet w.calm (glbB_ok (by rw [w.sc]; exact h1)) (w.bl _ h2) (glbB_ok (by rw [w.sc]; exact h3)) (w.bl _ h4) (hr.v _ _ _ hb X E g w hl) (no1 h5)) fun σ H Q q => ?_
  obtain ⟨P, F0, F, ι, ρ, st, r0, p⟩ := q
  have p' : EPost Z P F0 σ F ι E Q (((evD c g ρ st).bind (Cv.d1 fun v ρ st => (ResE.ok [] ρ st).bind fun vs ρ st => .ok (v :: vs) ρ st)).bind fun vs ρ st => givD (biP .sortSet vs) ρ st) := p
  have p2 : EPost Z P F0 σ F ι E Q ((evD c g ρ st).bind (Cv.d1 fun v ρ st => givD (biP .sortSet [v]) ρ st)) := by
    cases e1 : evD c g ρ st with
    | ok xs ρ1 st1 =>
      rw [e1] at p'
      match xs, p' with
      | [], p' => exact p'
      | _ :: _ :: _, p' => exact p'
      | [x], p' => exact p'
    | ex c x st => rw [e1] at p'; exact p'
    | fail => rw [e1] at p'; exact p'
  refine ⟨P, F0, F, ι, ρ, st, r0, EPost.b1 p2 fun x ρ1 st1 F1 ι1 H1 v s1 e1 r1 rx q1 => ?_⟩
  have q2 := q1.giv
  cases x with
  | lst ys =>
    have q3 : VPost Z P F0 σ F1 ι1 ρ1 st1 Q ((intsO ys).bind fun ns => if ns.length < 64 then some (.lst ((sortU ns).map .int)) else none) := q2
    cases e : intsO ys with
    | none => rw [e] at q3; exact q3.elim
    | some ns =>
      rw [e] at q3
      have q4 : VPost Z P F0 σ F1 ι1 ρ1 st1 Q (if ns.length < 64 then some (.lst ((sortU ns).map .int)) else none) := q3
      by_cases hn : ns.length < 64
      · rw [if_pos hn] at q4
        have ey := intsO_ok e
        subst ey
        obtain ⟨a, vs, rfl, k1, k2⟩ := rx.lst_of
        have ev := reps_ints k2
        subst ev
        refine ⟨a, ns, rfl, .inl (r1.r.fh.rd k1), hn, fun ms p0 up mem hp => ?_⟩
        have em : ms = sortU ns := up_eq up (sortU_up ns) fun k => (mem k).trans (sortU_mem k ns).symm
        rw [em]
        exact q4.lst r1 reps_of_ints hp
      · rw [if_neg hn] at q4; exact q4.elim
  | _ => exact (show False from q2).elim
def cmpSort (C : CC) (r : Rc) (sc : Scope) : Expr → Option Ce
  | .Call g as kws _ => match g with
    | .Name x _ => (match as, kws with
      | [a], [] => if x = ("sorted" : Str) && glbB sc x && plainN x && C.bl.contains x then (match setArg a with
        | some b => if glbB sc ("set" : Str) && C.bl.contains ("set" : Str) && noStar b then (r false sc b).map fun c => .bi .sortSet (.cons c .nil) else none
        | none => (r false sc a).map fun c => .bi .sorted (.cons c .nil)) else none
      | _, _ => none)
    | _ => none
  | _ => none
theorem cmpSort_snd (hr : Snd Z C f lv r) (w : Cw Z C f lv sc X E) (hl : Le g f) {e : Expr} {c : Ce} (h : cmpSort C r sc e = some c) : PE X e (tE Z E g c) := by
  unfold cmpSort at h
  split at h
  · split at h
    · split at h
      · split at h
        · rename_i hc
          simp only [Bool.and_eq_true, decide_eq_true_eq] at hc
          obtain ⟨⟨⟨h1, h2⟩, h3⟩, h4⟩ := hc
          subst h1
          split at h
          · rename_i b hb
            obtain ⟨p2, q2, rfl⟩ := setArg_ok hb
            split at h
            · rename_i hq
              simp only [Bool.and_eq_true] at hq
              obtain ⟨c1, e1, rfl⟩ := m1 h
              exact snd_sortSet hr w hl h2 h4 hq.1.1 hq.1.2 hq.2 e1
            · cases h
          · obtain ⟨c1, e1, rfl⟩ := m1 h
            exact snd_bi hr w hl h2 h3 h4 PyProof.Rows.boot_sorted (cr_sortedP (units65 w) w.k) (fun _ _ _ z => z) (cmpL_one e1)
        · cases h
      · cases h
    · cases h
  · cases h
end
end Cv

set_option Elab.async false
set_option linter.all false
set_option maxRecDepth 100000
set_option maxHeartbeats 4000000
/-! Core19: the reading of expressions and statements, whole; defs. -/
namespace Cv
open PySem PySem.Spec PyProof.Rows L2
def orT (a : Option Ce) (b : Unit → Option Ce) : Option Ce := match a with
  | some x => some x
  | none => b ()
def cmpX (C : CC) (r : Rc) (sc : Scope) (e : Expr) : Option Ce :=
  orT (cmpLC C r sc e) fun _ => orT (cmpGet C r sc e) fun _ => orT (cmpKw C r sc e) fun _ => orT (cmpRf C r sc e) fun _ => orT (cmpSort C r sc e) fun _ => cmpV C r sc e
def cmpE (C : CC) : Nat → Rc
  | 0 => fun _ _ _ => none
  | n + 1 => fun b sc e => if noStar e = true then (match b with
    | true => cmpT C (cmpE C n) sc e
    | false => cmpX C (cmpE C n) sc e) else none
theorem orT_ok {a : Option Ce} {b : Unit → Option Ce} {c : Ce} (h : orT a b = some c) : a = some c ∨ b () = some c := by
  cases a with
  | none => exact .inr h
  | some x => exact .inl h
section
variable {Z : Fx} {C : CC} {f : Cl} {lv : Nat}
theorem cmpE_snd : ∀ n, Snd Z C f lv (cmpE C n)
  | 0 => by
    refine ⟨fun b sc e c h => ?_, fun sc e c h => ?_, fun sc e c h => ?_⟩
    · exact absurd (show (none : Option Ce) = some c from h) (by simp)
    · exact absurd (show (none : Option Ce) = some c from h) (by simp)
    · exact absurd (show (none : Option Ce) = some c from h) (by simp)
  | n + 1 => by
    have ih := cmpE_snd n
    refine ⟨fun b sc e c h => ?_, fun sc e c h X E g w hl => ?_, fun sc e c h X E g w hl => ?_⟩
    · have h' : (if noStar e = true then (match b with
        | true => cmpT C (cmpE C n) sc e
        | false => cmpX C (cmpE C n) sc e) else none) = some c := h
      split at h'
      · assumption
      · cases h'
    · have h' : (if noStar e = true then cmpX C (cmpE C n) sc e else none) = some c := h
      split at h'
      · rcases orT_ok h' with z | z
        · exact snd_lc ih w hl z
        rcases orT_ok z with z | z
        · exact cmpGet_snd ih w hl z
        rcases orT_ok z with z | z
        · exact cmpKw_snd ih w hl z
        rcases orT_ok z with z | z
        · exact cmpRf_snd ih w hl z
        rcases orT_ok z with z | z
        · exact cmpSort_snd ih w hl z
        · exact cmpV_snd ih w hl z
      · cases h'
    · have h' : (if noStar e = true then cmpT C (cmpE C n) sc e else none) = some c := h
      split at h'
      · exact cmpT_snd ih w hl h'
      · cases h'
end
/-- a def's body -/
def cmpB (C : CC) (ob : Bool) (sc : Scope) (n : Nat) (body : List Stmt) : Option Cs := seqL (cmpS C (cmpE C n) ob (body.flatMap (chS 30)) sc n) body
theorem get_map : ∀ {xs : List PV} {n : Nat} {i : Nat}, getS (xs.map Slt.val ++ List.replicate n Slt.no) i = match xs[i]? with | some v => Slt.val v | none => Slt.no
  | [], 0, i => rfl
  | [], n + 1, 0 => rfl
  | [], n + 1, i + 1 => by
    show getS (List.replicate n .no) i = .no
    have := get_map (xs := []) (n := n) (i := i)
    simpa using this
  | x :: xs, n, 0 => rfl
  | x :: xs, n, i + 1 => by
    show getS (xs.map Slt.val ++ List.replicate n .no) i = _
    rw [get_map]; simp
section
variable {Z : Fx} {P F0 F F1 F' H H' H1 : Hp} {ι ι1 ι' : List Addr} {st : Sto} {C : CC} {f : Cl} {lv : Nat}
theorem rel_start {xs : List PV} {vs : List V} {N : List Str} {nl : Nat} (r : Rel0 Z P F0 F ι H st) (rs : Reps Z.K F ι xs vs) (hn : N.length - vs.length = nl) : Rel Z P F0 F ι (L2.start N vs) H (newEnv nl xs) st := by
  refine ⟨r, ?_, fun i => ?_, fun i j a ⟨zs, h, _⟩ => ?_⟩
  · show (vs.map some ++ List.replicate (N.length - vs.length) none).length = (xs.map Slt.val ++ List.replicate nl Slt.no).length
    have e1 := rs.len
    simp only [List.length_append, List.length_map, List.length_replicate]
    omega
  · show SlotOk Z.K P F ι H ((vs.map some ++ List.replicate (N.length - vs.length) none)[i]?) (getS (xs.map Slt.val ++ List.replicate nl Slt.no) i)
    rw [get_map]
    cases e : xs[i]? with
    | none => trivial
    | some x =>
      obtain ⟨v, e2, rv⟩ := rs.get e
      have hi : i < vs.length := (List.getElem?_eq_some_iff.mp e2).1
      refine ⟨v, ?_, rv⟩
      rw [List.getElem?_append_left (by simpa using hi), List.getElem?_map, e2]; rfl
  · have h' : getS (xs.map Slt.val ++ List.replicate nl Slt.no) i = .own zs := h
    rw [get_map] at h'
    cases e : xs[i]? <;> rw [e] at h' <;> cases h'
/-- a def's end, as its caller wants it -/
theorem cpost_go {P F : Hp} {Q : VK} {E : XK} {x : ResS} (p : CPost Z P F ι Q E (x.go (fun _ st => .ok .non st) (fun _ _ => .fail))) : SPost Z P F F ι E { nx := fun _ H' => Q .non H', rt := Q } x := by
  cases x with
  | nx ρ st => exact fun σ' F' ι' H' a b r => (show CPost Z P F ι Q E (.ok .non st) from p) F' ι' H' .non a b r.r .non
  | ct ρ st => exact (show False from p).elim
  | rt v st => exact fun F' ι' H' u a b r q => (show CPost Z P F ι Q E (.ok v st) from p) F' ι' H' u a b r q
  | ex c v st => exact p
  | fail => exact p
end
/-- where the context's fixed parts come from -/
structure At (P : Program) (w : World) (K : PySem.W.Frag) (mg : Str → Option Value) (base : Heap) (X : Cx) : Prop where
  prog : X.prog = P
  w : X.w = w
  k : X.K = K
  mg : X.mg = mg
  base : X.base = base
  calm : X.calm = true
/-- what is told of the program: names, tables, defs and their texts -/
structure Prg (Z : Fx) (C : CC) (T : List CDef) (P : Program) (w : World) (K : PySem.W.Frag) (mg : Str → Option Value) (base : Heap) : Prop where
  k : K = Z.K
  bl : ∀ x, C.bl.contains x = true → mg x = none
  gl : ∀ x v, C.gl.lookup x = some v → ∃ u w, mg x = some u ∧ RelV w u ∧ ∀ F ι, Rep Z.K F ι v w
  dt : ∀ x kvs, C.dts.lookup x = some kvs → ∃ a es n, mg x = some (.ref a) ∧ KDict K w a es n ∧ ∀ k, match kvs.lookup k with
    | some v => ∃ u w, PySem.W.nsIn K a k = some (some u) ∧ RelV w u ∧ ∀ F ι, Rep Z.K F ι v w
    | none => PySem.W.nsIn K a k = some none
  fn : ∀ (i : Nat) (x : Str) (ps : List Str), C.fns[i]? = some (x, ps) → ∃ (a : Addr) (fd : FuncData) (params : Arguments) (body : List Stmt) (sc : Scope) (N : List Str) (ob mkr : Bool) (n : Nat) (D : CDef),
    mg x = some (.ref a) ∧ PySem.W.keepIn K (.ref a) = true ∧ Binds K fd ps [] ∧ (∀ ks gp, (i, ks, gp) ∈ C.kws → KB fd ps ks gp) ∧ L2.FunD K x x params body sc [] [] a fd ∧ FnScope N ps sc ∧
    T[i]? = some D ∧ D.np = ps.length ∧ D.nl = N.length - ps.length ∧ cmpB { C with N := N, mks := if mkr = true then some sc else none } ob sc n body = some D.body ∧
    (mkr = true → ∃ c Pt, fd.code = .ref c ∧ LamX.TabB base mg c Pt ∧ ∀ L, (Pt, (envOfC x sc L a (.ref c)).qual ++ "<lambda>") ∈ Z.T ∧ ∀ p ∈ Z.T, p.1 = Pt → p.2 = (envOfC x sc L a (.ref c)).qual ++ "<lambda>")
  mkx : ∀ (X : Cx), At P w K mg base X → Room 6 X.A → ∀ (k : Nat) (x : Str), C.exn[k]? = some x → ∀ (e : Expr) (ta : TA) (p pos : Pos), Gl X x → plainN x = true → noStar e = true → PA X [e] ta →
    PMk X (.Call (.Name x p) [e] [] pos) (fun σ H Q => ta σ H fun vs H1 => ∃ P F0 F ι σ' ρ st y, Rel Z P F0 F ι σ' H1 ρ st ∧ Reps Z.K F ι [y] vs ∧ ∀ cls d H', ExnOk Z P F0 F ι k y st cls d H' → Q cls d H')
  rf : ∀ (X : Cx) (c Pt : Addr), At P w K mg base X → X.env.code = .ref c → LamX.TabB base mg c Pt → (Pt, X.env.qual ++ "<lambda>") ∈ Z.T → (∀ p ∈ Z.T, p.1 = Pt → p.2 = X.env.qual ++ "<lambda>") →
    ∀ y k els, (y, k, els) ∈ C.rfs → Gl X y → ∀ lv, Room (lv + 4) X.A → ∀ (t : XK → TE) (body : Expr) (scope : Scope) (lpos p pos : Pos), LamX.lamSB X.env.scope scope = true →
    (∀ (A : Around) (outer : List PySem.Env) (s : Shared) (H : Hp) (E : XK) (f c' : Addr), Room (lv + 2) (A.deeper (LamX.lamEnv X scope s.heap.objs.size f c')) → PE (LamX.lamCx X A outer s H E scope f c') body (t E)) →
    PE X (.Call (.Name y p) [.Lambda noArgs body scope lpos] [] pos) (LamX.tLam Z.T (TRf Z k els) t)
section
variable {Z : Fx} {C : CC} {T : List CDef} {P : Program} {w : World} {K : PySem.W.Frag} {mg : Str → Option Value} {base : Heap}
theorem run_step {T : List CDef} {d i : Nat} {xs : List PV} {st : Sto} {D : CDef} (h : T[i]? = some D) (hl : xs.length = D.np) : runP T (d + 1) i xs st = exs D.body (runP T d) (newEnv D.nl xs) st (fun _ st => .ok .non st) (fun _ _ => .fail) := by
  unfold runP
  rw [h, hl]
  show cnd (Nat.beq D.np D.np) _ _ = _
  rw [Nat.beq_refl]; rfl
/-- what fn_all tells of one def -/
abbrev FnP (Z : Fx) (C : CC) (T : List CDef) (P : Program) (w : World) (K : PySem.W.Frag) (mg : Str → Option Value) (base : Heap) (d i : Nat) (x : Str) (ps : List Str) : Prop :=
  ∃ a fd, mg x = some (.ref a) ∧ PySem.W.keepIn K (.ref a) = true ∧ Binds K fd ps [] ∧ FnOk P w K mg base (L2.CX P w) (6 * d + 6) a fd ps (spD Z (runP T d) i ps.length) ∧ ∀ ks gp, (i, ks, gp) ∈ C.kws → KB fd ps ks gp
theorem fn_len {d i : Nat} {ps : List Str} {vs : List V} {H : Hp} {Q : VK} {E : XK} (q : spD Z (runP T d) i ps.length vs H Q E) : vs.length = ps.length := by
  obtain ⟨P, F, ι, st, xs, r, rs, e, _⟩ := q
  rw [rs.len, e]
theorem sw_of (G : Prg Z C T P w K mg base) {d : Nat} (ih : ∀ i x ps, C.fns[i]? = some (x, ps) → FnP Z C T P w K mg base d i x ps) {x : Str} {a : Addr} {sc : Scope} {N ps : List Str} {mkr : Bool} {cdv : Value} {A : Around} {outer : List PySem.Env} {s : Shared} {H : Hp} {E : XK} (h6 : FnScope N ps sc)
    (hr : Room (6 * d + 11) (A.deeper (envOfC x sc s.heap.objs.size a cdv)))
    (h11 : mkr = true → ∃ c Pt, cdv = .ref c ∧ LamX.TabB base mg c Pt ∧ ∀ L, (Pt, (envOfC x sc L a (.ref c)).qual ++ "<lambda>") ∈ Z.T ∧ ∀ p ∈ Z.T, p.1 = Pt → p.2 = (envOfC x sc L a (.ref c)).qual ++ "<lambda>") :
    Sw Z { C with N := N, mks := if mkr = true then some sc else none } (runP T d) (6 * d + 6) sc (cxOf (L2.CX P w) P w K mg base N x sc a cdv A outer s H E) E := by
  have tk : Takes (cxOf (L2.CX P w) P w K mg base N x sc a cdv A outer s H E) (fun cls d _ H => E cls d H) := takes_of rfl rfl rfl rfl
  have rf : (if mkr = true then some sc else none) = some sc → ∀ y k els, (y, k, els) ∈ C.rfs → Gl (cxOf (L2.CX P w) P w K mg base N x sc a cdv A outer s H E) y → ∀ (t : XK → TE) (body : Expr) (scope : Scope) (lpos p pos : Pos), LamX.lamSB sc scope = true →
      (∀ (A' : Around) (outer' : List PySem.Env) (s' : Shared) (H' : Hp) (E' : XK) (f c' : Addr), Room (6 * d + 6 + 2) (A'.deeper (LamX.lamEnv (cxOf (L2.CX P w) P w K mg base N x sc a cdv A outer s H E) scope s'.heap.objs.size f c')) → PE (LamX.lamCx (cxOf (L2.CX P w) P w K mg base N x sc a cdv A outer s H E) A' outer' s' H' E' scope f c') body (t E')) →
      PE (cxOf (L2.CX P w) P w K mg base N x sc a cdv A outer s H E) (.Call (.Name y p) [.Lambda noArgs body scope lpos] [] pos) (LamX.tLam Z.T (TRf Z k els) t) := by
    intro hm y k els hy gy t bd scope lpos p pos hl hb
    cases mkr with
    | false => exact absurd (show (none : Option Scope) = some _ from hm) (by simp)
    | true =>
      obtain ⟨c, Pt, e1, e2, e3⟩ := h11 rfl
      subst e1
      have at' : At P w K mg base (cxOf (L2.CX P w) P w K mg base N x sc a (.ref c) A outer s H E) := ⟨rfl, rfl, rfl, rfl, rfl, rfl⟩
      have g1 := G.rf (cxOf (L2.CX P w) P w K mg base N x sc a (.ref c) A outer s H E) c Pt at' rfl e2
      have q1 := (e3 s.heap.objs.size).1
      have q2 := (e3 s.heap.objs.size).2
      have g2 := g1 q1 q2 y k els hy gy (6 * d + 6) (hr.mono (by omega))
      exact g2 t bd scope lpos p pos hl hb
  have mk : ∀ (k : Nat) (y : Str), C.exn[k]? = some y → ∀ (e : Expr) (ta : TA) (p pos : Pos), Gl (cxOf (L2.CX P w) P w K mg base N x sc a cdv A outer s H E) y → plainN y = true → noStar e = true → PA (cxOf (L2.CX P w) P w K mg base N x sc a cdv A outer s H E) [e] ta →
      PMk (cxOf (L2.CX P w) P w K mg base N x sc a cdv A outer s H E) (.Call (.Name y p) [e] [] pos) (fun σ H Q => ta σ H fun vs H1 => ∃ P F0 F ι σ' ρ st y, Rel Z P F0 F ι σ' H1 ρ st ∧ Reps Z.K F ι [y] vs ∧ ∀ cls d H', ExnOk Z P F0 F ι k y st cls d H' → Q cls d H') := by
    have at' : At P w K mg base (cxOf (L2.CX P w) P w K mg base N x sc a cdv A outer s H E) := ⟨rfl, rfl, rfl, rfl, rfl, rfl⟩
    exact G.mkx _ at' (hr.mono (by omega))
  have cw : Cw Z { C with N := N, mks := if mkr = true then some sc else none } (runP T d) (6 * d + 6) sc (cxOf (L2.CX P w) P w K mg base N x sc a cdv A outer s H E) E := by
    refine ⟨?_, ?_, ?_, ?_, ?_, ?_, ?_, ?_, ?_, ?_, ?_, ?_⟩
    · exact G.k
    · rfl
    · rfl
    · rfl
    · exact h6.nd
    · exact tk
    · exact hr.mono (by omega)
    · exact G.bl
    · exact G.gl
    · exact ih
    · exact G.dt
    · exact rf
  exact ⟨cw, passes_of rfl, fun _ => rfl, h6.kind, mk⟩
theorem fn_step (G : Prg Z C T P w K mg base) {d : Nat} (ih : ∀ i x ps, C.fns[i]? = some (x, ps) → FnP Z C T P w K mg base d i x ps) (i : Nat) (x : Str) (ps : List Str) (h : C.fns[i]? = some (x, ps)) : FnP Z C T P w K mg base (d + 1) i x ps := by
  obtain ⟨a, fd, params, body, sc, N, ob, mkr, n, D, h1, h2, h3, h4, h5, h6, h7, h8, h9, h10, h11⟩ := G.fn i x ps h
  refine ⟨a, fd, h1, h2, h3, ?_, h4⟩
  obtain ⟨oc, od, dV, kV, doc, pm, an, cdv, ct, osl, rfl, lk, hcd, _, _⟩ := h5.ex
  refine fn_of (k := 6 * d + 11) lk hcd h6 (fun vs H Q E q => fn_len q) fun A outer s H vs Q E hr hsp => ?_
  obtain ⟨P0, F, ι, st, xs, r0, rs, e, cp⟩ := hsp
  rw [run_step h7 (e.trans h8.symm), exs_eq] at cp
  have sw := sw_of (outer := outer) (H := H) (E := E) G ih h6 hr h11
  have snd := cmpE_snd (Z := Z) (C := { C with N := N, mks := if mkr = true then some sc else none }) (f := runP T d) (lv := 6 * d + 6) n
  refine ⟨tS Z E (runP T d) D.body, seqL_snd (fun s c hs => cmpS_snd snd sw .rfl' hs) h10, ?_⟩
  exact ⟨P0, F, F, ι, newEnv D.nl xs, st, rel_start r0 rs (by rw [h9, rs.len, e]), cpost_go cp⟩
theorem fn_zero (G : Prg Z C T P w K mg base) (i : Nat) (x : Str) (ps : List Str) (h : C.fns[i]? = some (x, ps)) : FnP Z C T P w K mg base 0 i x ps := by
  obtain ⟨a, fd, params, body, sc, N, ob, mkr, n, D, h1, h2, h3, h4, h5, h6, h7, h8, h9, h10, h11⟩ := G.fn i x ps h
  refine ⟨a, fd, h1, h2, h3, ?_, h4⟩
  obtain ⟨oc, od, dV, kV, doc, pm, an, cdv, ct, osl, rfl, lk, hcd, _, _⟩ := h5.ex
  refine fn_of (k := 5) lk hcd h6 (fun vs H Q E q => fn_len q) fun A outer s H vs Q E hr hsp => ?_
  obtain ⟨P0, F, ι, st, xs, r0, rs, e, cp⟩ := hsp
  exact (show False from cp).elim
/-- every def keeps the promise that its plain reading makes -/
theorem fn_all (G : Prg Z C T P w K mg base) : ∀ (d i : Nat) (x : Str) (ps : List Str), C.fns[i]? = some (x, ps) → FnP Z C T P w K mg base d i x ps := by
  intro d
  induction d with
  | zero => exact fn_zero G
  | succ d ih => exact fn_step G ih
end
end Cv

set_option Elab.async false
set_option linter.all false
set_option maxRecDepth 100000
set_option maxHeartbeats 4000000
/-! Core20: the def that tells an error's field. -/
namespace Cv
open PySem PySem.Spec PyProof.Rows L2
/-- the text: try: a() / except B as n: return n.fld / return els -/
def told (a B n fld els : Str) (p : Nat → Pos) (j : Nat) : List Stmt :=
  [.Try [.Expr (.Call (.Name a (p 0)) [] [] (p 1)) (p 2)] [.ExceptHandler (some (.Name B (p 3))) (some n) [.Return (some (.Attribute (.Name n (p 4)) fld (p 5))) (p 6)] (p 7)] [] [] (p 8), .Return (some (.Constant (.str els) j (p 9))) (p 10)]
/-- what is told of it -/
structure RfOk (Z : Fx) (K : PySem.W.Frag) (mg : Str → Option Value) (y : Str) (k : Nat) (els : Str) : Prop where
  ex : ∃ (g : Addr) (fd : FuncData) (pg : Arguments) (sg : Scope) (a B n fld : Str) (p : Nat → Pos) (j : Nat) (CA : Addr), mg y = some (.ref g) ∧ L2.FunD K y y pg (told a B n fld els p j) sg [] [] g fd ∧ Binds K fd [a] [] ∧ FnScope [a, n] [a] sg ∧
    sg.names.lookup a = some .local ∧ sg.names.lookup n = some .local ∧ sg.names.lookup B = some .globalImplicit ∧ plainN a = true ∧ plainN n = true ∧ plainN B = true ∧ plainN y = true ∧ mg B = some (.ref CA) ∧ Z.X[k]? = some (CA, fld) ∧ XfC K CA ∧ PySem.W.findIn K (.ref CA) fld = some none ∧
    PySem.W.exmOne K (.ref CA) (.ref CA) = some true
section
variable {Z : Fx} {X : Cx} {y a B n fld els q : Str} {k : Nat} {sg : Scope} {g CA : Addr} {cdv : Value} {p : Nat → Pos} {j : Nat}
theorem takes_len {W : WX} (t : Takes X W) : Takes X (fun cls d σ H => σ.length = X.N.length → W cls d σ H) := fun u s' ⟨a, B, sI, pins, σ, H, cls, d, e, I, nb, up, sky, na, os, ag, w⟩ => t u s' ⟨a, B, sI, pins, σ, H, cls, d, e, I, nb, up, sky, na, os, ag, w I.len⟩
theorem told_gives (hK : X.K = Z.K) (S : FnScope [a, n] [a] sg) (ha : sg.names.lookup a = some .local) (hn : sg.names.lookup n = some .local) (hB : sg.names.lookup B = some .globalImplicit) (pa : plainN a = true) (pn : plainN n = true) (pB : plainN B = true)
    (mB : X.mg B = some (.ref CA)) (hX : Z.X[k]? = some (CA, fld)) (xf : XfC X.K CA) (nf : PySem.W.findIn X.K (.ref CA) fld = some none) (em : PySem.W.exmOne X.K (.ref CA) (.ref CA) = some true) :
    LamX.GivesTo X [a, n] y sg g cdv (told a B n fld els p j) a q (TRf Z k (.str els)) := by
  intro f c' s H Q tl act hc h
  obtain ⟨w, hw, h⟩ := h
  have ew : w = .str els := (hw (fun _ => none) []).str_of
  subst ew
  obtain ⟨a1, a2, a3⟩ := plainN_ok pa
  obtain ⟨n1, n2, n3⟩ := plainN_ok pn
  obtain ⟨b1, b2, b3⟩ := plainN_ok pB
  refine ⟨_, pss_cons (ps_try_as (X := (cxOf C8.CX0 X.prog X.w X.K X.mg X.base [a, n] y sg g cdv X.A X.stack s H C8.E0).nox) (i := 1) (n := n) (x := B) (c := .ref CA) (Wout := fun _ _ _ _ => False)
      (tb := fun W D σ H => ∃ Ech : XK, (∀ cls d σ' H', Ech cls d H' → σ'.length = 2 → W cls d σ' H') ∧ σ = L2.start [a, n] [.ref f] ∧ H c' = some (LamX.CodeO c' q) ∧ tl Ech H fun _ H' => D.nx σ H')
      (ts := fun e cls d => tRet (tXf e cls d CA fld (tVar 1)))
      rfl rfl S.nd rfl hn ⟨hB, b1, .inl mB⟩ takes0 (fun W pn' xe tk _ => ?_) (fun e oe cls d pn' hz hf => ?_)) (pss_one (ps_ret pe_str)), ?_⟩
  · refine ⟨fun pins s' σ H' D I h' => ?_⟩
    obtain ⟨Ech, hW, h1, h2, h3⟩ := h'
    have hp := act (fun cls d σ H => σ.length = 2 → W cls d σ H) pn' xe Ech (p 0) (p 1) (takes_len tk) hW
    have hq := pss_one (ps_expr (pos := p 2) hp)
    subst h1
    exact hq.run pins s' _ H' D I ⟨rfl, h2, h3⟩
  · exact pss_one (ps_ret (pe_xf xf nf hz hf (pe_var (i := 1) rfl (.inl hn) n1 n2)))
  · refine ⟨_, fun cls d σ' H' hE hl => ?_, rfl, hc, h⟩
    obtain ⟨CA', fd, v, dx, e1, e2, e3, e4, e5⟩ := hE
    rw [hX] at e1
    cases e1
    subst e2 e3
    refine ⟨true, em, fun _ e he => ?_, fun z => absurd z (by simp)⟩
    refine ⟨.ref e, List.getElem?_set_self (by rw [hl]; decide), rfl, rfl, dx, _, v, rfl, e4, ?_, e5⟩
    show (match fld == fld with | true => some v | false => _) = _
    rw [beq_self_eq_true]
/-- told(lambda: e), in a def that makes lambdas -/
theorem rf_of {P : Program} {w : World} {K : PySem.W.Frag} {mg : Str → Option Value} {base : Heap} (hK : K = Z.K) (R : RfOk Z K mg y k els) (at' : At P w K mg base X) {c Pt : Addr} (hc : X.env.code = .ref c) (tb : LamX.TabB base mg c Pt) (hT : (Pt, X.env.qual ++ "<lambda>") ∈ Z.T) (hu : ∀ p ∈ Z.T, p.1 = Pt → p.2 = X.env.qual ++ "<lambda>")
    (gy : Gl X y) {lv : Nat} (hr : Room (lv + 4) X.A) (t : XK → TE) (body : Expr) (scope : Scope) (lpos pc pos : Pos) (hl : LamX.lamSB X.env.scope scope = true)
    (hb : ∀ (A : Around) (outer : List PySem.Env) (s : Shared) (H : Hp) (E : XK) (f c' : Addr), Room (lv + 2) (A.deeper (LamX.lamEnv X scope s.heap.objs.size f c')) → PE (LamX.lamCx X A outer s H E scope f c') body (t E)) :
    PE X (.Call (.Name y pc) [.Lambda noArgs body scope lpos] [] pos) (LamX.tLam Z.T (TRf Z k (.str els)) t) := by
  obtain ⟨prog, w', K', mg', base', A, N, s0, H0, env, outer, stack, exx, fn, calm, pn, xe⟩ := X
  obtain ⟨rfl, rfl, rfl, rfl, rfl, rfl⟩ := at'
  obtain ⟨g, fd, pg, sg, a, B, n, fld, p, j, CA, r1, r2, r3, r4, r5, r6, r7, r8, r9, r10, r11, r12, r13, r14, r15, r16⟩ := R.ex
  obtain ⟨oc, od, dV, kV, doc, pm, an, cdv, ct, osl, rfl, lk, hcd, _, _⟩ := r2.ex
  exact LamX.pe_lamcall (k := lv + 2) (Ng := [a, n]) (TT := TRf Z k (.str els)) (t := t) gy r1 r2.kp lk hcd r3 r4 rfl (.inl r5) (told_gives hK r4 r5 r6 r7 r8 r9 r10 r12 r13 r14 r15 r16) tb hc hT hu hr (LamX.lamS_by hl) rfl (fun q cl pm cv ctv => rfl) (fun A outer s H E f c' rm => hb A outer s H E f c' rm)
    (plainN_ok r11).1 (plainN_ok r8).1 (plainN_ok r8).2.1
end
end Cv

set_option Elab.async false
set_option linter.all false
set_option maxRecDepth 100000
set_option maxHeartbeats 4000000
/-! Core21: an error of the program's own is made: its __init__ calls super().__init__, then stores a field. -/
namespace Cv
open PySem PySem.Spec PyProof.Rows L2
/-- the text of __init__ -/
def iniT (self prm fld : Str) (p : Nat → Pos) : List Stmt :=
  [.Expr (.Call (.Attribute (.Call (.Name "super" (p 0)) [] [] (p 1)) "__init__" (p 2)) [.Name prm (p 3)] [] (p 4)) (p 5), .Assign [.Attribute (.Name self (p 6)) fld (p 7)] (.Name prm (p 8)) (p 9)]
/-- what is told of the class at C and its __init__ at fI -/
structure IniOk (P : Program) (K : PySem.W.Frag) (mg : Str → Option Value) (C fI : Addr) (fld : Str) : Prop where
  ex : ∃ (oc : Value) (od : Option Addr) (osl : Array (Option Value)) (nm qual : Str) (params : Arguments) (sc : Scope) (dV kV doc pm : Value) (an : Option Addr) (cda : Addr) (ct : Value) (cc : Addr) (self prm : Str) (p : Nat → Pos) (ar : Arg) (ccl : Value) (cdd : Option Addr) (vs : Array Value) (ccs : Array (Option Value)) (file : Str) (tf : Tok) (cl : Value) (cld : Option Addr) (csl : Array (Option Value)) (cdD : ClassData),
    K.lookup fI = some ⟨oc, od, .func (PySem.W.ksFn nm qual params (iniT self prm fld p) sc dV kV doc pm an (.ref cda) ct cc), osl⟩ ∧ PySem.W.codeIn K (.ref cda) qual = true ∧
    (∀ us : List Value, us.length = 2 → bindArgs (PySem.W.ksFn nm qual params (iniT self prm fld p) sc dV kV doc pm an (.ref cda) ct cc) ⟨us, []⟩ = pure ([self, prm].zip us)) ∧
    (params.posonlyargs ++ params.args).head? = some ar ∧ ar.arg = self ∧ self ≠ prm ∧ ((p 2).endLine == (p 4).line) = true ∧ plainN self = true ∧ plainN prm = true ∧
    sc.names.lookup self = some .local ∧ sc.names.lookup prm = some .local ∧ sc.names.lookup ("super" : Str) = some .globalImplicit ∧ sc.names.lookup ("__class__" : Str) = some .free ∧ (∀ x ∈ sc.names, x.2 ≠ .cell) ∧ sc.kind = .function ∧ sc.isCoroutine = false ∧ sc.isGenerator = false ∧
    K.lookup cda = some ⟨ccl, cdd, .fields vs, ccs⟩ ∧ vs[2]? = some (.str file tf) ∧ ((P.main.file : Str) == file) = true ∧ K.lookup cc = some ⟨cl, cld, .cell (some (.ref C)), csl⟩ ∧ PySem.W.clsIn K C = some cdD ∧ PySem.W.mroIn K C (.ref C) = some true ∧
    mg "super" = none ∧ (P.main.scope.names.lookup ("super" : Str)).isSome = false ∧ PySem.W.nsIn K cStatics "thirdparty.any" = some none ∧ PySem.W.ks_superIn K C C "__init__" = some (some (.builtin "ValueError.__init__")) ∧ PySem.W.subIn K (.ref C) (.type "ValueError") = some true ∧ PySem.W.findIn K (.ref C) fld = some none
section
open PySem.W
variable {prog : Program} {w : World} {A : Around} {E : Value → Shared → Prop} {h : Heap} {g : Array GenState} {d : Drawn} {t : Nat} {os : OsState}
/-- the bound __init__ of ValueError, called -/
theorem mw_call {m a C t0 : Addr} {u : Value} {Q : Value → Shared → Prop} {K : Frag} (T : OexC K C) (X : K.In h) (hm : h.get? m = some (kxs_mw "ValueError.__init__" a)) (he : h.get? a = some (HandSPX.excO C t0))
    (hq : ∀ h' t1, (∀ b o, b ≠ a → h.get? b = some o → h'.get? b = some o) → h'.get? a = some (HandSPX.excO C t1) → Q .none ⟨h', g, d, t, os⟩) : wpAny (model prog w) A (call (.ref m) [u]) Q E ⟨h, g, d, t, os⟩ := by
  obtain ⟨nm, q, N, bs, bm, sn, sub, ab, col, dd, k0, k1, k2, k3, k5, hC, hbm⟩ := T.cls
  refine wpAny_call (codeAny_of_tree ?_)
  show wpAny _ A.in1 (callAny (.ref m) ⟨[u], []⟩) _ _ _
  simp only [callAny]
  refine wpAny_bind (wpAny_load hm ?_)
  have c1 : (Value.type "method-wrapper" == Value.type "method" || Value.type "method-wrapper" == Value.type "builtin_function_or_method" || Value.type "method-wrapper" == Value.type "method-wrapper") = true := by decide
  simp only [c1, if_true]
  refine KFB.if_so (by decide) ?_
  refine wpAny_bind (check_bound_init F.excBase_ValueError.toExcCallFacts (X _ _ hC) he rfl ?_)
  refine wpAny_bind (wpAny_pure (wpAny_pure ?_))
  refine ⟨plainId_quiet F.excBase_ValueError.init.plain _, codeAny_builtin F.excBase_ValueError.initEntry ?_⟩
  exact exc_init_tree (cls := .ref C) (t0 := t0) (dv := none) (c2 := .none) (c3 := .none) (b4 := .bool false) he (by show 1 ≤ sizeLine; decide) fun h' k e _ => hq h' _ k e
theorem ns_keep {h h' : Heap} {L : Addr} {m : Str → Option Value} (hn : h.Ns L m) (k : ∀ o, h.get? L = some o → h'.get? L = some o) : h'.Ns L m := by
  obtain ⟨o, es, ep, e, r⟩ := hn
  exact ⟨o, es, ep, k _ e, r⟩
/-- a name of one's own is read -/
theorem own_name {M : Model} {s : Shared} {env : PySem.Env} {m : Str → Option Value} {x : Str} {pos : Pos} {v : Value} {Q : Value → Shared → Prop} (hk : env.scope.kind = .function) (hl : env.kindOf x = some .local) (hn : s.heap.Ns env.locals m) (hv : m x = some v) (hp : plainN x = true) (q : Q v s) :
    wpAny M A (eval (.Name x pos) env) Q E s := wpAny_Name (wpAny_loadName_local hk hl hn hv q) (plainN_ok hp).1
end
theorem mc_eq {o : Expr} {name : Str} {apos pos : Pos} {env : PySem.Env} {ov : Value} {e : Sem Value} (h : (apos.endLine == pos.line) = true) :
    methodCall o name apos pos env ov 1 [(false, e)] [] = (do let (f, first) ← holding [ov] (getMethod ov name (do return (← importBound o env).getD true)); callWith pos f first [(false, e)] []) := by
  unfold methodCall
  have f1 : methodCallForm 1 [(false, e)] [] = true := rfl
  rw [f1]
  have f2 : methodCallPos true o env apos pos = pure pos := by unfold methodCallPos; rw [h]; rfl
  rw [f2]
  simp only [pure_bind]
  rfl
theorem call_eq {o : Expr} {name : Str} {apos pos : Pos} {env : PySem.Env} {x : Str} {px : Pos} (h : (apos.endLine == pos.line) = true) : eval (.Call (.Attribute o name apos) [.Name x px] [] pos) env = (do
      let ov ← attributeBase o name env (eval o env)
      standAt apos.atName
      let (f, first) ← holding [ov] (getMethod ov name (do return (← importBound o env).getD true))
      callWith pos f first (backTo pos (starEach [.Name x px] env)) []) := by
  have e1 : eval (.Call (.Attribute o name apos) [.Name x px] [] pos) env = (do
      let ov ← attributeBase o name env (eval o env)
      standAt apos.atName
      methodCall o name apos pos env ov 1 (backTo pos (starEach [.Name x px] env)) []) := rfl
  rw [e1]
  refine bind_congr fun ov => bind_congr fun _ => ?_
  exact mc_eq h
section
open PySem.W
variable {X : Cx} {pins : List (Addr × Obj)} {σ : L2.St} {H : Hp} {A : Around} {hp : Heap} {g : Array GenState} {d : Drawn} {t : Nat} {os : OsState} {a C fI t0 : Addr} {u : Value} {fld : Str} {R : Result → Shared → Prop}
/-- __init__ runs -/
theorem init_raw (I : L2.Inv X pins σ H ⟨hp, g, d, t, os⟩) (T : OexC X.K C) (S : IniOk X.prog X.K X.mg C fI fld) (ha : hp.get? a = some (HandSPX.excO C t0)) (hKa : ∀ o, X.K.lookup a ≠ some o) (hr : A.depth < recursionLimit)
    (hq : ∀ h' tk dx, (∀ b o, b ≠ a → hp.get? b = some o → h'.get? b = some o) → hp.objs.size ≤ dx → dx ≠ a → (∃ t1, h'.get? a = some ({ cls := .ref C, dict := some dx, data := .fields #[.ref t1, .none, .none, .none, .bool false, .none] } : Obj)) → h'.Ns1 dx (fun y => if y = fld then some u else none) → R (.ok (.ret .none)) ⟨h', g, d, tk, os⟩) :
    codeAny (model X.prog X.w) A (.call (.ref fI) ⟨[.ref a, u], []⟩) R ⟨hp, g, d, t, os⟩ := by
  obtain ⟨oc, od, osl, nm, qual, params, sc, dV, kV, doc, pm, an, cda, ct, cc, self, prm, p, ar, ccl, cdd, vs, ccs, file, tf, cl, cld, csl, cdD, x1, x2, x3, x4, x5, x6, xl, x7, x8, x9, x10, x11, x12, x13, x14, x15, x16, x17, x18, x19, x20, x21, x22, x23, x24, x25, x26, x27, x28⟩ := S.ex
  have KX : X.K.In hp := I.kIn
  have aL : a < hp.objs.size := Heap.lt_size ha
  refine PySem.ks_codeAny_call_defAt (fd := ksFn nm qual params (iniT self prm fld p) sc dV kV doc pm an (.ref cda) ct cc) (body := iniT self prm fld p) (binds := [self, prm].zip [.ref a, u]) hr (KX _ _ x1) rfl I.nolimit (codeRec_of KX x2) rfl (.of_eq (x3 [.ref a, u] rfl)) x13 (fun y hy => ?_) (fun h1 hns k1 => ?_) x15 x16 x14
  · have hy' : y = (self, Value.ref a) ∨ y = (prm, u) := by simpa using hy
    rcases hy' with rfl | rfl
    · exact x9
    · exact x10
  have e1 : (([self, prm].zip [Value.ref a, u]).reverse.lookup self) = some (.ref a) := by
    have ne : (self == prm) = false := beq_eq_false_iff_ne.mpr x6
    show (match self == prm with | true => some u | false => (match self == self with | true => some (Value.ref a) | false => none)) = _
    rw [ne, beq_self_eq_true]
  have e2 : (([self, prm].zip [Value.ref a, u]).reverse.lookup prm) = some u := by
    show (match prm == prm with | true => some u | false => _) = _
    rw [beq_self_eq_true]
  have K1 : X.K.In h1 := fun b o e => k1 b o (KX b o e)
  have ha1 : h1.get? a = some (HandSPX.excO C t0) := k1 _ _ ha
  have hLa : hp.objs.size ≠ a := Nat.ne_of_gt aL
  have lk : ∀ {x : Str}, (callEnv (ksFn nm qual params (iniT self prm fld p) sc dV kV doc pm an (.ref cda) ct cc) hp.objs.size fI).kindOf x = sc.names.lookup x := fun {x} => rfl
  obtain ⟨mb, b1, b2⟩ := I.mod.blt
  have gl1 : ∀ b o, X.base.get? b = some o → h1.get? b = some o := fun b o e => k1 b o (I.bk b o e)
  obtain ⟨oD, hD1, hD2⟩ : ∃ oD, h1.get? C = some oD ∧ oD.data = .cls cdD := by
    unfold clsIn at x21
    split at x21
    · rename_i c d' cd' sl ho
      cases x21
      exact ⟨_, K1 _ _ ho, rfl⟩
    · cases x21
  -- super().__init__(prm)
  refine PySem.ks_wpAt_execs_cons (PySem.ks_wpAt_Expr_any (PySem.ks_wpAt_MethodCall ?_ (call_eq xl)) (by show (sc.kind == ScopeKind.module && _) = false; rw [x14]; rfl) rfl)
  refine PySem.ks_wpAt_super_base (fd := ksFn nm qual params (iniT self prm fld p) sc dV kV doc pm an (.ref cda) ct cc) (lk.trans x11) (lk.trans x12) (by decide) rfl (K1 _ _ x1) rfl x4 rfl (K1 _ _ x17) rfl x18 x19 x24 ?_
  refine ks_loadName_global x14 (lk.trans x11) (Calls.loadGlobal_builtin (I.mod.glob.keeps gl1) x23 (b1.keeps gl1) ((b2 _ (by decide)).trans (show bootBuiltins "super" = some (.type "super") by decide +kernel)) ⟨rfl, ?_⟩)
  refine wpAny_loadName_free x14 (lk.trans x12) (show (List.lookup _ [(("__class__" : Str), cc)]) = some cc from rfl) ⟨_, K1 _ _ x20, rfl⟩ ?_
  rw [x5]
  refine wpAny_loadName_local x14 (lk.trans x9) hns e1 ?_
  refine PySem.ks_wpAny_isType_cls hD1 hD2 ⟨rfl, ?_⟩
  refine PySem.ks_wpAny_call_super hD1 hD2 ha1 rfl (fun c z => by cases z) (looks_mroIn K1 x22) fun h2 so2 k2 => ?_
  have K2 : X.K.In h2 := fun b o e => k2 b o (K1 b o e)
  have ha2 := k2 _ _ ha1
  have hI2 : Looks (model X.prog X.w) h2 (isInstance (.ref a) (.type "ValueError")) true := (show Looks (model X.prog X.w) h2 (typeOf (.ref a)) (.ref C) from fun A' Q' E' s' k' q' => wpAny_typeOf_ref (k' _ _ ha2) q').andThen (looks_subIn K2 x27)
  have neAC : a ≠ C := fun z => by
    rw [z] at ha1
    rw [ha1] at hD1
    cases hD1
    cases hD2
  have hal : alongIn X.K "__init__" ((cdD.mro.dropWhile (· != .ref C)).drop 1) = some (some (.builtin "ValueError.__init__")) := by
    have := x26
    unfold ks_superIn at this
    rw [x21] at this
    exact this
  refine kxs_getMethod kxs_ValueError so2 (looks_opaque K2 x25) (l₀ := cdD.mro) (fun A' Q' E' s' k' q' => wpAny_bind ((looks_clsIn K2 x21) A' _ E' s' k' (wpAny_pure q'))) rfl K2 hal hI2 neAC (by decide) ?_
  have k3 : ∀ b o, h2.get? b = some o → (h2.push (kxs_mw "ValueError.__init__" a)).get? b = some o := fun b o e => Heap.get?_push_of_some _ e
  have hm3 : (h2.push (kxs_mw "ValueError.__init__" a)).get? h2.objs.size = some (kxs_mw "ValueError.__init__" a) := Heap.get?_push_at rfl rfl
  have n3 : (h2.push (kxs_mw "ValueError.__init__" a)).Ns hp.objs.size (fun x => ([self, prm].zip [Value.ref a, u]).reverse.lookup x) := ns_keep hns fun o e => k3 _ _ (k2 _ _ e)
  refine kxs_callWith (i := "ValueError.__init__") (x := a) rfl (Calls.evalArgs_plain (Calls.spliced_cons (own_name x14 (lk.trans x10) n3 e2 x8 (Calls.spliced_nil ⟨hm3, ?_⟩))))
  have K3 : X.K.In (h2.push (kxs_mw "ValueError.__init__" a)) := fun b o e => k3 b o (K2 b o e)
  refine mw_call T K3 hm3 (k3 _ _ ha2) fun h4 t1 k4 ha4 => ?_
  -- self.fld = prm
  have K4 : X.K.In h4 := fun b o e => k4 b o (fun z => hKa o (by rw [← z]; exact e)) (K3 b o e)
  have n4 : h4.Ns hp.objs.size (fun x => ([self, prm].zip [Value.ref a, u]).reverse.lookup x) := ns_keep n3 fun o e => k4 _ _ hLa e
  obtain ⟨nm', q', N', bs', bm', sn', sub', ab', col', dd', q0, q1, q2, q3, q5, hC', hbm⟩ := T.cls
  have hcl : clsIn X.K C = some { name := nm', bases := bs', mro := .ref C :: bm', ns := N', qualname := q', hasDict := true, slotNames := sn', subclasses := sub', abstract := ab', collection := col', hasDel := false } := by unfold clsIn; rw [hC'] <;> rfl
  refine PySem.ks_wpAt_execs_cons (PySem.ks_wpAt_Assign_Attr (wpAt_of_wpAny (own_name x14 (lk.trans x10) n4 e2 x8 (own_name x14 (lk.trans x9) n4 e1 x7 ?_))) rfl)
  refine set_plain K4 (ox := { cls := .ref C, dict := none, data := .fields #[.ref t1, .none, .none, .none, .bool false, .none] }) (od := none) ⟨ha4, rfl, rfl, trivial⟩ T.sa ?_
  refine HandSPX.exc_osa K4 ha4 hcl (show HandSPX.refsVE (.ref C :: bm') = true from hbm) rfl x28 (fun h5 tk5 dx k5 dn dne hx5 hn5 => ?_)
  refine wpAt_of_wpAny (wpAny_execs_nil ?_)
  have szL : hp.objs.size < h4.objs.size := by
    obtain ⟨oL, _, _, e, _⟩ := n4
    exact Heap.lt_size e
  exact hq h5 tk5 dx (fun b o hb e => k5 b o hb (k4 b o hb (k3 b o (k2 b o (k1 b o e))))) (Nat.le_trans (Nat.le_of_lt szL) dn) dne ⟨t1, hx5⟩ hn5
end
end Cv

set_option Elab.async false
set_option linter.all false
set_option maxRecDepth 100000
set_option maxHeartbeats 4000000
/-! Core22: raise C(e), C the program's own. -/
namespace Cv
open PySem PySem.Spec PyProof.Rows L2
section
variable {X : Cx} {pins : List (Addr × Obj)} {σ : L2.St} {H : Hp} {a C dx : Addr} {fld : Str} {y : V} {u : Value} {hp h5 : Heap} {g : Array GenState} {d : Drawn} {t : Nat} {os : OsState}
/-- what the heap is told to be behind __init__ -/
def afterI (H : Hp) (a C dx : Addr) (fld : Str) (y : V) : Hp := upd (upd H dx (exd dx [(fld, y)])) a (exo a C (some dx))
theorem after_ne {b : Addr} (h1 : b ≠ a) (h2 : b ≠ dx) : afterI H a C dx fld y b = H b := by unfold afterI; rw [upd_ne h1, upd_ne h2]
theorem after_a : afterI H a C dx fld y a = some (exo a C (some dx)) := by unfold afterI; exact upd_same
theorem after_d (h : dx ≠ a) : afterI H a C dx fld y dx = some (exd dx [(fld, y)]) := by unfold afterI; rw [upd_ne h]; exact upd_same
structure Aft (H : Hp) (hp h5 : Heap) (a C dx : Addr) (fld : Str) (u : Value) : Prop where
  e : H a = some (exo a C none)
  k : ∀ b o, b ≠ a → hp.get? b = some o → h5.get? b = some o
  n : hp.objs.size ≤ dx
  ne : dx ≠ a
  x : ∃ t1 : Addr, h5.get? a = some ({ cls := .ref C, dict := some dx, data := .fields #[.ref t1, .none, .none, .none, .bool false, .none] } : Obj)
  f : h5.Ns1 dx (fun y => if y = fld then some u else none)
theorem Aft.old (A : Aft H hp h5 a C dx fld u) {b : Addr} {o : Obj} (h : hp.get? b = some o) : b ≠ dx := Nat.ne_of_lt (Nat.lt_of_lt_of_le (Heap.lt_size h) A.n)
/-- told objects of other kinds are not those two -/
theorem Aft.keepK (A : Aft H hp h5 a C dx fld u) (hn : H dx = none) {b : Addr} {o : HO} (h : H b = some o) (d : exo a C none ≠ o) : afterI H a C dx fld y b = some o := by
  rw [after_ne (at_ne A.e h d) (ne_of_none h hn)]; exact h
theorem Aft.un (A : Aft H hp h5 a C dx fld u) (hn : H dx = none) (fs : List Addr) : Un fs [] H (afterI H a C dx fld y) hp h5 := by
  have na : ∀ {b : Addr}, H b = none → b ≠ a := fun {b} z q => by rw [q, A.e] at z; cases z
  constructor
  · intro b o z n _ _; exact A.k b o (na n) z
  · intro b o z n _ _; exact ⟨o.slots, A.k b o (na n) z⟩
  · intro b o z n _; rw [after_ne (na n) (A.old z)]; exact n
  · intro b o z _
    rcases Classical.em (b = a) with q | q
    · obtain ⟨t1, hx⟩ := A.x
      exact ⟨_, q ▸ hx⟩
    · exact ⟨o, A.k b o q z⟩
  · intro b xs z; exact A.keepK hn z exo_tup
  · intro b o v z; exact A.keepK hn z exo_frz
  · intro b ps z
    refine ⟨#[], ?_⟩
    have := A.keepK (y := y) hn z exo_tbl
    simpa using this
theorem Aft.hok (A : Aft H hp h5 a C dx fld u) (I : HOk X.prog X.w H hp) (hn : H dx = none) (ry : RelV y u) : HOk X.prog X.w (afterI H a C dx fld y) h5 := by
  intro b o z
  rcases Classical.em (b = a) with q | q
  · subst q
    rw [after_a] at z
    cases z
    obtain ⟨t1, hx⟩ := A.x
    exact exo_ok hx
  rcases Classical.em (b = dx) with q2 | q2
  · subst q2
    rw [after_d q] at z
    cases z
    exact exd_ok A.f (relO_put (fs := []) ry fun _ => True.intro)
  rw [after_ne q q2] at z
  refine (I b o z).stay (fun c v hc w => A.k c v ?_ w) (fun c hc => A.keepK hn hc exo_own) fun c xs hc => A.keepK hn hc exo_tup
  rcases hc with hc | hc
  · rw [hc]; exact q
  · exact at_ne A.e hc exo_own
theorem after_end {H1 : Hp} (ha : H1 a = none) (ne : dx ≠ a) : upd (del (afterI (upd H1 a (exo a C none)) a C dx fld y) a) dx (.xd [(fld, y)]) = upd H1 dx (.xd [(fld, y)]) := by
  funext b
  rcases Classical.em (b = dx) with q | q
  · rw [q, upd_same, upd_same]
  rw [upd_ne q, upd_ne q]
  rcases Classical.em (b = a) with q2 | q2
  · rw [q2, del_same, ha]
  · rw [del_ne q2, after_ne q2 q, upd_ne q2]
end
/-- what is told of a class of errors -/
structure ExcOk (Z : Fx) (P : Program) (K : PySem.W.Frag) (mg : Str → Option Value) (k : Nat) (x : Str) : Prop where
  ex : ∃ (C fI : Addr) (fld : Str), mg x = some (.ref C) ∧ Z.X[k]? = some (C, fld) ∧ OexC K C ∧ IniOk P K mg C fI fld ∧ PySem.W.findIn K (.ref C) "__init__" = some (some (.ref fI)) ∧ PySem.W.typeIn K (.ref fI) = some (.type "function")
theorem mk_exn {Z : Fx} {P : Program} {w : World} {K : PySem.W.Frag} {mg : Str → Option Value} {base : Heap} {k : Nat} {x : Str} (S : ExcOk Z P K mg k x) {X : Cx} (at' : At P w K mg base X) (hr : Room 6 X.A) {e : Expr} {ta : TA} {p pos : Pos} (hg : Gl X x) (hp : plainN x = true) (he : noStar e = true) (ha : PA X [e] ta) :
    PMk X (.Call (.Name x p) [e] [] pos) (fun σ H Q => ta σ H fun vs H1 => ∃ P F0 F ι σ' ρ st y, Rel Z P F0 F ι σ' H1 ρ st ∧ Reps Z.K F ι [y] vs ∧ ∀ cls d H', ExnOk Z P F0 F ι k y st cls d H' → Q cls d H') := by
  obtain ⟨prog, w', K', mg', base', A, N, s0, H0, env, outer, stack, exx, fn, calm, pn, xe⟩ := X
  obtain ⟨rfl, rfl, rfl, rfl, rfl, rfl⟩ := at'
  intro pins s σ H Q I h
  obtain ⟨C, fI, fld, m1, m2, T, S1, m3, m4⟩ := S.ex
  obtain ⟨nm, q, N', bs, bm, sn, sub, ab, col, dd, k0, k1, k2, k3, k5, hC, hbm⟩ := T.cls
  refine wpAny_Call_Name_kw (ld_glob I hg m1 ?_ (plainN_ok hp).1)
  refine PySem.W.callWith_K (h₀ := base') I.ok.mod.kin T.kC (thn (ha.run pos pins s σ H _ I h) fun us s1 ⟨vs, H1, I1, r1, q1⟩ => ⟨I1.kIn, ?_⟩) (star_cons he) rfl
  obtain ⟨P, F0, F, ι, σ', ρ, st, y, rel, rs, hQ⟩ := q1
  obtain ⟨v1, vs1, rfl, g1, g2⟩ := rs.uncons
  obtain rfl := g2.nil_of
  obtain ⟨u1, rfl, ru⟩ := r1.one
  show wpAny _ _ (call (.ref C) [u1]) _ _ _
  obtain ⟨hh, g, dr, tk, os⟩ := s1
  have hn : H1 (hh.objs.size + 1) = none := I1.hok.fresh (Nat.le_succ _)
  have kk : ∀ b o, hh.get? b = some o → ((hh.push (PySem.W.kdv_tup [u1])).push (HandSPX.excO C hh.objs.size)).get? b = some o := fun b o z => Heap.get?_push_of_some _ (Heap.get?_push_of_some _ z)
  have hget : ((hh.push (PySem.W.kdv_tup [u1])).push (HandSPX.excO C hh.objs.size)).get? (hh.objs.size + 1) = some (HandSPX.excO C hh.objs.size) := by heap_get
  have I2 := I1.laid (t' := tk) (a := hh.objs.size + 1) (o := exo (hh.objs.size + 1) C none) (h' := (hh.push (PySem.W.kdv_tup [u1])).push (HandSPX.excO C hh.objs.size)) kk (Nat.le_succ _) (exo_ok hget)
  have hKa : ∀ o, K'.lookup (hh.objs.size + 1) ≠ some o := fun o z => by
    have := Heap.lt_size (I1.kIn _ _ z)
    exact Nat.lt_irrefl _ (Nat.lt_of_lt_of_le this (Nat.le_succ _))
  have r2 := (hr.mono (show 1 ≤ 6 by decide)).make C [u1] []
  refine wpAny_call (HandSPX.call_own PySem.F.excBase_ValueError (fun Y => HandSPX.refsVE_contains Y bm hbm) (I1.kIn _ _ hC) (PySem.W.looks_findIn I1.kIn m3) (fun self => PySem.W.bind_fn I1.kIn self m4) (by show 1 ≤ sizeLine; decide)
    (init_raw I2 T S1 hget hKa r2.depth fun h5 tk5 dx k5 n5 ne5 x5 f5 => ?_))
  have af : Aft (upd H1 (hh.objs.size + 1) (exo (hh.objs.size + 1) C none)) ((hh.push (PySem.W.kdv_tup [u1])).push (HandSPX.excO C hh.objs.size)) h5 (hh.objs.size + 1) C dx fld u1 := ⟨upd_same, k5, n5, ne5, x5, f5⟩
  have hd2 : upd H1 (hh.objs.size + 1) (exo (hh.objs.size + 1) C none) dx = none := I2.hok.fresh n5
  have hd1 : H1 dx = none := by rw [upd_ne ne5] at hd2; exact hd2
  refine ⟨rfl, mk_end (fs := [(fld, v1)]) (raises_own T.exC T.tyC) I1 (Nat.le_succ _) kk (af.un (y := v1) hd2 _) (af.hok I2.hok hd2 ru) rfl I2.bare after_a (after_d ne5) hd1 (hQ _ _ _ ?_)⟩
  rw [after_end hn ne5]
  exact ⟨F, ι, dx, v1, C, fld, .rfl', .rfl', rel.r.newOwn hd1, m2, rfl, rfl, upd_same, g1⟩
end Cv

set_option Elab.async false
set_option linter.all false
set_option maxRecDepth 100000
set_option maxHeartbeats 4000000
/-! Core23: what is read off the heap when the top has run. -/
namespace Cv
open PySem PySem.Spec PyProof.Rows L2
/-- a class of errors: its name, its __init__ (name, qualified name, parameters, text, scope), self, the parameter, the field -/
structure IniD where
  x : Str
  name : Str
  qual : Str
  params : Arguments
  body : List Stmt
  scope : Scope
  self : Str
  prm : Str
  fld : Str
abbrev IniV := Option (Str × Str × Arguments × FuncBody × Scope × Addr × Addr)
def iAd (K : PySem.W.Frag) (x : Str) : Addr := He.ma K (He.ga K x) "__init__"
def iniW (K : PySem.W.Frag) (x : Str) : IniV := match K.lookup (iAd K x) with
  | some ⟨_, _, .func fd, _⟩ => some (fd.name, fd.qualname, fd.params, fd.body, fd.scope, fd.globals, fd.builtins)
  | _ => none
def IniD.val (i : IniD) : IniV := some (i.name, i.qual, i.params, .stmts i.body, i.scope, mainGlobals, builtinsNs)
/-- data in the written part -/
def pvV : PV → Value → Bool
  | .non, .none => true
  | .bl a, .bool b => a == b
  | .int i, .int j _ => decide (i = j)
  | .str a, .str b _ => decide (a = b)
  | _, _ => false
theorem pvV_ok {K : PySem.W.Frag} {v : PV} {u : Value} (h : pvV v u = true) : ∃ w, RelV w u ∧ ∀ F ι, Rep K F ι v w := by
  unfold pvV at h
  split at h
  · exact ⟨.non, rfl, fun _ _ => .non⟩
  · rename_i a b
    have e : a = b := by simpa using h
    subst e
    exact ⟨.bl a, rfl, fun _ _ => .bl⟩
  · rename_i i j t
    have e : i = j := of_decide_eq_true h
    subst e
    exact ⟨.int i, ⟨t, rfl⟩, fun _ _ => .int⟩
  · rename_i a b t
    have e : a = b := of_decide_eq_true h
    subst e
    exact ⟨.str a, ⟨t, rfl⟩, fun _ _ => .str⟩
  · cases h
def glC (K : PySem.W.Frag) (q : Str × PV) : Bool := match PySem.W.nsIn K mainGlobals q.1 with
  | some (some u) => pvV q.2 u
  | _ => false
theorem glC_ok {K : PySem.W.Frag} {h : Heap} {mg : Str → Option Value} {q : Str × PV} (c : glC K q = true) (X : K.In h) (G : h.Ns mainGlobals mg) : ∃ u w, mg q.1 = some u ∧ RelV w u ∧ ∀ F ι, Rep K F ι q.2 w := by
  unfold glC at c
  split at c
  · rename_i u e
    obtain ⟨w, h1, h2⟩ := pvV_ok (K := K) c
    exact ⟨u, w, PySem.W.mg_of X G e, h1, h2⟩
  · cases c
def entC (e : DictEntry) (q : Str × PV) : Bool := match e.key with
  | .str k _ => decide (k = q.1) && pvV q.2 e.val
  | _ => false
def entsC : List DictEntry → List (Str × PV) → Bool
  | [], [] => true
  | e :: r, q :: s => entC e q && entsC r s
  | _, _ => false
def dtC (K : PySem.W.Frag) (q : Str × List (Str × PV)) : Bool := match K.lookup (He.ga K q.1) with
  | some ⟨_, _, .dict es _, _⟩ => entsC es.toList q.2
  | _ => false
theorem ents_ok {K : PySem.W.Frag} : ∀ {l : List DictEntry} {kvs : List (Str × PV)} {k : Str}, entsC l kvs = true → (match kvs.lookup k with
    | some v => ∃ e w, l.find? (·.key.isStr k) = some e ∧ RelV w e.val ∧ ∀ F ι, Rep K F ι v w
    | none => l.find? (·.key.isStr k) = none ∧ l.any (·.refKey) = false)
  | [], [], k, _ => ⟨rfl, rfl⟩
  | e :: r, q :: s, k, h => by
    have h' : (entC e q && entsC r s) = true := h
    rw [Bool.and_eq_true] at h'
    have ih := ents_ok (K := K) (k := k) h'.2
    obtain ⟨kk, vv⟩ := q
    have h1 := h'.1
    unfold entC at h1
    split at h1
    · rename_i x t ek
      rw [Bool.and_eq_true, decide_eq_true_eq] at h1
      obtain ⟨rfl, h2⟩ := h1
      obtain ⟨w, w1, w2⟩ := pvV_ok (K := K) h2
      rw [List.lookup_cons]
      have e1 : (e.key.isStr k) = (x == k) := by rw [ek]; rfl
      have rk : e.refKey = false := by unfold DictEntry.refKey; rw [ek]
      cases hk : (k == x) with
      | true =>
        have : (x == k) = true := by rw [beq_iff_eq] at hk ⊢; exact hk.symm
        exact ⟨e, w, by rw [List.find?_cons, e1, this], w1, w2⟩
      | false =>
        have nk : (x == k) = false := by rw [beq_eq_false_iff_ne] at hk ⊢; exact fun z => hk z.symm
        cases hs : s.lookup k with
        | none =>
          rw [hs] at ih
          show List.find? (·.key.isStr k) (e :: r) = none ∧ (e :: r).any (·.refKey) = false
          rw [List.find?_cons, e1, nk, List.any_cons, rk]
          exact ⟨ih.1, by rw [ih.2]; rfl⟩
        | some v =>
          rw [hs] at ih
          obtain ⟨e2, w2, i1, i2, i3⟩ := ih
          exact ⟨e2, w2, by rw [List.find?_cons, e1, nk]; exact i1, i2, i3⟩
    · cases h1
  | [], _ :: _, _, h => by cases h
  | _ :: _, [], _, h => by cases h
theorem dtC_ok {K : PySem.W.Frag} {q : Str × List (Str × PV)} (c : dtC K q = true) (k : Str) : match q.2.lookup k with
    | some v => ∃ u w, PySem.W.nsIn K (He.ga K q.1) k = some (some u) ∧ RelV w u ∧ ∀ F ι, Rep K F ι v w
    | none => PySem.W.nsIn K (He.ga K q.1) k = some none := by
  unfold dtC at c
  split at c
  · rename_i oc od es n sl hk
    have := ents_ok (K := K) (k := k) c
    unfold PySem.W.nsIn
    rw [hk]
    cases hl : q.2.lookup k with
    | none =>
      rw [hl] at this
      show (match es.toList.find? (·.key.isStr k) with | some e => some (some e.val) | none => if es.toList.any (·.refKey) then none else some none) = some none
      rw [this.1, this.2]; rfl
    | some v =>
      rw [hl] at this
      obtain ⟨e, w, h1, h2, h3⟩ := this
      refine ⟨e.val, w, ?_, h2, h3⟩
      show (match es.toList.find? (·.key.isStr k) with | some e => some (some e.val) | none => if es.toList.any (·.refKey) then none else some none) = some (some e.val)
      rw [h1]
  · cases c
end Cv

set_option Elab.async false
set_option linter.all false
set_option maxRecDepth 100000
set_option maxHeartbeats 4000000
/-! Core24: the Hook; classes of errors. -/
namespace Cv
open PySem PySem.Spec PyProof.Rows L2
theorem an {a b : Bool} (h : (a && b) = true) : a = true ∧ b = true := Bool.and_eq_true_iff.mp h
/-! ### the Hook -/
def asC (g : Addr → Option Obj) (n : Nat) : List Addr := He.asD g n ++ [cStatics]
abbrev AlC : Type := (He.AlT × Bool) × List IniV
def obsC (n : Nat) (fn : List He.DefD) (ts : List He.Tab) (tf : List He.Defn) (ins : List IniD) (ex : PySem.W.Frag → Bool) (g : Addr → Option Obj) : AlC :=
  ((He.obsT [] fn ts (He.frT g (asC g n)), ex (He.frT g (asC g n)) && He.tabsB g tf (He.frT g (asC g n))), ins.map fun i => iniW (He.frT g (asC g n)) i.x)
def valC (fn : List He.DefD) (ts : List He.Tab) (ins : List IniD) (w : World) : AlC := ((He.valT fn ts w, true), ins.map IniD.val)
def SaysC (fn : List He.DefD) (ts : List He.Tab) (tf : List He.Defn) (ins : List IniD) (ex : PySem.W.Frag → Bool) (w : World) (h : Heap) (K : PySem.W.Frag) : Prop :=
  He.SaysX [] fn ts tf ex w h K ∧ ins.map (fun i => iniW K i.x) = ins.map IniD.val
theorem saysC_of {n : Nat} {fn : List He.DefD} {ts : List He.Tab} {tf : List He.Defn} {ins : List IniD} {ex : PySem.W.Frag → Bool} {w : World} {h : Heap} (e : obsC n fn ts tf ins ex h.get? = valC fn ts ins w) : SaysC fn ts tf ins ex w h (He.frT h.get? (asC h.get? n)) := by
  have e1 := congrArg (fun z : AlC => z.1.1) e
  have e2 := congrArg (fun z : AlC => z.1.2) e
  have e3 := congrArg (fun z : AlC => z.2) e
  obtain ⟨x1, x2⟩ := an e2
  have each : ∀ p ∈ tf, PySem.W.codeHdIn (He.frT h.get? (asC h.get? n)) (He.cT (He.frT h.get? (asC h.get? n)) p).1 (He.cT (He.frT h.get? (asC h.get? n)) p).2 = true ∧ ∃ o, h.get? (He.cT (He.frT h.get? (asC h.get? n)) p).2 = some o ∧ He.emptyTab o = true := by
    intro p hp
    obtain ⟨y1, y2⟩ := an (List.all_eq_true.mp x2 p hp)
    refine ⟨y1, ?_⟩
    split at y2
    · rename_i o ho
      exact ⟨o, ho, y2⟩
    · cases y2
  refine ⟨⟨e1, x1, fun p hp => (each p hp).1, fun p hp => ?_, fun p hp => ?_⟩, e3⟩
  · obtain ⟨_, o, ho, hz⟩ := each p hp
    exact He.frT_none ho hz
  · obtain ⟨_, o, ho, hz⟩ := each p hp
    rw [ho, He.emptyTab_eq hz]
def hookC (n : Nat) (fn : List He.DefD) (ts : List He.Tab) (tf : List He.Defn) (ins : List IniD) (ex : PySem.W.Frag → Bool) : PySem.W.Hook where
  α := AlC
  obs := fun s => obsC n fn ts tf ins ex s.heap.get?
  val := fun w => valC fn ts ins w
  says := fun w h => ∃ K : PySem.W.Frag, K.In h ∧ SaysC fn ts tf ins ex w h K
  of := fun _ _ e => ⟨_, He.frT_in, saysC_of e⟩
  keeps := fun _ _ _ ⟨K, hK, c, d⟩ k => ⟨K, PySem.W.Frag.In.keeps hK k, ⟨c.t, c.more, c.hd, c.out, fun p hp => k _ _ (c.empty p hp)⟩, d⟩
theorem obsC_eq {n : Nat} {fn : List He.DefD} {ts : List He.Tab} {tf : List He.Defn} {ins : List IniD} {ex : PySem.W.Frag → Bool} {g : Addr → Option Obj} {s : Shared} (h : ∀ a, g a = s.heap.get? a) : obsC n fn ts tf ins ex g = (hookC n fn ts tf ins ex).obs s := by
  have e : g = s.heap.get? := funext h
  rw [e]; rfl
/-! ### errors -/
def oexB (K : PySem.W.Frag) (C : Addr) : Bool := (match K.lookup C with
    | some ⟨.type t, _, .cls cd, sl⟩ => decide (t = "type") && (match cd.mro, sl.toList with
      | .ref C' :: bm, [_, _, _, _, some (.builtin n), _] => decide (C' = C) && (decide (n = "ValueError.__new__") && (!cd.hasDel && (cd.hasDict && HandSPX.refsVE bm)))
      | _, _ => false)
    | _ => false) && (decide (PySem.W.findIn K (.ref C) "__setattr__" = some (some (.builtin "object.__setattr__"))) && (decide (PySem.W.subIn K (.ref C) (.type "BaseException") = some true) && (decide (PySem.W.typeIn K (.ref C) = some (.type "type")) && PySem.W.keepIn K (.ref C))))
theorem oexB_ok {K : PySem.W.Frag} {C : Addr} (h : oexB K C = true) : OexC K C := by
  obtain ⟨h1, h2⟩ := an h
  obtain ⟨h2, h3⟩ := an h2
  obtain ⟨h3, h4⟩ := an h3
  obtain ⟨h4, h5⟩ := an h4
  refine ⟨?_, of_decide_eq_true h2, of_decide_eq_true h3, of_decide_eq_true h4, h5⟩
  split at h1
  · rename_i t dd cd sl ho
    obtain ⟨z1, z2⟩ := an h1
    split at z2
    · rename_i C' bm k0 k1 k2 k3 n k5 hm hs
      obtain ⟨y1, u2⟩ := an z2
      obtain ⟨y2, u3⟩ := an u2
      obtain ⟨y3, u4⟩ := an u3
      obtain ⟨y4, y5⟩ := an u4
      clear z2 u2 u3 u4
      have e1 := of_decide_eq_true z1
      have e2 := of_decide_eq_true y1
      have e3 := of_decide_eq_true y2
      subst e1 e2 e3
      obtain ⟨nm, bs, mro, ns, qn, hd, sn, sub, ab, col, del⟩ := cd
      obtain ⟨sl⟩ := sl
      dsimp only at hm hs y3 y4
      subst hm hs
      have e4 : del = false := by simpa using y3
      subst e4 y4
      exact ⟨nm, qn, ns, bs, bm, sn, sub, ab, col, dd, k0, k1, k2, k3, k5, ho, y5⟩
    · cases z2
  · cases h1
/-- positions in the text of __init__ -/
def posI : List Stmt → Nat → Pos
  | [.Expr (.Call (.Attribute (.Call (.Name _ a) _ _ b) _ c) [.Name _ d] _ e) f, .Assign [.Attribute (.Name _ g) _ h] (.Name _ i) j] => fun n => ([a, b, c, d, e, f, g, h, i, j] : List Pos).getD n ⟨0, 0, 0, 0⟩
  | _ => fun _ => ⟨0, 0, 0, 0⟩
def noD : Value → Bool
  | .none => true
  | _ => false
theorem noD_ok {v : Value} (h : noD v = true) : v = .none := by
  unfold noD at h
  split at h
  · rfl
  · cases h
def excB (K : PySem.W.Frag) (mf : Str) (i : IniD) : Bool :=
  oexB K (He.ga K i.x) && (decide (PySem.W.nsIn K mainGlobals i.x = some (some (.ref (He.ga K i.x)))) && (decide (PySem.W.findIn K (.ref (He.ga K i.x)) "__init__" = some (some (.ref (iAd K i.x)))) && (decide (PySem.W.typeIn K (.ref (iAd K i.x)) = some (.type "function")) &&
  ((match K.lookup (iAd K i.x) with
    | some ⟨_, _, .func fd, _⟩ => (PySem.W.codeIn K fd.code i.qual && noD fd.defaults) && ((match fd.closure with
      | [(n, cc)] => decide (n = "__class__") && (match K.lookup cc with
        | some ⟨_, _, .cell (some (.ref C')), _⟩ => decide (C' = He.ga K i.x)
        | _ => false)
      | _ => false) && (match fd.code with
      | .ref cda => (match K.lookup cda with
        | some ⟨_, _, .fields vs, _⟩ => (match (vs[2]? : Option Value) with
          | some (.str file _) => (mf == file)
          | _ => false)
        | _ => false)
      | _ => false))
    | _ => false) && (decide (PySem.W.mroIn K (He.ga K i.x) (.ref (He.ga K i.x)) = some true) && (decide (PySem.W.nsIn K mainGlobals "super" = some none) && (decide (PySem.W.nsIn K cStatics "thirdparty.any" = some none) &&
    (decide (PySem.W.ks_superIn K (He.ga K i.x) (He.ga K i.x) "__init__" = some (some (.builtin "ValueError.__init__"))) && (decide (PySem.W.subIn K (.ref (He.ga K i.x)) (.type "ValueError") = some true) && (decide (PySem.W.findIn K (.ref (He.ga K i.x)) i.fld = some none) &&
    (xfB K (He.ga K i.x) && decide (PySem.W.exmOne K (.ref (He.ga K i.x)) (.ref (He.ga K i.x)) = some true))))))))))))
/-- what is seen of the class's text without the heap -/
structure IniS (P : Program) (i : IniD) : Prop where
  body : i.body = iniT i.self i.prm i.fld (posI i.body)
  bind : ∀ (cl : List (Str × Addr)) (kV doc pm : Value) (an : Option Addr) (cdv ct : Value) (us : List Value), us.length = 2 → bindArgs (PySem.W.fnX i.name i.qual i.params i.body i.scope cl .none kV doc pm an cdv ct) ⟨us, []⟩ = pure ([i.self, i.prm].zip us)
  ar : ∃ ar, (i.params.posonlyargs ++ i.params.args).head? = some ar ∧ ar.arg = i.self
  st : (!decide (i.self = i.prm) && (((posI i.body 2).endLine == (posI i.body 4).line) && (plainN i.self && (plainN i.prm && (lclB i.scope i.self && (lclB i.scope i.prm && (glbB i.scope "super" && (decide (i.scope.names.lookup ("__class__" : Str) = some .free) &&
    ((i.scope.names.all fun x => !decide (x.2 = .cell)) && (decide (i.scope.kind = .function) && (!i.scope.isCoroutine && (!i.scope.isGenerator && !(P.main.scope.names.lookup ("super" : Str)).isSome)))))))))))) = true
theorem exc_ok {Z : Fx} {P : Program} {K : PySem.W.Frag} {mg : Str → Option Value} {h : Heap} {k : Nat} {i : IniD} (X : K.In h) (G : h.Ns mainGlobals mg) (c : excB K P.main.file i = true) (s : IniS P i) (e : iniW K i.x = i.val) (hX : Z.X[k]? = some (He.ga K i.x, i.fld)) : ExcOk Z P K mg k i.x := by
  obtain ⟨c1, d1⟩ := an c
  obtain ⟨c2, d2⟩ := an d1
  obtain ⟨c3, d3⟩ := an d2
  obtain ⟨c4, d4⟩ := an d3
  obtain ⟨c5, d5⟩ := an d4
  obtain ⟨c6, d6⟩ := an d5
  obtain ⟨c7, d7⟩ := an d6
  obtain ⟨c8, d8⟩ := an d7
  obtain ⟨c9, d9⟩ := an d8
  obtain ⟨c10, d10⟩ := an d9
  obtain ⟨c11, c12⟩ := an d10
  obtain ⟨s1, t1⟩ := an s.st
  obtain ⟨s2, t2⟩ := an t1
  obtain ⟨s3, t3⟩ := an t2
  obtain ⟨s4, t4⟩ := an t3
  obtain ⟨s5, t5⟩ := an t4
  obtain ⟨s6, t6⟩ := an t5
  obtain ⟨s7, t7⟩ := an t6
  obtain ⟨s8, t8⟩ := an t7
  obtain ⟨s9, t9⟩ := an t8
  obtain ⟨s10, t10⟩ := an t9
  obtain ⟨s11, t11⟩ := an t10
  obtain ⟨s12, s13⟩ := an t11
  obtain ⟨ar, a1, a2⟩ := s.ar
  refine ⟨He.ga K i.x, iAd K i.x, i.fld, PySem.W.mg_of X G (of_decide_eq_true c2), hX, oexB_ok c1, ?_, of_decide_eq_true c3, of_decide_eq_true c4⟩
  unfold iniW at e
  split at c5
  rotate_left
  · cases c5
  rename_i oc od fd osl lk
  rw [lk] at e
  obtain ⟨n1, n2, n3, n4, n5, n6, n7, n8, n9, n10, n11, n12, n13, n14, n15⟩ := fd
  have e' : (some (n1, n2, n3, n4, n5, n6, n15) : IniV) = some (i.name, i.qual, i.params, .stmts i.body, i.scope, mainGlobals, builtinsNs) := e
  simp only [Option.some.injEq, Prod.mk.injEq] at e'
  obtain ⟨r1, r2, r3, r4, r5, r6, r7⟩ := e'
  subst r1 r2 r3 r4 r5 r6 r7
  obtain ⟨k1p, g1⟩ := an c5
  obtain ⟨k1, k0⟩ := an k1p
  clear k1p
  have k0' := noD_ok k0
  dsimp only at k0'
  subst k0'
  obtain ⟨k2, k3⟩ := an g1
  clear g1 c5 e
  dsimp only at k2 k3
  split at k2
  rotate_left
  · cases k2
  rename_i nn cc
  obtain ⟨q1, q2⟩ := an k2
  have q1' := of_decide_eq_true q1
  subst q1'
  split at q2
  rotate_left
  · cases q2
  rename_i cl cld C' csl hcc
  have q2' := of_decide_eq_true q2
  subst q2'
  split at k3
  rotate_left
  · cases k3
  rename_i cda
  split at k3
  rotate_left
  · cases k3
  rename_i ccl cdd vs ccs hcd
  split at k3
  rotate_left
  · cases k3
  rename_i file tf hvs
  obtain ⟨cdD, hD⟩ : ∃ cdD, PySem.W.clsIn K (He.ga K i.x) = some cdD := by
    obtain ⟨nm, q, N, bs, bm, sn, sub, ab, col, dd, k0, k1, k2, k3, k5, hC, hbm⟩ := (oexB_ok c1).cls
    unfold PySem.W.clsIn
    rw [hC]
    exact ⟨_, rfl⟩
  rw [s.body] at lk
  have bd := s.bind [(("__class__" : Str), cc)] n9 n10 n11 n12 (.ref cda) n14
  rw [s.body] at bd
  refine ⟨oc, od, osl, _, _, _, _, .none, n9, n10, n11, n12, cda, n14, cc, i.self, i.prm, posI i.body, ar, ccl, cdd, vs, ccs, file, tf, cl, cld, csl, cdD, lk, k1, bd, a1, a2, ?_, s2, s3, s4, lclB_ok s5, lclB_ok s6, ?_, of_decide_eq_true s8, ?_, of_decide_eq_true s10, ?_, ?_, hcd, hvs, k3, hcc, hD, of_decide_eq_true c6, PySem.W.mg_none_of X G (of_decide_eq_true c7), ?_, of_decide_eq_true c8, of_decide_eq_true c9, of_decide_eq_true c10, of_decide_eq_true c11⟩
  · simpa using s1
  · have := s7
    unfold glbB at this
    split at this
    · assumption
    · cases this
  · intro x hx
    have := List.all_eq_true.mp s9 x hx
    simpa using this
  · simpa using s11
  · simpa using s12
  · simpa using s13
end Cv

set_option Elab.async false
set_option linter.all false
set_option maxRecDepth 100000
set_option maxHeartbeats 4000000
/-! Core25: from what is read off the heap to what is told of the program. -/
namespace Cv
open PySem PySem.Spec PyProof.Rows L2
structure DD where
  x : Str
  ps : List Str
  params : Arguments
  body : List Stmt
  scope : Scope
  N : List Str
  ob : Bool
  mkr : Bool
  D : CDef
def DD.defD (d : DD) : He.DefD := ⟨(d.x, none), d.x, d.x, d.params, d.body, d.scope, [], []⟩
structure DS (C : CC) (i : Nat) (d : DD) : Prop where
  bind : ∀ (kV doc pm : Value) (an : Option Addr) (cdv ct : Value) (us : List Value), us.length = d.ps.length → bindArgs (PySem.W.fnOf d.x d.x d.params d.body d.scope .none kV doc pm an cdv ct) ⟨us, []⟩ = pure (d.ps.zip us)
  kw : ∀ ks gp, (i, ks, gp) ∈ C.kws → gp.length = d.ps.length ∧ (∀ j ∈ gp, j < ks.length) ∧ ∀ (kV doc pm : Value) (an : Option Addr) (cdv ct : Value) (ws : List Value), ws.length = ks.length →
    bindArgs (PySem.W.fnOf d.x d.x d.params d.body d.scope .none kV doc pm an cdv ct) ⟨[], ks.zip ws⟩ = pure (d.ps.zip (gp.map fun j => ws.getD j .none))
  fs : FnScope d.N d.ps d.scope
  np : d.D.np = d.ps.length
  nl : d.D.nl = d.N.length - d.ps.length
  cmp : ∃ n, cmpB { C with N := d.N, mks := if d.mkr = true then some d.scope else none } d.ob d.scope n d.body = some d.D.body
/-- positions in the text of the def that tells -/
def posT : List Stmt → Nat → Pos
  | [.Try [.Expr (.Call (.Name _ a) _ _ b) c] [.ExceptHandler (some (.Name _ d)) _ [.Return (some (.Attribute (.Name _ e) _ f)) g] h] _ _ i, .Return (some (.Constant _ _ j)) k] => fun n => ([a, b, c, d, e, f, g, h, i, j, k] : List Pos).getD n ⟨0, 0, 0, 0⟩
  | _ => fun _ => ⟨0, 0, 0, 0⟩
structure RfS (C : CC) (rs : List DD) (ins : List IniD) (y : Str) (k : Nat) (els : Str) : Prop where
  ex : ∃ (d : DD) (i : IniD) (a n : Str) (j : Nat), d ∈ rs ∧ d.x = y ∧ ins[k]? = some i ∧ d.body = told a i.x n i.fld els (posT d.body) j ∧ d.ps = [a] ∧ FnScope [a, n] [a] d.scope ∧ d.scope.names.lookup a = some .local ∧ d.scope.names.lookup n = some .local ∧ d.scope.names.lookup i.x = some .globalImplicit ∧
    plainN a = true ∧ plainN n = true ∧ plainN i.x = true ∧ plainN y = true ∧
    ∀ (kV doc pm : Value) (an : Option Addr) (cdv ct : Value) (us : List Value), us.length = d.ps.length → bindArgs (PySem.W.fnOf d.x d.x d.params d.body d.scope .none kV doc pm an cdv ct) ⟨us, []⟩ = pure (d.ps.zip us)
def isLstO (o : Obj) : Bool := match o.cls with
  | .type t => decide (t = "list")
  | _ => false
def gloC (K : PySem.W.Frag) (x : Str) : Bool := decide (PySem.W.nsIn K mainGlobals x = some (some (.ref (He.ga K x))))
def exC (C : CC) (ds : List DD) (ins : List IniD) (tf : List He.Defn) (mf : Str) (K : PySem.W.Frag) : Bool :=
  (C.bl.all fun x => decide (PySem.W.nsIn K mainGlobals x = some none)) && (C.gl.all (glC K) && (C.dts.all (fun q => dtC K q && gloC K q.1) && (K.all (fun p => !isLstO p.2) && (ins.all (excB K mf) && (ds.all (fun d => gloC K d.x) && decide ((tf.map fun p => (He.cT K p).2).Nodup))))))
def qL (x : Str) : Str := (envOfC x default 0 0 .none).qual ++ "<lambda>"
def zOf (ins : List IniD) (tf : List He.Defn) (K : PySem.W.Frag) : Fx := ⟨K, tf.map fun p => ((He.cT K p).2, qL p.1), ins.map fun i => (He.ga K i.x, i.fld)⟩
def tsOf (C : CC) : List He.Tab := C.dts.map fun q => (fun K => He.ga K q.1, q.2.map (·.1))
/-- what is seen of the program without the heap -/
structure Stat (C : CC) (T : List CDef) (P : Program) (ds rs : List DD) (ins : List IniD) (tf : List He.Defn) : Prop where
  fns : C.fns = ds.map fun d => (d.x, d.ps)
  t : T = ds.map DD.D
  dd : ∀ i d, ds[i]? = some d → DS C i d
  ii : ∀ i ∈ ins, IniS P i
  exn : C.exn = ins.map (·.x)
  rfs : ∀ y k e, (y, k, e) ∈ C.rfs → ∃ els, e = .str els ∧ RfS C rs ins y k els
  mkt : ∀ d ∈ ds, d.mkr = true → (d.x, none) ∈ tf
section
variable {C : CC} {T : List CDef} {P : Program} {ds rs : List DD} {ins : List IniD} {tf : List He.Defn} {w : World} {h : Heap} {K : PySem.W.Frag} {mg : Str → Option Value} {base : Heap}
theorem lookup_mem' {α : Type} : ∀ {l : List (Str × α)} {x : Str} {v : α}, l.lookup x = some v → (x, v) ∈ l := fun h => PySem.mem_of_lookup h
theorem prg_of (S : Stat C T P ds rs ins tf) (X : K.In h) (G : h.Ns mainGlobals mg) (c : SaysC ((ds ++ rs).map DD.defD) (tsOf C) tf ins (exC C (ds ++ rs) ins tf P.main.file) w h K) (tb : ∀ p ∈ tf, LamX.TabB base mg (He.cT K p).1 (He.cT K p).2) : Prg (zOf ins tf K) C T P w K mg base := by
  obtain ⟨c, ci⟩ := c
  obtain ⟨x1, y1⟩ := an c.more
  obtain ⟨x2, y2⟩ := an y1
  obtain ⟨x3, y3⟩ := an y2
  obtain ⟨x4, y4⟩ := an y3
  obtain ⟨x5, y5⟩ := an y4
  obtain ⟨x6, x7⟩ := an y5
  have glo : ∀ d ∈ ds ++ rs, mg d.x = some (.ref (He.ga K d.x)) := fun d hd => PySem.W.mg_of X G (of_decide_eq_true (List.all_eq_true.mp x6 d hd))
  have funD : ∀ d ∈ ds ++ rs, ∃ fd, L2.FunD K d.x d.x d.params d.body d.scope [] [] (He.ga K d.x) fd := fun d hd => c.t.d.defs (d := d.defD) (List.mem_map_of_mem hd)
  have dat : ∀ (i : Nat) (x : Str) (ps : List Str), C.fns[i]? = some (x, ps) → ∃ d : DD, ds[i]? = some d ∧ d.x = x ∧ d.ps = ps := fun i x ps e => by
    rw [S.fns, List.getElem?_map] at e
    cases q : ds[i]? with
    | none => rw [q] at e; cases e
    | some d => rw [q] at e; cases e; exact ⟨d, rfl, rfl, rfl⟩
  have iniE : ∀ (k : Nat) (i : IniD), ins[k]? = some i → iniW K i.x = i.val ∧ (zOf ins tf K).X[k]? = some (He.ga K i.x, i.fld) := fun k i e => by
    have e1 : (ins.map fun i => iniW K i.x)[k]? = (ins.map IniD.val)[k]? := by rw [ci]
    rw [List.getElem?_map, List.getElem?_map, e] at e1
    refine ⟨Option.some.inj e1, ?_⟩
    show (ins.map fun i => (He.ga K i.x, i.fld))[k]? = _
    rw [List.getElem?_map, e]; rfl
  refine ⟨rfl, fun x hx => ?_, fun x v hx => ?_, fun x kvs hx => ?_, fun i x ps e => ?_, fun Y at' hr k x hk e ta p pos hg hp he ha => ?_, fun Y cc Pt at' hc tbb hT hu y k els hy gy lv hr t body scope lpos p pos hl hb => ?_⟩
  · exact PySem.W.mg_none_of X G (of_decide_eq_true (List.all_eq_true.mp x1 x (by simpa using hx)))
  · exact glC_ok (List.all_eq_true.mp x2 (x, v) (lookup_mem' hx)) X G
  · have hm := lookup_mem' hx
    obtain ⟨z1, z2⟩ := an (List.all_eq_true.mp x3 (x, kvs) hm)
    obtain ⟨n, hn⟩ := List.mem_iff_getElem?.mp hm
    have ht : (tsOf C)[n]? = some (fun K => He.ga K x, kvs.map (·.1)) := by
      unfold tsOf
      rw [List.getElem?_map, hn]; rfl
    obtain ⟨es, m, kd⟩ := c.t.tab n ht
    exact ⟨He.ga K x, es, m, PySem.W.mg_of X G (of_decide_eq_true z2), kd, fun k => dtC_ok z1 k⟩
  · obtain ⟨d, hd, rfl, rfl⟩ := dat i x ps e
    have hm : d ∈ ds := List.mem_of_getElem? hd
    have s := S.dd i d hd
    obtain ⟨fd, F⟩ := funD d (List.mem_append_left _ hm)
    have F' := F
    obtain ⟨oc, od, dV, kV, doc, pm, an', cdv, ct, osl, rfl, lk, hcd, hD, hK⟩ := F.ex
    have eD : dV = .none := by
      rcases hD with ⟨_, z⟩ | ⟨z, _⟩
      · exact z
      · exact absurd rfl z
    subst eD
    obtain ⟨n, hn⟩ := s.cmp
    refine ⟨He.ga K d.x, _, d.params, d.body, d.scope, d.N, d.ob, d.mkr, n, d.D, glo d (List.mem_append_left _ hm), F.kp, F.bindsN s.bind, fun ks gp hk => ?_, F, s.fs, ?_, s.np, s.nl, hn, fun hmk => ?_⟩
    · obtain ⟨k1, k2, k3⟩ := s.kw ks gp hk
      exact ⟨k1, k2, fun ws hw => k3 _ _ _ _ _ _ ws hw⟩
    · rw [S.t, List.getElem?_map, hd]; rfl
    · have ht := S.mkt d hm hmk
      obtain ⟨cA, rfl⟩ := He.codeIn_ref hcd
      have ec : He.codeOf K (d.x, none) = cA := He.codeOf_eq lk rfl
      have tbx := tb _ ht
      have e1 : (He.cT K (d.x, none)).1 = cA := ec
      rw [e1] at tbx
      refine ⟨cA, (He.cT K (d.x, none)).2, rfl, tbx, fun L => ⟨?_, fun p hp ep => ?_⟩⟩
      · exact List.mem_map.mpr ⟨_, ht, rfl⟩
      · obtain ⟨p', hp', rfl⟩ := List.mem_map.mp hp
        have nd : (tf.map fun p => (He.cT K p).2).Nodup := of_decide_eq_true x7
        have : p' = (d.x, none) := by
          have inj : ∀ (l : List He.Defn) (p q : He.Defn), (l.map fun p => (He.cT K p).2).Nodup → p ∈ l → q ∈ l → (He.cT K p).2 = (He.cT K q).2 → p = q := by
            intro l
            induction l with
            | nil => intro p q _ hp; cases hp
            | cons a l ih =>
              intro p q hn hp hq e
              rw [List.map_cons, List.nodup_cons] at hn
              rcases List.mem_cons.mp hp with e1 | e1
              · rcases List.mem_cons.mp hq with e2 | e2
                · rw [e1, e2]
                · exact (hn.1 (List.mem_map.mpr ⟨q, e2, by rw [← e1]; exact e.symm⟩)).elim
              · rcases List.mem_cons.mp hq with e2 | e2
                · exact (hn.1 (List.mem_map.mpr ⟨p, e1, by rw [← e2]; exact e⟩)).elim
                · exact ih p q hn.2 e1 e2 e
          exact inj tf p' _ nd hp' ht ep
        subst this
        rfl
  · rw [S.exn, List.getElem?_map] at hk
    cases q : ins[k]? with
    | none => rw [q] at hk; cases hk
    | some i =>
      rw [q] at hk
      cases hk
      obtain ⟨i1, i2⟩ := iniE k i q
      have hm : i ∈ ins := List.mem_of_getElem? q
      exact mk_exn (exc_ok X G (List.all_eq_true.mp x5 i hm) (S.ii i hm) i1 i2) at' hr hg hp he ha
  · obtain ⟨es, rfl, R⟩ := S.rfs y k els hy
    obtain ⟨d, i, a, n, j, r1, rfl, r3, r4, r5, r6, r7, r8, r9, r10, r11, r12, r13, r14⟩ := R.ex
    obtain ⟨i1, i2⟩ := iniE k i r3
    have hm : i ∈ ins := List.mem_of_getElem? r3
    have eb := List.all_eq_true.mp x5 i hm
    obtain ⟨c1, d1⟩ := an eb
    obtain ⟨c2, d2⟩ := an d1
    obtain ⟨c3, d3⟩ := an d2
    obtain ⟨c4, d4⟩ := an d3
    obtain ⟨c5, d5⟩ := an d4
    obtain ⟨c6, d6⟩ := an d5
    obtain ⟨c7, d7⟩ := an d6
    obtain ⟨c8, d8⟩ := an d7
    obtain ⟨c9, d9⟩ := an d8
    obtain ⟨c10, d10⟩ := an d9
    obtain ⟨c11, d11⟩ := an d10
    obtain ⟨c12, c13⟩ := an d11
    obtain ⟨fd, F⟩ := funD d (List.mem_append_right _ r1)
    have bnd := F.bindsN r14
    rw [r5] at bnd
    rw [r4] at F
    refine rf_of rfl ⟨He.ga K d.x, fd, d.params, d.scope, a, i.x, n, i.fld, posT d.body, j, He.ga K i.x, glo d (List.mem_append_right _ r1), F, bnd, r6, r7, r8, r9, r10, r11, r12, r13, PySem.W.mg_of X G (of_decide_eq_true c2), i2, xfB_ok c12, of_decide_eq_true c11, of_decide_eq_true c13⟩ at' hc tbb hT hu gy hr t body scope lpos p pos hl hb
end
end Cv

set_option Elab.async false
set_option linter.all false
set_option maxRecDepth 100000
set_option maxHeartbeats 4000000
/-! Core26: a law. -/
namespace Cv
open PySem PySem.Spec PyProof.Rows L2
section
variable {Z : Fx} {C : CC} {T : List CDef} {P : Program} {w : World} {K : PySem.W.Frag} {mg : Str → Option Value} {base : Heap}
theorem fn_top (G : Prg Z C T P w K mg base) (d i : Nat) (x : Str) (ps : List Str) (h : C.fns[i]? = some (x, ps)) {a : Addr} (ha : mg x = some (.ref a)) {oc : Value} {od : Option Addr} {osl : Array (Option Value)} {fd : FuncData} (lk : K.lookup a = some ⟨oc, od, .func fd, osl⟩) :
    FnOk P w K mg base (L2.CX P w) (6 * d + 12) a fd ps (spD Z (runP T (d + 1)) i ps.length) := by
  obtain ⟨a', fd', params, body, sc, N, ob, mkr, n, D, h1, h2, h3, h4, h5, h6, h7, h8, h9, h10, h11⟩ := G.fn i x ps h
  rw [ha] at h1
  cases h1
  obtain ⟨oc', od', dV, kV, doc, pm, an', cdv, ct, osl', rfl, lk', hcd, _, _⟩ := h5.ex
  rw [lk] at lk'
  cases lk'
  refine fn_of (k := 6 * d + 11) lk hcd h6 (fun vs H Q E q => fn_len q) fun A outer s H vs Q E hr hsp => ?_
  obtain ⟨P0, F, ι, st, xs, r0, rs, e, cp⟩ := hsp
  rw [run_step h7 (e.trans h8.symm), exs_eq] at cp
  have sw := sw_of (outer := outer) (H := H) (E := E) G (fn_all G d) h6 hr h11
  have snd := cmpE_snd (Z := Z) (C := { C with N := N, mks := if mkr = true then some sc else none }) (f := runP T d) (lv := 6 * d + 6) n
  refine ⟨tS Z E (runP T d) D.body, seqL_snd (fun s c hs => cmpS_snd snd sw .rfl' hs) h10, ?_⟩
  exact ⟨P0, F, F, ι, newEnv D.nl xs, st, rel_start r0 rs (by rw [h9, rs.len, e]), cpost_go cp⟩
end
theorem reps_nsI {K : PySem.W.Frag} {F : Hp} {ι : List Addr} : ∀ ns : List Int, Reps K F ι (ns.map PV.int) (ns.map V.int)
  | [] => .nil
  | n :: ns => .cons .int (reps_nsI ns)
/-- the law's promise, by its plain reading -/
theorem law_at {l : PySem.W.OpenLaw} {C : CC} {T : List CDef} {ds rs : List DD} {ins : List IniD} {tf : List He.Defn} (S : Stat C T l.prog ds rs ins tf) {iL : Nat} {nm x : Str} (hL : C.fns[iL]? = some (nm, [x])) (dd n : Nat)
    (goal : ∀ ns : List Int, ns.length ≤ n → (∀ z ∈ ns, Builtin.Int.intBits z ≤ 1048576) → ∃ st, runP T (dd + 1) iL [.lst (ns.map PV.int)] [] = .ok (.bl true) st)
    {w : World} {h : Heap} {K : PySem.W.Frag} {mg : Str → Option Value} {fa : Addr} (X : K.In h) (G : h.Ns mainGlobals mg) (c : SaysC ((ds ++ rs).map DD.defD) (tsOf C) tf ins (exC C (ds ++ rs) ins tf l.prog.main.file) w h K) (hm : mg nm = some (.ref fa)) :
    LamX.LawAtS l w K (L2.CX l.prog w) (6 * dd + 12) n x mg fa h := by
  have c' := c
  obtain ⟨c1, ci⟩ := c
  obtain ⟨x1, y1⟩ := an c1.more
  obtain ⟨x2, y2⟩ := an y1
  obtain ⟨x3, y3⟩ := an y2
  obtain ⟨x4, y4⟩ := an y3
  obtain ⟨x5, y5⟩ := an y4
  obtain ⟨x6, x7⟩ := an y5
  obtain ⟨d, hd, e1, e2⟩ : ∃ d : DD, ds[iL]? = some d ∧ d.x = nm ∧ d.ps = [x] := by
    rw [S.fns, List.getElem?_map] at hL
    cases q : ds[iL]? with
    | none => rw [q] at hL; cases hL
    | some d => rw [q] at hL; have z := Option.some.inj hL; exact ⟨d, rfl, (Prod.mk.inj z).1, (Prod.mk.inj z).2⟩
  subst e1
  have hmem : d ∈ ds ++ rs := List.mem_append_left _ (List.mem_of_getElem? hd)
  obtain ⟨fd, F⟩ := c1.t.d.defs (d := d.defD) (List.mem_map_of_mem hmem)
  have F : L2.FunD K d.x d.x d.params d.body d.scope [] [] (He.ga K d.x) fd := F
  have gl : mg d.x = some (.ref (He.ga K d.x)) := PySem.W.mg_of X G (of_decide_eq_true (List.all_eq_true.mp x6 d hmem))
  rw [hm] at gl
  cases gl
  have s := S.dd iL d hd
  have bA := fun (st : Shared) (u : Value) => F.bindsA (ps := d.ps) s.bind st [u] (by rw [e2]; rfl)
  rw [e2] at bA
  obtain ⟨oc, od, dV, kV, doc, pm, an', cdv, ct, osl, ef, lk, hcd, hD, hK⟩ := F.ex
  refine ⟨fd, tf.map (He.cT K), spD (zOf ins tf K) (runP T (dd + 1)) iL 1, fun p hp => ?_, fun p hp => ?_, fun p hp => ?_, bA, fun H a ns hl hb hT hS => ?_, fun base kb nb tb => ?_⟩
  · obtain ⟨q, hq, rfl⟩ := List.mem_map.mp hp; exact c1.empty q hq
  · obtain ⟨q, hq, rfl⟩ := List.mem_map.mp hp; exact c1.out q hq
  · obtain ⟨q, hq, rfl⟩ := List.mem_map.mp hp; exact PySem.W.codeHd_of_K X (c1.hd q hq)
  · have rd : Rd H a (.lst (ns.map V.int)) := by
      rcases hS with z | ⟨o, its, m, lo, z1, _⟩
      · exact z
      · exfalso
        have := List.all_eq_true.mp x4 (a, o) (He.lookup_mem lo)
        unfold isLstO at this
        rw [z1] at this
        exact absurd (show (!true) = true from this) (by simp)
    have fs : Sb (fun b => if b = a then H b else none) H := fun b o e => by
      by_cases q : b = a
      · have e' : (if b = a then H b else none) = some o := e
        rw [if_pos q] at e'; exact e'
      · have e' : (if b = a then H b else none) = some o := e
        rw [if_neg q] at e'; cases e'
    have rdF : Rd (fun b => if b = a then H b else none) a (.lst (ns.map V.int)) := by
      rcases rd with z | ⟨o, z⟩
      · exact .inl (by show (if a = a then H a else none) = _; rw [if_pos rfl]; exact z)
      · exact .inr ⟨o, by show (if a = a then H a else none) = _; rw [if_pos rfl]; exact z⟩
    obtain ⟨st, hst⟩ := goal ns hl hb
    refine ⟨fun _ => none, fun b => if b = a then H b else none, [], [], [.lst (ns.map PV.int)], ?_, .cons (.lst rdF (reps_nsI ns)) .nil, rfl, ?_⟩
    · refine ⟨fs, fun _ _ e => (by cases e), fun _ _ _ => rfl, .rfl', fun _ e => (by cases e), ⟨fun _ _ e => (by cases e), fun b ps e => ?_⟩, List.nodup_nil, fun p hp => ?_, rfl, fun k xs e => (by simp at e)⟩
      · by_cases q : b = a
        · subst q
          have e' : (if b = b then H b else none) = some (.tbl ps) := e
          rw [if_pos rfl] at e'
          rcases rd with z | ⟨o, z⟩ <;> rw [z] at e' <;> cases e'
        · have e' : (if b = a then H b else none) = some (.tbl ps) := e
          rw [if_neg q] at e'; cases e'
      · obtain ⟨q, hq, rfl⟩ := List.mem_map.mp hp
        exact LamX.TabS.nil (hT (He.cT K q) (List.mem_map.mpr ⟨q, hq, rfl⟩))
    · rw [hst]
      exact fun F' ι' H' v _ _ _ rv => rv.bl_of
  · have G' := prg_of (base := base) S X G c' fun p hp => tb _ (List.mem_map.mpr ⟨p, hp, rfl⟩)
    exact fn_top G' dd iL d.x [x] (by rw [hL]) hm lk
end Cv

set_option Elab.async false
set_option linter.all false
set_option maxRecDepth 100000
set_option maxHeartbeats 1000000
/-! LibM: rules for loops and lists that are not written out -/
namespace Cv
open PySem
def lastS (s : Slt) : List PV → Slt
  | [] => s
  | x :: xs => lastS (.val x) xs
theorem setS_setS (s t : Slt) : ∀ (ρ : Evn) (i : Nat), setS (setS ρ i s) i t = setS ρ i t
  | [], _ => rfl
  | _ :: _, 0 => rfl
  | a :: r, i + 1 => congrArg (a :: ·) (setS_setS s t r i)
theorem lcGo_pure {i : Nat} {c e : Evn → Sto → Kv → Res} (f : PV → PV) (ρ : Evn) : ∀ (xs : List PV) (s : Slt) (st : Sto) (k : Kv),
    (∀ x ∈ xs, ∀ st k, c (setS ρ i (.val x)) st k = k [.bl true] (setS ρ i (.val x)) st) →
    (∀ x ∈ xs, ∀ st k, e (setS ρ i (.val x)) st k = k [f x] (setS ρ i (.val x)) st) →
    lcGo (.n i) [i] c e xs (setS ρ i s) st k = k (xs.map f) (setS ρ i (lastS s xs)) st
  | [], _, _, _, _, _ => rfl
  | x :: xs, s, st, k, hc, he => by
    have e1 : bindT (.n i) x (wipeS (setS ρ i s) [i]) = some (setS ρ i (.val x)) := by
      show some (setS (setS (setS ρ i s) i .no) i (.val x)) = _
      rw [setS_setS, setS_setS]
    show (match bindT (.n i) x (wipeS (setS ρ i s) [i]) with
      | some ρ1 => c ρ1 st (onB fun b ρ2 st2 => cnd b (e ρ2 st2 (on1 fun w ρ3 st3 => lcGo (.n i) [i] c e xs ρ3 st3 fun ws ρ4 st4 => k (w :: ws) ρ4 st4)) (lcGo (.n i) [i] c e xs ρ2 st2 k))
      | none => .fail) = _
    rw [e1]
    show c (setS ρ i (.val x)) st _ = _
    rw [hc x List.mem_cons_self]
    show e (setS ρ i (.val x)) st _ = _
    rw [he x List.mem_cons_self]
    show lcGo (.n i) [i] c e xs (setS ρ i (.val x)) st _ = _
    rw [lcGo_pure f ρ xs (.val x) st _ (fun y hy => hc y (List.mem_cons_of_mem _ hy)) (fun y hy => he y (List.mem_cons_of_mem _ hy))]
    rfl
theorem boolsO_map (p : PV → Bool) : ∀ xs : List PV, boolsO (xs.map fun x => .bl (p x)) = some (xs.map p)
  | [] => rfl
  | x :: xs => by
    show (boolsO (xs.map fun x => .bl (p x))).map (p x :: ·) = _
    rw [boolsO_map p xs]; rfl
theorem intsO_map (p : PV → Int) : ∀ xs : List PV, intsO (xs.map fun x => .int (p x)) = some (xs.map p)
  | [] => rfl
  | x :: xs => by
    show (intsO (xs.map fun x => .int (p x))).map (p x :: ·) = _
    rw [intsO_map p xs]; rfl
theorem fits_10k {n : Nat} (h : n ≤ 10000) : fits n = true := by
  unfold fits; rw [Nat.ble_eq]; exact Nat.le_trans h (by decide)
theorem all_id (p : PV → Bool) (xs : List PV) : (xs.map p).all id = xs.all p := by rw [List.all_map]; rfl
theorem any_id (p : PV → Bool) (xs : List PV) : (xs.map p).any id = xs.any p := by rw [List.any_map]; rfl
theorem biP_all (p : PV → Bool) (xs : List PV) : biP .all [.lst (xs.map fun x => .bl (p x))] = some (.bl (xs.all p)) := by
  show (boolsO (xs.map fun x => .bl (p x))).map (fun bs => PV.bl (bs.all id)) = _
  rw [boolsO_map, ← all_id]; rfl
theorem biP_any (p : PV → Bool) (xs : List PV) : biP .any [.lst (xs.map fun x => .bl (p x))] = some (.bl (xs.any p)) := by
  show (boolsO (xs.map fun x => .bl (p x))).map (fun bs => PV.bl (bs.any id)) = _
  rw [boolsO_map, ← any_id]; rfl
/-- a run that ends with a value -/
def Ends (r : Res) (Q : PV → Sto → Prop) : Prop := ∃ v st, r = .ok v st ∧ Q v st
/-- the first n + 1 statements, and what is behind -/
def headC : Nat → Cs → Cs
  | 0, .seq a _ => a
  | n + 1, .seq a b => .seq a (headC n b)
  | _, s => s
def tailC : Nat → Cs → Cs
  | 0, .seq _ b => b
  | n + 1, .seq _ b => tailC n b
  | _, _ => .skip
theorem exs_cut (f : Cl) : ∀ (n : Nat) (s : Cs) (ρ : Evn) (st : Sto) (kn kc : Kn), exs s f ρ st kn kc = exs (headC n s) f ρ st (fun ρ st => exs (tailC n s) f ρ st kn kc) kc
  | 0, s, ρ, st, kn, kc => by cases s <;> rfl
  | n + 1, s, ρ, st, kn, kc => by
    cases s with
    | seq a b =>
      show exs a f ρ st (fun ρ st => exs b f ρ st kn kc) kc = exs a f ρ st (fun ρ st => exs (headC n b) f ρ st (fun ρ st => exs (tailC n b) f ρ st kn kc) kc) kc
      have : (fun ρ st => exs b f ρ st kn kc) = (fun ρ st => exs (headC n b) f ρ st (fun ρ st => exs (tailC n b) f ρ st kn kc) kc) := funext fun ρ => funext fun st => exs_cut f n b ρ st kn kc
      rw [this]
    | _ => rfl
theorem cutR (n : Nat) {s : Cs} {f : Cl} {ρ : Evn} {st : Sto} {kn kc : Kn} {Q : PV → Sto → Prop} (I : Evn → Sto → Prop)
    (h1 : ∀ kk : Kn, (∀ ρ st, I ρ st → Ends (kk ρ st) Q) → Ends (exs (headC n s) f ρ st kk kc) Q)
    (h2 : ∀ ρ st, I ρ st → Ends (exs (tailC n s) f ρ st kn kc) Q) : Ends (exs s f ρ st kn kc) Q := by
  rw [exs_cut f n s]
  exact h1 _ h2
theorem forR {tg : Tgt} {body : Evn → Sto → Kn → Kn → Res} {Q : PV → Sto → Prop} (I : Nat → Evn → Sto → Prop) : ∀ (xs : List PV) (n : Nat) (ρ : Evn) (st : Sto) (kn : Kn), I n ρ st →
    (∀ j x ρ st, xs[j]? = some x → I (n + j) ρ st → ∃ ρ1, bindT tg x ρ = some ρ1 ∧ ∀ kn kc : Kn, (∀ ρ st, I (n + j + 1) ρ st → Ends (kn ρ st) Q) → (∀ ρ st, I (n + j + 1) ρ st → Ends (kc ρ st) Q) → Ends (body ρ1 st kn kc) Q) →
    (∀ ρ st, I (n + xs.length) ρ st → Ends (kn ρ st) Q) → Ends (forGo tg body xs ρ st kn) Q
  | [], n, ρ, st, kn, h0, _, hk => hk ρ st h0
  | x :: xs, n, ρ, st, kn, h0, hb, hk => by
    obtain ⟨ρ1, e, hb1⟩ := hb 0 x ρ st rfl h0
    show Ends (match bindT tg x ρ with
      | some ρ1 => body ρ1 st (fun ρ2 st2 => forGo tg body xs ρ2 st2 kn) (fun ρ2 st2 => forGo tg body xs ρ2 st2 kn)
      | none => .fail) Q
    rw [e]
    have go : ∀ ρ st, I (n + 1) ρ st → Ends (forGo tg body xs ρ st kn) Q := fun ρ st h => forR I xs (n + 1) ρ st kn h
      (fun j y ρ st hy hi => by
        have e1 : n + 1 + j = n + (j + 1) := by omega
        rw [e1] at hi ⊢
        exact hb (j + 1) y ρ st hy hi)
      (fun ρ st h => hk ρ st (by
        have e1 : n + (x :: xs).length = n + 1 + xs.length := by simp only [List.length_cons]; omega
        rw [e1]; exact h))
    exact hb1 _ _ go go
theorem upto_getM : ∀ (N : Nat) (lo : Int) (n : Nat) (x : PV), (upto lo N)[n]? = some x → x = .int (lo + n) ∧ n < N
  | 0, _, _, _, h => by cases h
  | N + 1, lo, 0, x, h => by
    have h' : some (PV.int lo) = some x := h
    cases h'; exact ⟨by simp, by omega⟩
  | N + 1, lo, n + 1, x, h => by
    obtain ⟨e, l⟩ := upto_getM N (lo + 1) n x h
    exact ⟨by rw [e]; congr 1; omega, by omega⟩
theorem upto_lenM : ∀ (N : Nat) (lo : Int), (upto lo N).length = N
  | 0, _ => rfl
  | N + 1, lo => congrArg (· + 1) (upto_lenM N (lo + 1))
theorem range_ok {i : Int} (h : rngOk i = true) : biP .range1 [.int i] = some (.lst (upto 0 i.toNat)) := by
  show (if rngOk i then some (PV.lst (upto 0 i.toNat)) else none) = _
  rw [h]; rfl
theorem mul_int {i j : Int} (h : mulOk i j = true) : binP .mul (.int i) (.int j) = some (.int (i * j)) := by
  show (if mulOk i j then some (PV.int (i * j)) else none) = _
  rw [h]; rfl
theorem add_lst {A B : List PV} (h : A.length + B.length ≤ 10000) : binP .add (.lst A) (.lst B) = some (.lst (A ++ B)) := by
  have : fits (A.length + B.length) = true := fits_10k h
  show (if fits (A.length + B.length) then some (PV.lst (A ++ B)) else none) = _
  rw [this]; rfl
theorem isOwn_val (v : PV) : isOwn (.val v) = false := rfl
theorem isOwn_no : isOwn .no = false := rfl
theorem frz_eq {ρ : Evn} {i : Nat} (h : isOwn (getS ρ i) = false) : frz ρ i = ρ := by
  unfold frz
  cases q : getS ρ i with
  | own xs => rw [q] at h; cases h
  | _ => rfl
theorem getS_0 (s : Slt) (r : Evn) : getS (s :: r) 0 = s := rfl
theorem getS_s (s : Slt) (r : Evn) (i : Nat) : getS (s :: r) (i + 1) = getS r i := rfl
theorem setS_0 (s x : Slt) (r : Evn) : setS (s :: r) 0 x = x :: r := rfl
theorem setS_s (s x : Slt) (r : Evn) (i : Nat) : setS (s :: r) (i + 1) x = s :: setS r i x := rfl
theorem mkSlot_f (v : PV) : mkSlot false v = .val v := by cases v <;> rfl
theorem exs_seq (a b : Cs) (f : Cl) (ρ : Evn) (st : Sto) (kn kc : Kn) : exs (.seq a b) f ρ st kn kc = exs a f ρ st (fun ρ st => exs b f ρ st kn kc) kc := rfl
theorem exs_wh (c : Ce) (b : Cs) (f : Cl) (ρ : Evn) (st : Sto) (kn kc : Kn) : exs (.while_ c b) f ρ st kn kc = whGo (ev c f) (exs b f) rounds ρ st kn := rfl
end Cv

set_option Elab.async false
set_option linter.all false
set_option maxRecDepth 100000
set_option maxHeartbeats 0
namespace Cv.K02
open PySem PySem.Spec PyProof.Rows L2
def top (i : Nat) : Stmt := PySem.Challenge.pw_coverlines_k02_whole_terms_in_cases.main.body.getD i (.Pass ⟨0, 0, 0, 0⟩)
def fnsL : List (Str × List Str) := ([("demand", ["is_good", "name"]), ("is_in", ["value", "low", "high"]), ("is_tuple", ["value", "least", "most"]), ("is_rising", ["value", "most"]), ("common", ["one", "other"]), ("lowest", ["top", "bottom"]), ("plus", ["one", "other"]), ("less", ["one", "other"]), ("times", ["one", "other"]), ("is_less", ["one", "other"]), ("not_below", ["own"]), ("between", ["own", "low", "high"]), ("is_case", ["value"]), ("is_condition", ["value"]), ("is_condition_of", ["value", "deep"]), ("holds_at", ["condition", "marks", "day"]), ("is_limit", ["value", "low"]), ("is_share", ["top", "bottom"]), ("is_term", ["value"]), ("is_term_of", ["value", "deep"])] : List (Str × List Str)) ++ ([("within", ["term"]), ("size_of", ["term"]), ("demand_term", ["term", "name"]), ("paid", ["term", "amount", "marks", "day"]), ("pays", ["term", "case"]), ("how_many", ["term"]), ("is_plain", ["term"]), ("plain_of", ["term"]), ("_law_dice", ["script", "spot"]), ("_law_roll", ["dice", "total"]), ("_law_pick", ["dice", "things"]), ("_law_condition", ["dice", "deep"]), ("_law_holds", ["own", "marks", "day"]), ("_law_marks", []), ("_law_case", ["dice", "most"]), ("_law_low", ["top", "bottom"]), ("_law_less", ["one", "other"]), ("_law_plus", ["one", "other"]), ("_law_under", ["one", "other"]), ("_law_between", ["own", "low", "high"])] : List (Str × List Str)) ++ ([("_law_term", ["dice", "deep"]), ("_law_inner", ["term"]), ("_law_pays", ["term", "amount", "marks", "day"]), ("_law_in", ["term", "case"]), ("_law_size", ["term"]), ("_law_last", []), ("law", ["script"])] : List (Str × List Str))
def CCk : CC where
  N := []
  fns := fnsL
  gl := [("MOST_AMOUNT", .int 1000000000), ("MARKS", .int 4), ("LAST_DAY", .int 999), ("MOST_DEEP_conditions", .int 5), ("MOST_DEEP_terms", .int 6), ("MOST_SIZE", .int 25)]
  bl := ["abs", "all", "any", "bool", "int", "isinstance", "len", "list", "max", "min", "range", "sorted", "str", "sum", "tuple", "zip"]
  dts := [("SIZES_conditions", [("all", .int 1), ("mark", .int 2), ("days", .int 3), ("not", .int 2), ("and", .int 3), ("or", .int 3)]), ("SIZES_terms", [("loss", .int 1), ("fixed", .int 2), ("layer", .int 4), ("share", .int 4), ("when", .int 3), ("both", .int 3), ("rest", .int 3), ("least", .int 3), ("most", .int 3)])]
  rfs := [("_law_refused", 0, .str "")]
  exn := ["BadArgument"]
  kws := [(26, ["term"], [0]), (24, ["case", "term"], [1, 0]), (18, ["value"], [0]), (25, ["term"], [0])]
def b5 : Cs := .ite (.not (.v 0)) (.raise 0 (.v 1)) (.skip)
def D5 : CDef := ⟨2, 0, b5⟩
def E5 : DD := ⟨"demand", ["is_good", "name"], defArgs (top 5), defBody (top 5), defScope (top 5), ["is_good", "name"], false, false, D5⟩
theorem e5 : DS CCk 0 E5 := ⟨fun _ _ _ _ _ _ us hl => match us, hl with | [_, _], _ => rfl, fun ks gp h => absurd (show ((0 : Nat), ks, gp) ∈ CCk.kws from h) (by simp [CCk]), ⟨rfl, rfl, rfl, by decide +kernel, rfl, by decide +kernel, by decide +kernel⟩, rfl, rfl, ⟨40, by kernel_rfl⟩⟩
def b6 : Cs := .ret (.and (.bi (.isi .int) (.cons (.v 0) (.nil))) (.and (.not (.bi (.isi .bool) (.cons (.v 0) (.nil)))) (.chain .le .le (.v 1) (.v 0) (.v 2))))
def D6 : CDef := ⟨3, 0, b6⟩
def E6 : DD := ⟨"is_in", ["value", "low", "high"], defArgs (top 6), defBody (top 6), defScope (top 6), ["value", "low", "high"], false, false, D6⟩
theorem e6 : DS CCk 1 E6 := ⟨fun _ _ _ _ _ _ us hl => match us, hl with | [_, _, _], _ => rfl, fun ks gp h => absurd (show ((1 : Nat), ks, gp) ∈ CCk.kws from h) (by simp [CCk]), ⟨rfl, rfl, rfl, by decide +kernel, rfl, by decide +kernel, by decide +kernel⟩, rfl, rfl, ⟨40, by kernel_rfl⟩⟩
def b7 : Cs := .ret (.and (.bi (.isi .tuple) (.cons (.v 0) (.nil))) (.chain .le .le (.v 1) (.leno 0) (.v 2)))
def D7 : CDef := ⟨3, 0, b7⟩
def E7 : DD := ⟨"is_tuple", ["value", "least", "most"], defArgs (top 7), defBody (top 7), defScope (top 7), ["value", "least", "most"], false, false, D7⟩
theorem e7 : DS CCk 2 E7 := ⟨fun _ _ _ _ _ _ us hl => match us, hl with | [_, _, _], _ => rfl, fun ks gp h => absurd (show ((2 : Nat), ks, gp) ∈ CCk.kws from h) (by simp [CCk]), ⟨rfl, rfl, rfl, by decide +kernel, rfl, by decide +kernel, by decide +kernel⟩, rfl, rfl, ⟨40, by kernel_rfl⟩⟩
def b8 : Cs := .seq (.ite (.or (.not (.call 2 (.cons (.v 0) (.cons (.c (.int 0)) (.cons (.v 1) (.nil)))))) (.not (.bi .all (.cons (.lc [4] (.n 4) (.v 0) (.c (.bl true)) (.call 1 (.cons (.v 4) (.cons (.c (.int 0)) (.cons (.bin .sub (.v 1) (.c (.int 1))) (.nil)))))) (.nil))))) (.ret (.c (.bl false))) (.skip)) (.ret (.bi .all (.cons (.lc [2, 3] (.t (.cons (.n 2) (.cons (.n 3) (.nil)))) (.bi .zip (.cons (.v 0) (.cons (.sl (.v 0) (.cons (.c (.int 1)) (.nil)) (.nil)) (.nil)))) (.c (.bl true)) (.cmp .lt (.v 2) (.v 3))) (.nil))))
def D8 : CDef := ⟨2, 3, b8⟩
def E8 : DD := ⟨"is_rising", ["value", "most"], defArgs (top 8), defBody (top 8), defScope (top 8), ["value", "most", "one", "other", "own"], false, false, D8⟩
theorem e8 : DS CCk 3 E8 := ⟨fun _ _ _ _ _ _ us hl => match us, hl with | [_, _], _ => rfl, fun ks gp h => absurd (show ((3 : Nat), ks, gp) ∈ CCk.kws from h) (by simp [CCk]), ⟨rfl, rfl, rfl, by decide +kernel, rfl, by decide +kernel, by decide +kernel⟩, rfl, rfl, ⟨40, by kernel_rfl⟩⟩
def b9 : Cs := .seq (.while_ (.cmp .ne (.v 1) (.c (.int 0))) (.par 0 1 (.v 1) (.bin .mod (.v 0) (.v 1)) false false)) (.ret (.v 0))
def D9 : CDef := ⟨2, 0, b9⟩
def E9 : DD := ⟨"common", ["one", "other"], defArgs (top 9), defBody (top 9), defScope (top 9), ["one", "other"], false, false, D9⟩
theorem e9 : DS CCk 4 E9 := ⟨fun _ _ _ _ _ _ us hl => match us, hl with | [_, _], _ => rfl, fun ks gp h => absurd (show ((4 : Nat), ks, gp) ∈ CCk.kws from h) (by simp [CCk]), ⟨rfl, rfl, rfl, by decide +kernel, rfl, by decide +kernel, by decide +kernel⟩, rfl, rfl, ⟨40, by kernel_rfl⟩⟩
def b10 : Cs := .seq (.set 2 (.call 4 (.cons (.bi .abs (.cons (.v 0) (.nil))) (.cons (.v 1) (.nil))))) (.ret (.tup (.cons (.bin .fdiv (.v 0) (.v 2)) (.cons (.bin .fdiv (.v 1) (.v 2)) (.nil)))))
def D10 : CDef := ⟨2, 1, b10⟩
def E10 : DD := ⟨"lowest", ["top", "bottom"], defArgs (top 10), defBody (top 10), defScope (top 10), ["top", "bottom", "own"], false, false, D10⟩
theorem e10 : DS CCk 5 E10 := ⟨fun _ _ _ _ _ _ us hl => match us, hl with | [_, _], _ => rfl, fun ks gp h => absurd (show ((5 : Nat), ks, gp) ∈ CCk.kws from h) (by simp [CCk]), ⟨rfl, rfl, rfl, by decide +kernel, rfl, by decide +kernel, by decide +kernel⟩, rfl, rfl, ⟨40, by kernel_rfl⟩⟩
def b11 : Cs := .ret (.call 5 (.cons (.bin .add (.bin .mul (.ixo 0 (.c (.int 0))) (.ixo 1 (.c (.int 1)))) (.bin .mul (.ixo 1 (.c (.int 0))) (.ixo 0 (.c (.int 1))))) (.cons (.bin .mul (.ixo 0 (.c (.int 1))) (.ixo 1 (.c (.int 1)))) (.nil))))
def D11 : CDef := ⟨2, 0, b11⟩
def E11 : DD := ⟨"plus", ["one", "other"], defArgs (top 11), defBody (top 11), defScope (top 11), ["one", "other"], false, false, D11⟩
theorem e11 : DS CCk 6 E11 := ⟨fun _ _ _ _ _ _ us hl => match us, hl with | [_, _], _ => rfl, fun ks gp h => absurd (show ((6 : Nat), ks, gp) ∈ CCk.kws from h) (by simp [CCk]), ⟨rfl, rfl, rfl, by decide +kernel, rfl, by decide +kernel, by decide +kernel⟩, rfl, rfl, ⟨40, by kernel_rfl⟩⟩
def b12 : Cs := .ret (.call 6 (.cons (.v 0) (.cons (.tup (.cons (.neg (.ixo 1 (.c (.int 0)))) (.cons (.ixo 1 (.c (.int 1))) (.nil)))) (.nil))))
def D12 : CDef := ⟨2, 0, b12⟩
def E12 : DD := ⟨"less", ["one", "other"], defArgs (top 12), defBody (top 12), defScope (top 12), ["one", "other"], false, false, D12⟩
theorem e12 : DS CCk 7 E12 := ⟨fun _ _ _ _ _ _ us hl => match us, hl with | [_, _], _ => rfl, fun ks gp h => absurd (show ((7 : Nat), ks, gp) ∈ CCk.kws from h) (by simp [CCk]), ⟨rfl, rfl, rfl, by decide +kernel, rfl, by decide +kernel, by decide +kernel⟩, rfl, rfl, ⟨40, by kernel_rfl⟩⟩
def b13 : Cs := .ret (.call 5 (.cons (.bin .mul (.ixo 0 (.c (.int 0))) (.ixo 1 (.c (.int 0)))) (.cons (.bin .mul (.ixo 0 (.c (.int 1))) (.ixo 1 (.c (.int 1)))) (.nil))))
def D13 : CDef := ⟨2, 0, b13⟩
def E13 : DD := ⟨"times", ["one", "other"], defArgs (top 13), defBody (top 13), defScope (top 13), ["one", "other"], false, false, D13⟩
theorem e13 : DS CCk 8 E13 := ⟨fun _ _ _ _ _ _ us hl => match us, hl with | [_, _], _ => rfl, fun ks gp h => absurd (show ((8 : Nat), ks, gp) ∈ CCk.kws from h) (by simp [CCk]), ⟨rfl, rfl, rfl, by decide +kernel, rfl, by decide +kernel, by decide +kernel⟩, rfl, rfl, ⟨40, by kernel_rfl⟩⟩
def b14 : Cs := .ret (.cmp .lt (.bin .mul (.ixo 0 (.c (.int 0))) (.ixo 1 (.c (.int 1)))) (.bin .mul (.ixo 1 (.c (.int 0))) (.ixo 0 (.c (.int 1)))))
def D14 : CDef := ⟨2, 0, b14⟩
def E14 : DD := ⟨"is_less", ["one", "other"], defArgs (top 14), defBody (top 14), defScope (top 14), ["one", "other"], false, false, D14⟩
theorem e14 : DS CCk 9 E14 := ⟨fun _ _ _ _ _ _ us hl => match us, hl with | [_, _], _ => rfl, fun ks gp h => absurd (show ((9 : Nat), ks, gp) ∈ CCk.kws from h) (by simp [CCk]), ⟨rfl, rfl, rfl, by decide +kernel, rfl, by decide +kernel, by decide +kernel⟩, rfl, rfl, ⟨40, by kernel_rfl⟩⟩
def b15 : Cs := .ret (.ife (.cmp .gt (.ixo 0 (.c (.int 0))) (.c (.int 0))) (.v 0) (.tup (.cons (.c (.int 0)) (.cons (.c (.int 1)) (.nil)))))
def D15 : CDef := ⟨1, 0, b15⟩
def E15 : DD := ⟨"not_below", ["own"], defArgs (top 15), defBody (top 15), defScope (top 15), ["own"], false, false, D15⟩
theorem e15 : DS CCk 10 E15 := ⟨fun _ _ _ _ _ _ us hl => match us, hl with | [_], _ => rfl, fun ks gp h => absurd (show ((10 : Nat), ks, gp) ∈ CCk.kws from h) (by simp [CCk]), ⟨rfl, rfl, rfl, by decide +kernel, rfl, by decide +kernel, by decide +kernel⟩, rfl, rfl, ⟨40, by kernel_rfl⟩⟩
def b16 : Cs := .seq (.set 3 (.call 10 (.cons (.call 7 (.cons (.v 0) (.cons (.tup (.cons (.v 1) (.cons (.c (.int 1)) (.nil)))) (.nil)))) (.nil)))) (.seq (.ite (.or (.cmp .isN (.v 2) (.c (.non))) (.call 9 (.cons (.v 3) (.cons (.tup (.cons (.bin .sub (.v 2) (.v 1)) (.cons (.c (.int 1)) (.nil)))) (.nil))))) (.ret (.v 3)) (.skip)) (.ret (.tup (.cons (.bin .sub (.v 2) (.v 1)) (.cons (.c (.int 1)) (.nil))))))
def D16 : CDef := ⟨3, 1, b16⟩
def E16 : DD := ⟨"between", ["own", "low", "high"], defArgs (top 16), defBody (top 16), defScope (top 16), ["own", "low", "high", "found"], false, false, D16⟩
theorem e16 : DS CCk 11 E16 := ⟨fun _ _ _ _ _ _ us hl => match us, hl with | [_, _, _], _ => rfl, fun ks gp h => absurd (show ((11 : Nat), ks, gp) ∈ CCk.kws from h) (by simp [CCk]), ⟨rfl, rfl, rfl, by decide +kernel, rfl, by decide +kernel, by decide +kernel⟩, rfl, rfl, ⟨40, by kernel_rfl⟩⟩
def b22 : Cs := .seq (.ite (.not (.call 2 (.cons (.v 0) (.cons (.c (.int 3)) (.cons (.c (.int 3)) (.nil)))))) (.ret (.c (.bl false))) (.skip)) (.ret (.and (.call 1 (.cons (.ixo 0 (.c (.int 0))) (.cons (.c (.int 0)) (.cons (.c (.int 1000000000)) (.nil))))) (.and (.call 3 (.cons (.ixo 0 (.c (.int 1))) (.cons (.c (.int 4)) (.nil)))) (.call 1 (.cons (.ixo 0 (.c (.int 2))) (.cons (.c (.int 0)) (.cons (.c (.int 999)) (.nil))))))))
def D22 : CDef := ⟨1, 0, b22⟩
def E22 : DD := ⟨"is_case", ["value"], defArgs (top 22), defBody (top 22), defScope (top 22), ["value"], false, false, D22⟩
theorem e22 : DS CCk 12 E22 := ⟨fun _ _ _ _ _ _ us hl => match us, hl with | [_], _ => rfl, fun ks gp h => absurd (show ((12 : Nat), ks, gp) ∈ CCk.kws from h) (by simp [CCk]), ⟨rfl, rfl, rfl, by decide +kernel, rfl, by decide +kernel, by decide +kernel⟩, rfl, rfl, ⟨40, by kernel_rfl⟩⟩
def b23 : Cs := .ret (.call 14 (.cons (.v 0) (.cons (.c (.int 5)) (.nil))))
def D23 : CDef := ⟨1, 0, b23⟩
def E23 : DD := ⟨"is_condition", ["value"], defArgs (top 23), defBody (top 23), defScope (top 23), ["value"], false, false, D23⟩
theorem e23 : DS CCk 13 E23 := ⟨fun _ _ _ _ _ _ us hl => match us, hl with | [_], _ => rfl, fun ks gp h => absurd (show ((13 : Nat), ks, gp) ∈ CCk.kws from h) (by simp [CCk]), ⟨rfl, rfl, rfl, by decide +kernel, rfl, by decide +kernel, by decide +kernel⟩, rfl, rfl, ⟨40, by kernel_rfl⟩⟩
def b24 : Cs := .seq (.ite (.or (.not (.call 2 (.cons (.v 0) (.cons (.c (.int 1)) (.cons (.c (.int 3)) (.nil)))))) (.or (.not (.bi (.isi .str) (.cons (.ixo 0 (.c (.int 0))) (.nil)))) (.cmp .ne (.bi (.dget [("all", .int 1), ("mark", .int 2), ("days", .int 3), ("not", .int 2), ("and", .int 3), ("or", .int 3)]) (.cons (.ixo 0 (.c (.int 0))) (.cons (.c (.int 0)) (.nil)))) (.leno 0)))) (.ret (.c (.bl false))) (.skip)) (.seq (.set 2 (.ixo 0 (.c (.int 0)))) (.seq (.ite (.cmp .eq (.v 2) (.c (.str "mark"))) (.ret (.call 1 (.cons (.ixo 0 (.c (.int 1))) (.cons (.c (.int 0)) (.cons (.bin .sub (.c (.int 4)) (.c (.int 1))) (.nil)))))) (.skip)) (.seq (.ite (.cmp .eq (.v 2) (.c (.str "days"))) (.ret (.and (.call 1 (.cons (.ixo 0 (.c (.int 1))) (.cons (.c (.int 0)) (.cons (.c (.int 999)) (.nil))))) (.call 1 (.cons (.ixo 0 (.c (.int 2))) (.cons (.ixo 0 (.c (.int 1))) (.cons (.c (.int 999)) (.nil))))))) (.skip)) (.ret (.or (.cmp .eq (.v 2) (.c (.str "all"))) (.and (.cmp .gt (.v 1) (.c (.int 0))) (.bi .all (.cons (.lc [3] (.n 3) (.sl (.v 0) (.cons (.c (.int 1)) (.nil)) (.nil)) (.c (.bl true)) (.call 14 (.cons (.v 3) (.cons (.bin .sub (.v 1) (.c (.int 1))) (.nil))))) (.nil)))))))))
def D24 : CDef := ⟨2, 2, b24⟩
def E24 : DD := ⟨"is_condition_of", ["value", "deep"], defArgs (top 24), defBody (top 24), defScope (top 24), ["value", "deep", "name", "own"], false, false, D24⟩
theorem e24 : DS CCk 14 E24 := ⟨fun _ _ _ _ _ _ us hl => match us, hl with | [_, _], _ => rfl, fun ks gp h => absurd (show ((14 : Nat), ks, gp) ∈ CCk.kws from h) (by simp [CCk]), ⟨rfl, rfl, rfl, by decide +kernel, rfl, by decide +kernel, by decide +kernel⟩, rfl, rfl, ⟨40, by kernel_rfl⟩⟩
def b25 : Cs := .seq (.set 3 (.ixo 0 (.c (.int 0)))) (.seq (.ite (.cmp .eq (.v 3) (.c (.str "mark"))) (.ret (.cmp .inn (.ixo 0 (.c (.int 1))) (.v 1))) (.skip)) (.seq (.ite (.cmp .eq (.v 3) (.c (.str "days"))) (.ret (.chain .le .le (.ixo 0 (.c (.int 1))) (.v 2) (.ixo 0 (.c (.int 2))))) (.skip)) (.seq (.ite (.cmp .eq (.v 3) (.c (.str "not"))) (.ret (.not (.call 15 (.cons (.ixo 0 (.c (.int 1))) (.cons (.v 1) (.cons (.v 2) (.nil))))))) (.skip)) (.seq (.ite (.cmp .eq (.v 3) (.c (.str "and"))) (.ret (.and (.call 15 (.cons (.ixo 0 (.c (.int 1))) (.cons (.v 1) (.cons (.v 2) (.nil))))) (.call 15 (.cons (.ixo 0 (.c (.int 2))) (.cons (.v 1) (.cons (.v 2) (.nil))))))) (.skip)) (.seq (.ite (.cmp .eq (.v 3) (.c (.str "or"))) (.ret (.or (.call 15 (.cons (.ixo 0 (.c (.int 1))) (.cons (.v 1) (.cons (.v 2) (.nil))))) (.call 15 (.cons (.ixo 0 (.c (.int 2))) (.cons (.v 1) (.cons (.v 2) (.nil))))))) (.skip)) (.ret (.c (.bl true))))))))
def D25 : CDef := ⟨3, 1, b25⟩
def E25 : DD := ⟨"holds_at", ["condition", "marks", "day"], defArgs (top 25), defBody (top 25), defScope (top 25), ["condition", "marks", "day", "name"], false, false, D25⟩
theorem e25 : DS CCk 15 E25 := ⟨fun _ _ _ _ _ _ us hl => match us, hl with | [_, _, _], _ => rfl, fun ks gp h => absurd (show ((15 : Nat), ks, gp) ∈ CCk.kws from h) (by simp [CCk]), ⟨rfl, rfl, rfl, by decide +kernel, rfl, by decide +kernel, by decide +kernel⟩, rfl, rfl, ⟨40, by kernel_rfl⟩⟩
def b30 : Cs := .ret (.or (.cmp .isN (.v 0) (.c (.non))) (.call 1 (.cons (.v 0) (.cons (.v 1) (.cons (.c (.int 1000000000)) (.nil))))))
def D30 : CDef := ⟨2, 0, b30⟩
def E30 : DD := ⟨"is_limit", ["value", "low"], defArgs (top 30), defBody (top 30), defScope (top 30), ["value", "low"], false, false, D30⟩
theorem e30 : DS CCk 16 E30 := ⟨fun _ _ _ _ _ _ us hl => match us, hl with | [_, _], _ => rfl, fun ks gp h => absurd (show ((16 : Nat), ks, gp) ∈ CCk.kws from h) (by simp [CCk]), ⟨rfl, rfl, rfl, by decide +kernel, rfl, by decide +kernel, by decide +kernel⟩, rfl, rfl, ⟨40, by kernel_rfl⟩⟩
def b31 : Cs := .ret (.and (.call 1 (.cons (.v 1) (.cons (.c (.int 1)) (.cons (.c (.int 100)) (.nil))))) (.call 1 (.cons (.v 0) (.cons (.c (.int 0)) (.cons (.v 1) (.nil))))))
def D31 : CDef := ⟨2, 0, b31⟩
def E31 : DD := ⟨"is_share", ["top", "bottom"], defArgs (top 31), defBody (top 31), defScope (top 31), ["top", "bottom"], false, false, D31⟩
theorem e31 : DS CCk 17 E31 := ⟨fun _ _ _ _ _ _ us hl => match us, hl with | [_, _], _ => rfl, fun ks gp h => absurd (show ((17 : Nat), ks, gp) ∈ CCk.kws from h) (by simp [CCk]), ⟨rfl, rfl, rfl, by decide +kernel, rfl, by decide +kernel, by decide +kernel⟩, rfl, rfl, ⟨40, by kernel_rfl⟩⟩
def b32 : Cs := .ret (.and (.call 19 (.cons (.v 0) (.cons (.c (.int 6)) (.nil)))) (.cmp .le (.call 21 (.cons (.v 0) (.nil))) (.c (.int 25))))
def D32 : CDef := ⟨1, 0, b32⟩
def E32 : DD := ⟨"is_term", ["value"], defArgs (top 32), defBody (top 32), defScope (top 32), ["value"], false, false, D32⟩
theorem e32 : DS CCk 18 E32 := ⟨fun _ _ _ _ _ _ us hl => match us, hl with | [_], _ => rfl, fun ks gp h => (by
    have h0 : ((18 : Nat), ks, gp) ∈ CCk.kws := h
    simp [CCk] at h0
    obtain ⟨rfl, rfl⟩ := h0
    exact ⟨rfl, by decide, fun _ _ _ _ _ _ ws hw => match ws, hw with | [_], _ => rfl⟩), ⟨rfl, rfl, rfl, by decide +kernel, rfl, by decide +kernel, by decide +kernel⟩, rfl, rfl, ⟨40, by kernel_rfl⟩⟩
def b33 : Cs := .seq (.ite (.or (.not (.call 2 (.cons (.v 0) (.cons (.c (.int 1)) (.cons (.c (.int 4)) (.nil)))))) (.or (.not (.bi (.isi .str) (.cons (.ixo 0 (.c (.int 0))) (.nil)))) (.cmp .ne (.bi (.dget [("loss", .int 1), ("fixed", .int 2), ("layer", .int 4), ("share", .int 4), ("when", .int 3), ("both", .int 3), ("rest", .int 3), ("least", .int 3), ("most", .int 3)]) (.cons (.ixo 0 (.c (.int 0))) (.cons (.c (.int 0)) (.nil)))) (.leno 0)))) (.ret (.c (.bl false))) (.skip)) (.seq (.set 2 (.ixo 0 (.c (.int 0)))) (.seq (.ite (.cmp .eq (.v 2) (.c (.str "loss"))) (.ret (.c (.bl true))) (.skip)) (.seq (.ite (.cmp .eq (.v 2) (.c (.str "fixed"))) (.ret (.call 1 (.cons (.ixo 0 (.c (.int 1))) (.cons (.c (.int 0)) (.cons (.c (.int 1000000000)) (.nil)))))) (.skip)) (.seq (.ite (.and (.cmp .eq (.v 2) (.c (.str "layer"))) (.not (.and (.call 1 (.cons (.ixo 0 (.c (.int 1))) (.cons (.c (.int 0)) (.cons (.c (.int 1000000000)) (.nil))))) (.call 16 (.cons (.ixo 0 (.c (.int 2))) (.cons (.ixo 0 (.c (.int 1))) (.nil))))))) (.ret (.c (.bl false))) (.skip)) (.seq (.ite (.and (.cmp .eq (.v 2) (.c (.str "share"))) (.not (.call 17 (.cons (.ixo 0 (.c (.int 1))) (.cons (.ixo 0 (.c (.int 2))) (.nil)))))) (.ret (.c (.bl false))) (.skip)) (.seq (.ite (.and (.cmp .eq (.v 2) (.c (.str "when"))) (.not (.call 13 (.cons (.ixo 0 (.c (.int 1))) (.nil))))) (.ret (.c (.bl false))) (.skip)) (.ret (.and (.cmp .gt (.v 1) (.c (.int 0))) (.bi .all (.cons (.lc [3] (.n 3) (.call 20 (.cons (.v 0) (.nil))) (.c (.bl true)) (.call 19 (.cons (.v 3) (.cons (.bin .sub (.v 1) (.c (.int 1))) (.nil))))) (.nil)))))))))))
def D33 : CDef := ⟨2, 2, b33⟩
def E33 : DD := ⟨"is_term_of", ["value", "deep"], defArgs (top 33), defBody (top 33), defScope (top 33), ["value", "deep", "name", "own"], false, false, D33⟩
theorem e33 : DS CCk 19 E33 := ⟨fun _ _ _ _ _ _ us hl => match us, hl with | [_, _], _ => rfl, fun ks gp h => absurd (show ((19 : Nat), ks, gp) ∈ CCk.kws from h) (by simp [CCk]), ⟨rfl, rfl, rfl, by decide +kernel, rfl, by decide +kernel, by decide +kernel⟩, rfl, rfl, ⟨40, by kernel_rfl⟩⟩
def b34 : Cs := .seq (.ite (.cmp .inn (.ixo 0 (.c (.int 0))) (.tup (.cons (.c (.str "loss")) (.cons (.c (.str "fixed")) (.nil))))) (.ret (.tup (.nil))) (.skip)) (.seq (.ite (.cmp .inn (.ixo 0 (.c (.int 0))) (.tup (.cons (.c (.str "layer")) (.cons (.c (.str "share")) (.nil))))) (.ret (.sl (.v 0) (.cons (.c (.int 3)) (.nil)) (.nil))) (.skip)) (.ret (.ife (.cmp .eq (.ixo 0 (.c (.int 0))) (.c (.str "when"))) (.sl (.v 0) (.cons (.c (.int 2)) (.nil)) (.nil)) (.sl (.v 0) (.cons (.c (.int 1)) (.nil)) (.nil)))))
def D34 : CDef := ⟨1, 0, b34⟩
def E34 : DD := ⟨"within", ["term"], defArgs (top 34), defBody (top 34), defScope (top 34), ["term"], false, false, D34⟩
theorem e34 : DS CCk 20 E34 := ⟨fun _ _ _ _ _ _ us hl => match us, hl with | [_], _ => rfl, fun ks gp h => absurd (show ((20 : Nat), ks, gp) ∈ CCk.kws from h) (by simp [CCk]), ⟨rfl, rfl, rfl, by decide +kernel, rfl, by decide +kernel, by decide +kernel⟩, rfl, rfl, ⟨40, by kernel_rfl⟩⟩
def b35 : Cs := .ret (.bin .add (.c (.int 1)) (.bi .sum (.cons (.lc [1] (.n 1) (.call 20 (.cons (.v 0) (.nil))) (.c (.bl true)) (.call 21 (.cons (.v 1) (.nil)))) (.nil))))
def D35 : CDef := ⟨1, 1, b35⟩
def E35 : DD := ⟨"size_of", ["term"], defArgs (top 35), defBody (top 35), defScope (top 35), ["term", "own"], false, false, D35⟩
theorem e35 : DS CCk 21 E35 := ⟨fun _ _ _ _ _ _ us hl => match us, hl with | [_], _ => rfl, fun ks gp h => absurd (show ((21 : Nat), ks, gp) ∈ CCk.kws from h) (by simp [CCk]), ⟨rfl, rfl, rfl, by decide +kernel, rfl, by decide +kernel, by decide +kernel⟩, rfl, rfl, ⟨40, by kernel_rfl⟩⟩
def b36 : Cs := .drop (.call 0 (.cons (.call 18 (.cons (.v 0) (.nil))) (.cons (.v 1) (.nil))))
def D36 : CDef := ⟨2, 0, b36⟩
def E36 : DD := ⟨"demand_term", ["term", "name"], defArgs (top 36), defBody (top 36), defScope (top 36), ["term", "name"], false, false, D36⟩
theorem e36 : DS CCk 22 E36 := ⟨fun _ _ _ _ _ _ us hl => match us, hl with | [_, _], _ => rfl, fun ks gp h => absurd (show ((22 : Nat), ks, gp) ∈ CCk.kws from h) (by simp [CCk]), ⟨rfl, rfl, rfl, by decide +kernel, rfl, by decide +kernel, by decide +kernel⟩, rfl, rfl, ⟨40, by kernel_rfl⟩⟩
def b37 : Cs := .seq (.set 4 (.ixo 0 (.c (.int 0)))) (.seq (.ite (.cmp .eq (.v 4) (.c (.str "loss"))) (.ret (.v 1)) (.skip)) (.seq (.ite (.cmp .eq (.v 4) (.c (.str "fixed"))) (.ret (.tup (.cons (.ixo 0 (.c (.int 1))) (.cons (.c (.int 1)) (.nil))))) (.skip)) (.seq (.ite (.and (.cmp .eq (.v 4) (.c (.str "when"))) (.not (.call 15 (.cons (.ixo 0 (.c (.int 1))) (.cons (.v 2) (.cons (.v 3) (.nil))))))) (.ret (.tup (.cons (.c (.int 0)) (.cons (.c (.int 1)) (.nil))))) (.skip)) (.seq (.set 5 (.lc [7] (.n 7) (.call 20 (.cons (.v 0) (.nil))) (.c (.bl true)) (.call 23 (.cons (.v 7) (.cons (.v 1) (.cons (.v 2) (.cons (.v 3) (.nil)))))))) (.seq (.ite (.cmp .eq (.v 4) (.c (.str "layer"))) (.ret (.call 11 (.cons (.ixo 5 (.c (.int 0))) (.cons (.ixo 0 (.c (.int 1))) (.cons (.ixo 0 (.c (.int 2))) (.nil)))))) (.skip)) (.seq (.ite (.cmp .eq (.v 4) (.c (.str "share"))) (.ret (.call 8 (.cons (.ixo 5 (.c (.int 0))) (.cons (.tup (.cons (.ixo 0 (.c (.int 1))) (.cons (.ixo 0 (.c (.int 2))) (.nil)))) (.nil))))) (.skip)) (.seq (.ite (.cmp .eq (.v 4) (.c (.str "when"))) (.ret (.ixo 5 (.c (.int 0)))) (.skip)) (.seq (.ite (.cmp .eq (.v 4) (.c (.str "both"))) (.ret (.call 6 (.cons (.ixo 5 (.c (.int 0))) (.cons (.ixo 5 (.c (.int 1))) (.nil))))) (.skip)) (.seq (.ite (.cmp .eq (.v 4) (.c (.str "rest"))) (.ret (.call 10 (.cons (.call 7 (.cons (.ixo 5 (.c (.int 0))) (.cons (.ixo 5 (.c (.int 1))) (.nil)))) (.nil)))) (.skip)) (.seq (.set 6 (.cmp .eq (.call 9 (.cons (.ixo 5 (.c (.int 0))) (.cons (.ixo 5 (.c (.int 1))) (.nil)))) (.cmp .eq (.v 4) (.c (.str "least"))))) (.ret (.ife (.v 6) (.ixo 5 (.c (.int 0))) (.ixo 5 (.c (.int 1)))))))))))))))
def D37 : CDef := ⟨4, 4, b37⟩
def E37 : DD := ⟨"paid", ["term", "amount", "marks", "day"], defArgs (top 37), defBody (top 37), defScope (top 37), ["term", "amount", "marks", "day", "name", "values", "is_first", "own"], false, false, D37⟩
theorem e37 : DS CCk 23 E37 := ⟨fun _ _ _ _ _ _ us hl => match us, hl with | [_, _, _, _], _ => rfl, fun ks gp h => absurd (show ((23 : Nat), ks, gp) ∈ CCk.kws from h) (by simp [CCk]), ⟨rfl, rfl, rfl, by decide +kernel, rfl, by decide +kernel, by decide +kernel⟩, rfl, rfl, ⟨40, by kernel_rfl⟩⟩
def b38 : Cs := .seq (.drop (.call 22 (.cons (.v 0) (.cons (.c (.str "term")) (.nil))))) (.seq (.drop (.call 0 (.cons (.call 12 (.cons (.v 1) (.nil))) (.cons (.c (.str "case")) (.nil))))) (.ret (.call 23 (.cons (.v 0) (.cons (.tup (.cons (.ixo 1 (.c (.int 0))) (.cons (.c (.int 1)) (.nil)))) (.cons (.ixo 1 (.c (.int 1))) (.cons (.ixo 1 (.c (.int 2))) (.nil))))))))
def D38 : CDef := ⟨2, 0, b38⟩
def E38 : DD := ⟨"pays", ["term", "case"], defArgs (top 38), defBody (top 38), defScope (top 38), ["term", "case"], false, false, D38⟩
theorem e38 : DS CCk 24 E38 := ⟨fun _ _ _ _ _ _ us hl => match us, hl with | [_, _], _ => rfl, fun ks gp h => (by
    have h0 : ((24 : Nat), ks, gp) ∈ CCk.kws := h
    simp [CCk] at h0
    obtain ⟨rfl, rfl⟩ := h0
    exact ⟨rfl, by decide, fun _ _ _ _ _ _ ws hw => match ws, hw with | [_, _], _ => rfl⟩), ⟨rfl, rfl, rfl, by decide +kernel, rfl, by decide +kernel, by decide +kernel⟩, rfl, rfl, ⟨40, by kernel_rfl⟩⟩
def b39 : Cs := .seq (.drop (.call 22 (.cons (.v 0) (.cons (.c (.str "term")) (.nil))))) (.ret (.call 21 (.cons (.v 0) (.nil))))
def D39 : CDef := ⟨1, 0, b39⟩
def E39 : DD := ⟨"how_many", ["term"], defArgs (top 39), defBody (top 39), defScope (top 39), ["term"], false, false, D39⟩
theorem e39 : DS CCk 25 E39 := ⟨fun _ _ _ _ _ _ us hl => match us, hl with | [_], _ => rfl, fun ks gp h => (by
    have h0 : ((25 : Nat), ks, gp) ∈ CCk.kws := h
    simp [CCk] at h0
    obtain ⟨rfl, rfl⟩ := h0
    exact ⟨rfl, by decide, fun _ _ _ _ _ _ ws hw => match ws, hw with | [_], _ => rfl⟩), ⟨rfl, rfl, rfl, by decide +kernel, rfl, by decide +kernel, by decide +kernel⟩, rfl, rfl, ⟨40, by kernel_rfl⟩⟩
def b40 : Cs := .seq (.drop (.call 22 (.cons (.v 0) (.cons (.c (.str "term")) (.nil))))) (.ret (.call 27 (.cons (.v 0) (.nil))))
def D40 : CDef := ⟨1, 0, b40⟩
def E40 : DD := ⟨"is_plain", ["term"], defArgs (top 40), defBody (top 40), defScope (top 40), ["term"], false, false, D40⟩
theorem e40 : DS CCk 26 E40 := ⟨fun _ _ _ _ _ _ us hl => match us, hl with | [_], _ => rfl, fun ks gp h => (by
    have h0 : ((26 : Nat), ks, gp) ∈ CCk.kws := h
    simp [CCk] at h0
    obtain ⟨rfl, rfl⟩ := h0
    exact ⟨rfl, by decide, fun _ _ _ _ _ _ ws hw => match ws, hw with | [_], _ => rfl⟩), ⟨rfl, rfl, rfl, by decide +kernel, rfl, by decide +kernel, by decide +kernel⟩, rfl, rfl, ⟨40, by kernel_rfl⟩⟩
def b41 : Cs := .ret (.and (.cmp .notIn (.ixo 0 (.c (.int 0))) (.tup (.cons (.c (.str "fixed")) (.cons (.c (.str "both")) (.nil))))) (.bi .all (.cons (.lc [1] (.n 1) (.call 20 (.cons (.v 0) (.nil))) (.c (.bl true)) (.call 27 (.cons (.v 1) (.nil)))) (.nil))))
def D41 : CDef := ⟨1, 1, b41⟩
def E41 : DD := ⟨"plain_of", ["term"], defArgs (top 41), defBody (top 41), defScope (top 41), ["term", "own"], false, false, D41⟩
theorem e41 : DS CCk 27 E41 := ⟨fun _ _ _ _ _ _ us hl => match us, hl with | [_], _ => rfl, fun ks gp h => absurd (show ((27 : Nat), ks, gp) ∈ CCk.kws from h) (by simp [CCk]), ⟨rfl, rfl, rfl, by decide +kernel, rfl, by decide +kernel, by decide +kernel⟩, rfl, rfl, ⟨40, by kernel_rfl⟩⟩
def b43 : Cs := .seq (.set 2 (.ife (.cmp .lt (.v 1) (.leno 0)) (.ixo 0 (.v 1)) (.bin .add (.bin .mul (.c (.int 811)) (.v 1)) (.c (.int 37))))) (.seq (.set 3 (.bin .add (.c (.int 700001)) (.bin .mul (.c (.int 6947)) (.v 1)))) (.seq (.for_ (.n 4) (.bin .add (.sl (.v 0) (.nil) (.cons (.c (.int 6)) (.nil))) (.lst (.cons (.v 2) (.nil)))) (.set 3 (.bin .mod (.bi .int1 (.cons (.bin .add (.bin .mul (.v 3) (.c (.int 69621))) (.bin .mod (.bi .int1 (.cons (.v 4) (.nil))) (.c (.int 2147480009)))) (.nil))) (.c (.int 2147480009))))) (.ret (.obj (.cons (.ife (.or (.cmp .lt (.v 2) (.c (.int 0))) (.cmp .ge (.v 2) (.bin .pow (.c (.int 10)) (.c (.int 16))))) (.bi .abs (.cons (.v 2) (.nil))) (.c (.int 0))) (.cons (.v 3) (.cons (.c (.int 0)) (.nil))))))))
def D43 : CDef := ⟨2, 3, b43⟩
def E43 : DD := ⟨"_law_dice", ["script", "spot"], defArgs (top 43), defBody (top 43), defScope (top 43), ["script", "spot", "own", "mixed", "cell"], true, false, D43⟩
theorem e43 : DS CCk 28 E43 := ⟨fun _ _ _ _ _ _ us hl => match us, hl with | [_, _], _ => rfl, fun ks gp h => absurd (show ((28 : Nat), ks, gp) ∈ CCk.kws from h) (by simp [CCk]), ⟨rfl, rfl, rfl, by decide +kernel, rfl, by decide +kernel, by decide +kernel⟩, rfl, rfl, ⟨40, by kernel_rfl⟩⟩
def b44 : Cs := .seq (.ite (.cmp .gt (.ixo 0 (.c (.int 0))) (.c (.int 0))) (.seq (.set 2 (.bin .mod (.bi .int1 (.cons (.ixo 0 (.c (.int 0))) (.nil))) (.v 1))) (.seq (.sti 0 (.c (.int 0)) (.bin .fdiv (.ixo 0 (.c (.int 0))) (.v 1))) (.ret (.v 2)))) (.skip)) (.seq (.sti 0 (.c (.int 2)) (.bin .add (.ixo 0 (.c (.int 2))) (.c (.int 1)))) (.seq (.sti 0 (.c (.int 1)) (.bin .mod (.bi .int1 (.cons (.bin .add (.bin .add (.bin .mul (.ixo 0 (.c (.int 1))) (.c (.int 48271))) (.bin .mul (.bin .mul (.ixo 0 (.c (.int 2))) (.ixo 0 (.c (.int 2)))) (.c (.int 2003)))) (.c (.int 91))) (.nil))) (.c (.int 2147480009)))) (.ret (.bin .mod (.bi .int1 (.cons (.bin .fdiv (.ixo 0 (.c (.int 1))) (.c (.int 197))) (.nil))) (.v 1)))))
def D44 : CDef := ⟨2, 1, b44⟩
def E44 : DD := ⟨"_law_roll", ["dice", "total"], defArgs (top 44), defBody (top 44), defScope (top 44), ["dice", "total", "found"], false, false, D44⟩
theorem e44 : DS CCk 29 E44 := ⟨fun _ _ _ _ _ _ us hl => match us, hl with | [_, _], _ => rfl, fun ks gp h => absurd (show ((29 : Nat), ks, gp) ∈ CCk.kws from h) (by simp [CCk]), ⟨rfl, rfl, rfl, by decide +kernel, rfl, by decide +kernel, by decide +kernel⟩, rfl, rfl, ⟨40, by kernel_rfl⟩⟩
def b45 : Cs := .ret (.ixo 1 (.call 29 (.cons (.v 0) (.cons (.leno 1) (.nil)))))
def D45 : CDef := ⟨2, 0, b45⟩
def E45 : DD := ⟨"_law_pick", ["dice", "things"], defArgs (top 45), defBody (top 45), defScope (top 45), ["dice", "things"], false, false, D45⟩
theorem e45 : DS CCk 30 E45 := ⟨fun _ _ _ _ _ _ us hl => match us, hl with | [_, _], _ => rfl, fun ks gp h => absurd (show ((30 : Nat), ks, gp) ∈ CCk.kws from h) (by simp [CCk]), ⟨rfl, rfl, rfl, by decide +kernel, rfl, by decide +kernel, by decide +kernel⟩, rfl, rfl, ⟨40, by kernel_rfl⟩⟩
def b47 : Cs := .seq (.set 2 (.call 29 (.cons (.v 0) (.cons (.ife (.cmp .gt (.v 1) (.c (.int 0))) (.c (.int 6)) (.c (.int 3))) (.nil))))) (.seq (.ite (.cmp .eq (.v 2) (.c (.int 0))) (.ret (.tup (.cons (.c (.str "all")) (.nil)))) (.skip)) (.seq (.ite (.cmp .eq (.v 2) (.c (.int 1))) (.ret (.tup (.cons (.c (.str "mark")) (.cons (.call 29 (.cons (.v 0) (.cons (.c (.int 4)) (.nil)))) (.nil))))) (.skip)) (.seq (.ite (.cmp .eq (.v 2) (.c (.int 2))) (.seq (.set 3 (.call 30 (.cons (.v 0) (.cons (.lst (.cons (.c (.int 0)) (.cons (.c (.int 5)) (.cons (.c (.int 10)) (.cons (.c (.int 10)) (.cons (.c (.int 20)) (.cons (.c (.int 500)) (.cons (.c (.int 999)) (.nil))))))))) (.nil))))) (.ret (.tup (.cons (.c (.str "days")) (.cons (.v 3) (.cons (.bi .min2 (.cons (.c (.int 999)) (.cons (.bin .add (.v 3) (.call 30 (.cons (.v 0) (.cons (.lst (.cons (.c (.int 0)) (.cons (.c (.int 1)) (.cons (.c (.int 5)) (.cons (.c (.int 10)) (.cons (.c (.int 999)) (.nil))))))) (.nil))))) (.nil)))) (.nil))))))) (.skip)) (.seq (.ite (.cmp .eq (.v 2) (.c (.int 3))) (.ret (.tup (.cons (.c (.str "not")) (.cons (.call 31 (.cons (.v 0) (.cons (.bin .sub (.v 1) (.c (.int 1))) (.nil)))) (.nil))))) (.skip)) (.ret (.tup (.cons (.ife (.cmp .eq (.v 2) (.c (.int 4))) (.c (.str "and")) (.c (.str "or"))) (.cons (.call 31 (.cons (.v 0) (.cons (.bin .sub (.v 1) (.c (.int 1))) (.nil)))) (.cons (.call 31 (.cons (.v 0) (.cons (.bin .sub (.v 1) (.c (.int 1))) (.nil)))) (.nil))))))))))
def D47 : CDef := ⟨2, 2, b47⟩
def E47 : DD := ⟨"_law_condition", ["dice", "deep"], defArgs (top 47), defBody (top 47), defScope (top 47), ["dice", "deep", "kind", "first"], false, false, D47⟩
theorem e47 : DS CCk 31 E47 := ⟨fun _ _ _ _ _ _ us hl => match us, hl with | [_, _], _ => rfl, fun ks gp h => absurd (show ((31 : Nat), ks, gp) ∈ CCk.kws from h) (by simp [CCk]), ⟨rfl, rfl, rfl, by decide +kernel, rfl, by decide +kernel, by decide +kernel⟩, rfl, rfl, ⟨40, by kernel_rfl⟩⟩
def b48 : Cs := .seq (.ite (.cmp .eq (.ixo 0 (.c (.int 0))) (.c (.str "all"))) (.ret (.c (.bl true))) (.skip)) (.seq (.ite (.cmp .eq (.ixo 0 (.c (.int 0))) (.c (.str "mark"))) (.ret (.cmp .inn (.ixo 0 (.c (.int 1))) (.v 1))) (.skip)) (.seq (.ite (.cmp .eq (.ixo 0 (.c (.int 0))) (.c (.str "days"))) (.ret (.and (.cmp .le (.ixo 0 (.c (.int 1))) (.v 2)) (.cmp .le (.v 2) (.ixo 0 (.c (.int 2)))))) (.skip)) (.seq (.ite (.cmp .eq (.ixo 0 (.c (.int 0))) (.c (.str "not"))) (.ret (.not (.call 32 (.cons (.ixo 0 (.c (.int 1))) (.cons (.v 1) (.cons (.v 2) (.nil))))))) (.skip)) (.seq (.par 3 4 (.call 32 (.cons (.ixo 0 (.c (.int 1))) (.cons (.v 1) (.cons (.v 2) (.nil))))) (.call 32 (.cons (.ixo 0 (.c (.int 2))) (.cons (.v 1) (.cons (.v 2) (.nil))))) false false) (.ret (.ife (.cmp .eq (.ixo 0 (.c (.int 0))) (.c (.str "and"))) (.and (.v 3) (.v 4)) (.or (.v 3) (.v 4))))))))
def D48 : CDef := ⟨3, 2, b48⟩
def E48 : DD := ⟨"_law_holds", ["own", "marks", "day"], defArgs (top 48), defBody (top 48), defScope (top 48), ["own", "marks", "day", "one", "other"], false, false, D48⟩
theorem e48 : DS CCk 32 E48 := ⟨fun _ _ _ _ _ _ us hl => match us, hl with | [_, _, _], _ => rfl, fun ks gp h => absurd (show ((32 : Nat), ks, gp) ∈ CCk.kws from h) (by simp [CCk]), ⟨rfl, rfl, rfl, by decide +kernel, rfl, by decide +kernel, by decide +kernel⟩, rfl, rfl, ⟨40, by kernel_rfl⟩⟩
def b49 : Cs := .seq (.set 0 (.lc [1] (.n 1) (.bi .range1 (.cons (.c (.int 16)) (.nil))) (.c (.bl true)) (.bi .tuple (.cons (.lc [2] (.n 2) (.bi .range1 (.cons (.c (.int 4)) (.nil))) (.cmp .eq (.bin .mod (.bi .int1 (.cons (.bin .fdiv (.v 1) (.ix (.tup (.cons (.c (.int 1)) (.cons (.c (.int 2)) (.cons (.c (.int 4)) (.cons (.c (.int 8)) (.nil)))))) (.v 2))) (.nil))) (.c (.int 2))) (.c (.int 1))) (.v 2)) (.nil))))) (.ret (.bi .sorted (.cons (.v 0) (.nil))))
def D49 : CDef := ⟨0, 3, b49⟩
def E49 : DD := ⟨"_law_marks", [], defArgs (top 49), defBody (top 49), defScope (top 49), ["found", "number", "mark"], false, false, D49⟩
theorem e49 : DS CCk 33 E49 := ⟨fun _ _ _ _ _ _ us hl => match us, hl with | [], _ => rfl, fun ks gp h => absurd (show ((33 : Nat), ks, gp) ∈ CCk.kws from h) (by simp [CCk]), ⟨rfl, rfl, rfl, by decide +kernel, rfl, by decide +kernel, by decide +kernel⟩, rfl, rfl, ⟨40, by kernel_rfl⟩⟩
def b50 : Cs := .ret (.tup (.cons (.call 29 (.cons (.v 0) (.cons (.bin .add (.v 1) (.c (.int 1))) (.nil)))) (.cons (.call 30 (.cons (.v 0) (.cons (.call 33 (.nil)) (.nil)))) (.cons (.call 30 (.cons (.v 0) (.cons (.lst (.cons (.c (.int 0)) (.cons (.c (.int 4)) (.cons (.c (.int 5)) (.cons (.c (.int 9)) (.cons (.c (.int 10)) (.cons (.c (.int 11)) (.cons (.c (.int 15)) (.cons (.c (.int 20)) (.cons (.c (.int 21)) (.cons (.c (.int 500)) (.cons (.c (.int 998)) (.cons (.c (.int 999)) (.nil)))))))))))))) (.nil)))) (.nil)))))
def D50 : CDef := ⟨2, 0, b50⟩
def E50 : DD := ⟨"_law_case", ["dice", "most"], defArgs (top 50), defBody (top 50), defScope (top 50), ["dice", "most"], false, false, D50⟩
theorem e50 : DS CCk 34 E50 := ⟨fun _ _ _ _ _ _ us hl => match us, hl with | [_, _], _ => rfl, fun ks gp h => absurd (show ((34 : Nat), ks, gp) ∈ CCk.kws from h) (by simp [CCk]), ⟨rfl, rfl, rfl, by decide +kernel, rfl, by decide +kernel, by decide +kernel⟩, rfl, rfl, ⟨40, by kernel_rfl⟩⟩
def b51 : Cs := .seq (.par 2 3 (.bi .abs (.cons (.v 0) (.nil))) (.v 1) false false) (.seq (.while_ (.cmp .ne (.v 3) (.c (.int 0))) (.par 2 3 (.v 3) (.bin .mod (.bi .int1 (.cons (.v 2) (.nil))) (.v 3)) false false)) (.ret (.tup (.cons (.bin .fdiv (.v 0) (.v 2)) (.cons (.bin .fdiv (.v 1) (.v 2)) (.nil))))))
def D51 : CDef := ⟨2, 2, b51⟩
def E51 : DD := ⟨"_law_low", ["top", "bottom"], defArgs (top 51), defBody (top 51), defScope (top 51), ["top", "bottom", "one", "other"], false, false, D51⟩
theorem e51 : DS CCk 35 E51 := ⟨fun _ _ _ _ _ _ us hl => match us, hl with | [_, _], _ => rfl, fun ks gp h => absurd (show ((35 : Nat), ks, gp) ∈ CCk.kws from h) (by simp [CCk]), ⟨rfl, rfl, rfl, by decide +kernel, rfl, by decide +kernel, by decide +kernel⟩, rfl, rfl, ⟨40, by kernel_rfl⟩⟩
def b52 : Cs := .ret (.call 35 (.cons (.bin .sub (.bin .mul (.ixo 0 (.c (.int 0))) (.ixo 1 (.c (.int 1)))) (.bin .mul (.ixo 1 (.c (.int 0))) (.ixo 0 (.c (.int 1))))) (.cons (.bin .mul (.ixo 0 (.c (.int 1))) (.ixo 1 (.c (.int 1)))) (.nil))))
def D52 : CDef := ⟨2, 0, b52⟩
def E52 : DD := ⟨"_law_less", ["one", "other"], defArgs (top 52), defBody (top 52), defScope (top 52), ["one", "other"], false, false, D52⟩
theorem e52 : DS CCk 36 E52 := ⟨fun _ _ _ _ _ _ us hl => match us, hl with | [_, _], _ => rfl, fun ks gp h => absurd (show ((36 : Nat), ks, gp) ∈ CCk.kws from h) (by simp [CCk]), ⟨rfl, rfl, rfl, by decide +kernel, rfl, by decide +kernel, by decide +kernel⟩, rfl, rfl, ⟨40, by kernel_rfl⟩⟩
def b53 : Cs := .ret (.call 35 (.cons (.bin .add (.bin .mul (.ixo 0 (.c (.int 0))) (.ixo 1 (.c (.int 1)))) (.bin .mul (.ixo 1 (.c (.int 0))) (.ixo 0 (.c (.int 1))))) (.cons (.bin .mul (.ixo 0 (.c (.int 1))) (.ixo 1 (.c (.int 1)))) (.nil))))
def D53 : CDef := ⟨2, 0, b53⟩
def E53 : DD := ⟨"_law_plus", ["one", "other"], defArgs (top 53), defBody (top 53), defScope (top 53), ["one", "other"], false, false, D53⟩
theorem e53 : DS CCk 37 E53 := ⟨fun _ _ _ _ _ _ us hl => match us, hl with | [_, _], _ => rfl, fun ks gp h => absurd (show ((37 : Nat), ks, gp) ∈ CCk.kws from h) (by simp [CCk]), ⟨rfl, rfl, rfl, by decide +kernel, rfl, by decide +kernel, by decide +kernel⟩, rfl, rfl, ⟨40, by kernel_rfl⟩⟩
def b54 : Cs := .ret (.cmp .lt (.bin .mul (.ixo 0 (.c (.int 0))) (.ixo 1 (.c (.int 1)))) (.bin .mul (.ixo 1 (.c (.int 0))) (.ixo 0 (.c (.int 1)))))
def D54 : CDef := ⟨2, 0, b54⟩
def E54 : DD := ⟨"_law_under", ["one", "other"], defArgs (top 54), defBody (top 54), defScope (top 54), ["one", "other"], false, false, D54⟩
theorem e54 : DS CCk 38 E54 := ⟨fun _ _ _ _ _ _ us hl => match us, hl with | [_, _], _ => rfl, fun ks gp h => absurd (show ((38 : Nat), ks, gp) ∈ CCk.kws from h) (by simp [CCk]), ⟨rfl, rfl, rfl, by decide +kernel, rfl, by decide +kernel, by decide +kernel⟩, rfl, rfl, ⟨40, by kernel_rfl⟩⟩
def b55 : Cs := .seq (.set 3 (.call 36 (.cons (.v 0) (.cons (.tup (.cons (.v 1) (.cons (.c (.int 1)) (.nil)))) (.nil))))) (.seq (.ite (.cmp .lt (.ixo 3 (.c (.int 0))) (.c (.int 0))) (.set 3 (.tup (.cons (.c (.int 0)) (.cons (.c (.int 1)) (.nil))))) (.skip)) (.ret (.ife (.and (.cmp .notN (.v 2) (.c (.non))) (.call 38 (.cons (.tup (.cons (.bin .sub (.v 2) (.v 1)) (.cons (.c (.int 1)) (.nil)))) (.cons (.v 3) (.nil))))) (.tup (.cons (.bin .sub (.v 2) (.v 1)) (.cons (.c (.int 1)) (.nil)))) (.v 3))))
def D55 : CDef := ⟨3, 1, b55⟩
def E55 : DD := ⟨"_law_between", ["own", "low", "high"], defArgs (top 55), defBody (top 55), defScope (top 55), ["own", "low", "high", "found"], false, false, D55⟩
theorem e55 : DS CCk 39 E55 := ⟨fun _ _ _ _ _ _ us hl => match us, hl with | [_, _, _], _ => rfl, fun ks gp h => absurd (show ((39 : Nat), ks, gp) ∈ CCk.kws from h) (by simp [CCk]), ⟨rfl, rfl, rfl, by decide +kernel, rfl, by decide +kernel, by decide +kernel⟩, rfl, rfl, ⟨40, by kernel_rfl⟩⟩
def b56 : Cs := .seq (.set 2 (.call 29 (.cons (.v 0) (.cons (.ife (.cmp .gt (.v 1) (.c (.int 0))) (.c (.int 10)) (.c (.int 3))) (.nil))))) (.seq (.ite (.cmp .lt (.v 2) (.c (.int 2))) (.ret (.tup (.cons (.c (.str "loss")) (.nil)))) (.skip)) (.seq (.ite (.cmp .eq (.v 2) (.c (.int 2))) (.ret (.tup (.cons (.c (.str "fixed")) (.cons (.call 30 (.cons (.v 0) (.cons (.lst (.cons (.c (.int 0)) (.cons (.c (.int 0)) (.cons (.c (.int 3)) (.cons (.c (.int 7)) (.cons (.c (.int 20)) (.nil))))))) (.nil)))) (.nil))))) (.skip)) (.seq (.ite (.cmp .inn (.v 2) (.tup (.cons (.c (.int 3)) (.cons (.c (.int 4)) (.nil))))) (.seq (.set 4 (.call 30 (.cons (.v 0) (.cons (.lst (.cons (.c (.int 0)) (.cons (.c (.int 0)) (.cons (.c (.int 2)) (.cons (.c (.int 5)) (.cons (.c (.int 10)) (.nil))))))) (.nil))))) (.seq (.set 5 (.call 30 (.cons (.v 0) (.cons (.lst (.cons (.c (.non)) (.cons (.v 4) (.cons (.bin .add (.v 4) (.c (.int 1))) (.cons (.bin .add (.v 4) (.c (.int 4))) (.cons (.bin .add (.v 4) (.c (.int 10))) (.nil))))))) (.nil))))) (.ret (.tup (.cons (.c (.str "layer")) (.cons (.v 4) (.cons (.v 5) (.cons (.call 40 (.cons (.v 0) (.cons (.bin .sub (.v 1) (.c (.int 1))) (.nil)))) (.nil))))))))) (.skip)) (.seq (.ite (.cmp .eq (.v 2) (.c (.int 5))) (.seq (.set 6 (.call 30 (.cons (.v 0) (.cons (.lst (.cons (.tup (.cons (.c (.int 1)) (.cons (.c (.int 2)) (.nil)))) (.cons (.tup (.cons (.c (.int 1)) (.cons (.c (.int 3)) (.nil)))) (.cons (.tup (.cons (.c (.int 2)) (.cons (.c (.int 3)) (.nil)))) (.cons (.tup (.cons (.c (.int 0)) (.cons (.c (.int 1)) (.nil)))) (.cons (.tup (.cons (.c (.int 1)) (.cons (.c (.int 1)) (.nil)))) (.cons (.tup (.cons (.c (.int 3)) (.cons (.c (.int 4)) (.nil)))) (.cons (.tup (.cons (.c (.int 50)) (.cons (.c (.int 100)) (.nil)))) (.nil))))))))) (.nil))))) (.ret (.tup (.cons (.c (.str "share")) (.cons (.ixo 6 (.c (.int 0))) (.cons (.ixo 6 (.c (.int 1))) (.cons (.call 40 (.cons (.v 0) (.cons (.bin .sub (.v 1) (.c (.int 1))) (.nil)))) (.nil)))))))) (.skip)) (.seq (.ite (.cmp .eq (.v 2) (.c (.int 6))) (.ret (.tup (.cons (.c (.str "when")) (.cons (.call 31 (.cons (.v 0) (.cons (.c (.int 1)) (.nil)))) (.cons (.call 40 (.cons (.v 0) (.cons (.bin .sub (.v 1) (.c (.int 1))) (.nil)))) (.nil)))))) (.skip)) (.seq (.set 3 (.call 30 (.cons (.v 0) (.cons (.lst (.cons (.c (.str "both")) (.cons (.c (.str "rest")) (.cons (.c (.str "least")) (.cons (.c (.str "most")) (.nil)))))) (.nil))))) (.ret (.tup (.cons (.v 3) (.cons (.call 40 (.cons (.v 0) (.cons (.bin .sub (.v 1) (.c (.int 1))) (.nil)))) (.cons (.call 40 (.cons (.v 0) (.cons (.bin .sub (.v 1) (.c (.int 1))) (.nil)))) (.nil))))))))))))
def D56 : CDef := ⟨2, 5, b56⟩
def E56 : DD := ⟨"_law_term", ["dice", "deep"], defArgs (top 56), defBody (top 56), defScope (top 56), ["dice", "deep", "kind", "name", "low", "high", "pair"], false, false, D56⟩
theorem e56 : DS CCk 40 E56 := ⟨fun _ _ _ _ _ _ us hl => match us, hl with | [_, _], _ => rfl, fun ks gp h => absurd (show ((40 : Nat), ks, gp) ∈ CCk.kws from h) (by simp [CCk]), ⟨rfl, rfl, rfl, by decide +kernel, rfl, by decide +kernel, by decide +kernel⟩, rfl, rfl, ⟨40, by kernel_rfl⟩⟩
def b57 : Cs := .seq (.ite (.cmp .inn (.ixo 0 (.c (.int 0))) (.tup (.cons (.c (.str "loss")) (.cons (.c (.str "fixed")) (.nil))))) (.ret (.tup (.nil))) (.skip)) (.ret (.ife (.cmp .inn (.ixo 0 (.c (.int 0))) (.tup (.cons (.c (.str "layer")) (.cons (.c (.str "share")) (.nil))))) (.sl (.v 0) (.cons (.c (.int 3)) (.nil)) (.nil)) (.ife (.cmp .eq (.ixo 0 (.c (.int 0))) (.c (.str "when"))) (.sl (.v 0) (.cons (.c (.int 2)) (.nil)) (.nil)) (.sl (.v 0) (.cons (.c (.int 1)) (.nil)) (.nil)))))
def D57 : CDef := ⟨1, 0, b57⟩
def E57 : DD := ⟨"_law_inner", ["term"], defArgs (top 57), defBody (top 57), defScope (top 57), ["term"], false, false, D57⟩
theorem e57 : DS CCk 41 E57 := ⟨fun _ _ _ _ _ _ us hl => match us, hl with | [_], _ => rfl, fun ks gp h => absurd (show ((41 : Nat), ks, gp) ∈ CCk.kws from h) (by simp [CCk]), ⟨rfl, rfl, rfl, by decide +kernel, rfl, by decide +kernel, by decide +kernel⟩, rfl, rfl, ⟨40, by kernel_rfl⟩⟩
def b58 : Cs := .seq (.set 4 (.ixo 0 (.c (.int 0)))) (.seq (.ite (.cmp .eq (.v 4) (.c (.str "loss"))) (.ret (.v 1)) (.skip)) (.seq (.ite (.cmp .eq (.v 4) (.c (.str "fixed"))) (.ret (.tup (.cons (.ixo 0 (.c (.int 1))) (.cons (.c (.int 1)) (.nil))))) (.skip)) (.seq (.ite (.cmp .eq (.v 4) (.c (.str "when"))) (.ret (.ife (.call 32 (.cons (.ixo 0 (.c (.int 1))) (.cons (.v 2) (.cons (.v 3) (.nil))))) (.call 42 (.cons (.ixo 0 (.c (.int 2))) (.cons (.v 1) (.cons (.v 2) (.cons (.v 3) (.nil)))))) (.tup (.cons (.c (.int 0)) (.cons (.c (.int 1)) (.nil)))))) (.skip)) (.seq (.set 5 (.lc [6] (.n 6) (.call 41 (.cons (.v 0) (.nil))) (.c (.bl true)) (.call 42 (.cons (.v 6) (.cons (.v 1) (.cons (.v 2) (.cons (.v 3) (.nil)))))))) (.seq (.ite (.cmp .eq (.v 4) (.c (.str "layer"))) (.ret (.call 39 (.cons (.ixo 5 (.c (.int 0))) (.cons (.ixo 0 (.c (.int 1))) (.cons (.ixo 0 (.c (.int 2))) (.nil)))))) (.skip)) (.seq (.ite (.cmp .eq (.v 4) (.c (.str "share"))) (.ret (.call 35 (.cons (.bin .mul (.ix (.ixo 5 (.c (.int 0))) (.c (.int 0))) (.ixo 0 (.c (.int 1)))) (.cons (.bin .mul (.ix (.ixo 5 (.c (.int 0))) (.c (.int 1))) (.ixo 0 (.c (.int 2)))) (.nil))))) (.skip)) (.seq (.ite (.cmp .eq (.v 4) (.c (.str "both"))) (.ret (.call 37 (.cons (.ixo 5 (.c (.int 0))) (.cons (.ixo 5 (.c (.int 1))) (.nil))))) (.skip)) (.seq (.ite (.cmp .eq (.v 4) (.c (.str "rest"))) (.ret (.call 39 (.cons (.call 36 (.cons (.ixo 5 (.c (.int 0))) (.cons (.ixo 5 (.c (.int 1))) (.nil)))) (.cons (.c (.int 0)) (.cons (.c (.non)) (.nil)))))) (.skip)) (.ret (.ife (.cmp .eq (.call 38 (.cons (.ixo 5 (.c (.int 0))) (.cons (.ixo 5 (.c (.int 1))) (.nil)))) (.cmp .eq (.v 4) (.c (.str "least")))) (.ixo 5 (.c (.int 0))) (.ixo 5 (.c (.int 1)))))))))))))
def D58 : CDef := ⟨4, 3, b58⟩
def E58 : DD := ⟨"_law_pays", ["term", "amount", "marks", "day"], defArgs (top 58), defBody (top 58), defScope (top 58), ["term", "amount", "marks", "day", "name", "own", "one"], false, false, D58⟩
theorem e58 : DS CCk 42 E58 := ⟨fun _ _ _ _ _ _ us hl => match us, hl with | [_, _, _, _], _ => rfl, fun ks gp h => absurd (show ((42 : Nat), ks, gp) ∈ CCk.kws from h) (by simp [CCk]), ⟨rfl, rfl, rfl, by decide +kernel, rfl, by decide +kernel, by decide +kernel⟩, rfl, rfl, ⟨40, by kernel_rfl⟩⟩
def b59 : Cs := .ret (.call 42 (.cons (.v 0) (.cons (.tup (.cons (.ixo 1 (.c (.int 0))) (.cons (.c (.int 1)) (.nil)))) (.cons (.ixo 1 (.c (.int 1))) (.cons (.ixo 1 (.c (.int 2))) (.nil))))))
def D59 : CDef := ⟨2, 0, b59⟩
def E59 : DD := ⟨"_law_in", ["term", "case"], defArgs (top 59), defBody (top 59), defScope (top 59), ["term", "case"], false, false, D59⟩
theorem e59 : DS CCk 43 E59 := ⟨fun _ _ _ _ _ _ us hl => match us, hl with | [_, _], _ => rfl, fun ks gp h => absurd (show ((43 : Nat), ks, gp) ∈ CCk.kws from h) (by simp [CCk]), ⟨rfl, rfl, rfl, by decide +kernel, rfl, by decide +kernel, by decide +kernel⟩, rfl, rfl, ⟨40, by kernel_rfl⟩⟩
def b60 : Cs := .ret (.bin .add (.c (.int 1)) (.bi .sum (.cons (.lc [1] (.n 1) (.call 41 (.cons (.v 0) (.nil))) (.c (.bl true)) (.call 44 (.cons (.v 1) (.nil)))) (.nil))))
def D60 : CDef := ⟨1, 1, b60⟩
def E60 : DD := ⟨"_law_size", ["term"], defArgs (top 60), defBody (top 60), defScope (top 60), ["term", "own"], false, false, D60⟩
theorem e60 : DS CCk 44 E60 := ⟨fun _ _ _ _ _ _ us hl => match us, hl with | [_], _ => rfl, fun ks gp h => absurd (show ((44 : Nat), ks, gp) ∈ CCk.kws from h) (by simp [CCk]), ⟨rfl, rfl, rfl, by decide +kernel, rfl, by decide +kernel, by decide +kernel⟩, rfl, rfl, ⟨40, by kernel_rfl⟩⟩
def b61 : Cs := .seq (.asg (.t (.cons (.n 4) (.cons (.n 5) (.nil)))) (.tup (.cons (.tup (.cons (.c (.str "loss")) (.nil))) (.cons (.tup (.cons (.c (.str "loss")) (.nil))) (.nil))))) (.seq (.for_ (.n 0) (.bi .range1 (.cons (.c (.int 6)) (.nil))) (.set 5 (.tup (.cons (.c (.str "share")) (.cons (.c (.int 1)) (.cons (.c (.int 2)) (.cons (.v 5) (.nil)))))))) (.seq (.set 1 (.v 4)) (.seq (.for_ (.n 0) (.bi .range1 (.cons (.c (.int 5)) (.nil))) (.set 1 (.tup (.cons (.c (.str "both")) (.cons (.v 1) (.cons (.v 4) (.nil))))))) (.seq (.set 2 (.lst (.cons (.rf 0 (.str "") (.call 24 (.cons (.tup (.cons (.c (.str "share")) (.cons (.c (.int 1)) (.cons (.c (.int 2)) (.cons (.v 5) (.nil)))))) (.cons (.tup (.cons (.c (.int 0)) (.cons (.tup (.nil)) (.cons (.c (.int 0)) (.nil))))) (.nil))))) (.cons (.rf 0 (.str "") (.call 24 (.cons (.v 4) (.cons (.tup (.cons (.c (.int 0)) (.cons (.tup (.nil)) (.cons (.neg (.c (.int 1))) (.nil))))) (.nil))))) (.cons (.rf 0 (.str "") (.call 25 (.cons (.c (.non)) (.nil)))) (.cons (.rf 0 (.str "") (.call 26 (.cons (.tup (.cons (.c (.str "fixed")) (.nil))) (.nil)))) (.nil))))))) (.seq (.ite (.cmp .ne (.v 2) (.lst (.cons (.c (.str "term")) (.cons (.c (.str "case")) (.cons (.c (.str "term")) (.cons (.c (.str "term")) (.nil))))))) (.ret (.c (.bl false))) (.skip)) (.seq (.set 3 (.lst (.cons (.tup (.cons (.c (.str "layer")) (.cons (.c (.int 5)) (.cons (.c (.int 4)) (.cons (.v 4) (.nil)))))) (.cons (.tup (.cons (.c (.str "layer")) (.cons (.neg (.c (.int 1))) (.cons (.c (.int 4)) (.cons (.v 4) (.nil)))))) (.cons (.tup (.cons (.c (.str "layer")) (.cons (.c (.int 5)) (.cons (.bin .add (.bin .pow (.c (.int 10)) (.c (.int 9))) (.c (.int 1))) (.cons (.v 4) (.nil)))))) (.cons (.tup (.cons (.c (.str "share")) (.cons (.c (.int 3)) (.cons (.c (.int 2)) (.cons (.v 4) (.nil)))))) (.cons (.tup (.cons (.c (.str "share")) (.cons (.c (.int 1)) (.cons (.c (.int 101)) (.cons (.v 4) (.nil)))))) (.cons (.tup (.cons (.c (.str "share")) (.cons (.c (.int 0)) (.cons (.c (.int 0)) (.cons (.v 4) (.nil)))))) (.cons (.tup (.cons (.c (.str "when")) (.cons (.v 4) (.cons (.v 4) (.nil))))) (.cons (.tup (.cons (.c (.str "fixed")) (.cons (.neg (.c (.int 1))) (.nil)))) (.cons (.tup (.cons (.c (.str "fixed")) (.cons (.c (.non)) (.nil)))) (.cons (.tup (.cons (.c (.str "loss")) (.cons (.c (.int 1)) (.nil)))) (.cons (.tup (.cons (.c (.str "both")) (.cons (.v 4) (.nil)))) (.cons (.tup (.cons (.c (.str "least")) (.cons (.v 4) (.cons (.c (.non)) (.nil))))) (.cons (.lst (.cons (.c (.str "loss")) (.nil))) (.cons (.c (.non)) (.cons (.tup (.cons (.c (.str "both")) (.cons (.tup (.cons (.c (.str "both")) (.cons (.v 1) (.cons (.v 1) (.nil))))) (.cons (.tup (.cons (.c (.str "both")) (.cons (.v 1) (.cons (.v 4) (.nil))))) (.nil))))) (.cons (.tup (.cons (.c (.str "layer")) (.cons (.c (.bl true)) (.cons (.c (.int 4)) (.cons (.v 4) (.nil)))))) (.nil))))))))))))))))))) (.seq (.ite (.or (.bi .any (.cons (.lc [6] (.n 6) (.v 3) (.c (.bl true)) (.callk 18 [0] (.cons (.v 6) (.nil)))) (.nil))) (.or (.not (.call 18 (.cons (.v 5) (.nil)))) (.or (.not (.call 18 (.cons (.tup (.cons (.c (.str "both")) (.cons (.v 1) (.cons (.v 1) (.nil))))) (.nil)))) (.cmp .ne (.call 25 (.cons (.tup (.cons (.c (.str "both")) (.cons (.v 1) (.cons (.v 1) (.nil))))) (.nil))) (.c (.int 23)))))) (.ret (.c (.bl false))) (.skip)) (.seq (.ite (.or (.cmp .ne (.call 24 (.cons (.v 5) (.cons (.tup (.cons (.c (.int 1)) (.cons (.tup (.nil)) (.cons (.c (.int 0)) (.nil))))) (.nil)))) (.tup (.cons (.c (.int 1)) (.cons (.c (.int 64)) (.nil))))) (.or (.cmp .ne (.call 24 (.cons (.tup (.cons (.c (.str "layer")) (.cons (.c (.int 5)) (.cons (.c (.int 5)) (.cons (.v 4) (.nil)))))) (.cons (.tup (.cons (.c (.int 99)) (.cons (.tup (.nil)) (.cons (.c (.int 0)) (.nil))))) (.nil)))) (.tup (.cons (.c (.int 0)) (.cons (.c (.int 1)) (.nil))))) (.cmp .ne (.call 24 (.cons (.tup (.cons (.c (.str "layer")) (.cons (.c (.int 5)) (.cons (.c (.non)) (.cons (.v 4) (.nil)))))) (.cons (.tup (.cons (.bin .pow (.c (.int 10)) (.c (.int 9))) (.cons (.tup (.nil)) (.cons (.c (.int 0)) (.nil))))) (.nil)))) (.tup (.cons (.bin .sub (.bin .pow (.c (.int 10)) (.c (.int 9))) (.c (.int 5))) (.cons (.c (.int 1)) (.nil))))))) (.ret (.c (.bl false))) (.skip)) (.seq (.ite (.cmp .ne (.call 24 (.cons (.tup (.cons (.c (.str "layer")) (.cons (.c (.int 5)) (.cons (.c (.int 8)) (.cons (.v 4) (.nil)))))) (.cons (.tup (.cons (.c (.int 12)) (.cons (.tup (.nil)) (.cons (.c (.int 0)) (.nil))))) (.nil)))) (.tup (.cons (.c (.int 3)) (.cons (.c (.int 1)) (.nil))))) (.ret (.c (.bl false))) (.skip)) (.ret (.and (.cmp .eq (.call 24 (.cons (.tup (.cons (.c (.str "rest")) (.cons (.tup (.cons (.c (.str "fixed")) (.cons (.c (.int 3)) (.nil)))) (.cons (.v 4) (.nil))))) (.cons (.tup (.cons (.c (.int 5)) (.cons (.tup (.nil)) (.cons (.c (.int 0)) (.nil))))) (.nil)))) (.tup (.cons (.c (.int 0)) (.cons (.c (.int 1)) (.nil))))) (.and (.cmp .eq (.call 24 (.cons (.tup (.cons (.c (.str "most")) (.cons (.tup (.cons (.c (.str "share")) (.cons (.c (.int 1)) (.cons (.c (.int 3)) (.cons (.v 4) (.nil)))))) (.cons (.tup (.cons (.c (.str "fixed")) (.cons (.c (.int 2)) (.nil)))) (.nil))))) (.cons (.tup (.cons (.c (.int 7)) (.cons (.tup (.nil)) (.cons (.c (.int 0)) (.nil))))) (.nil)))) (.tup (.cons (.c (.int 7)) (.cons (.c (.int 3)) (.nil))))) (.cmp .eq (.call 24 (.cons (.tup (.cons (.c (.str "layer")) (.cons (.c (.int 2)) (.cons (.c (.int 8)) (.cons (.tup (.cons (.c (.str "share")) (.cons (.c (.int 1)) (.cons (.c (.int 2)) (.cons (.v 4) (.nil)))))) (.nil)))))) (.cons (.tup (.cons (.c (.int 5)) (.cons (.tup (.nil)) (.cons (.c (.int 0)) (.nil))))) (.nil)))) (.tup (.cons (.c (.int 1)) (.cons (.c (.int 2)) (.nil)))))))))))))))))
def D61 : CDef := ⟨0, 7, b61⟩
def E61 : DD := ⟨"_law_last", [], defArgs (top 61), defBody (top 61), defScope (top 61), ["turn", "wide", "told", "bad", "loss", "six", "own"], false, true, D61⟩
theorem e61 : DS CCk 45 E61 := ⟨fun _ _ _ _ _ _ us hl => match us, hl with | [], _ => rfl, fun ks gp h => absurd (show ((45 : Nat), ks, gp) ∈ CCk.kws from h) (by simp [CCk]), ⟨rfl, rfl, rfl, by decide +kernel, rfl, by decide +kernel, by decide +kernel⟩, rfl, rfl, ⟨40, by kernel_rfl⟩⟩
def b62 : Cs := .seq (.for_ (.n 1) (.bi .range1 (.cons (.bi .max2 (.cons (.c (.int 1)) (.cons (.bi .min2 (.cons (.c (.int 5)) (.cons (.leno 0) (.nil)))) (.nil)))) (.nil))) (.seq (.set 2 (.call 28 (.cons (.v 0) (.cons (.v 1) (.nil))))) (.seq (.set 3 (.call 40 (.cons (.v 2) (.cons (.c (.int 3)) (.nil))))) (.seq (.ite (.or (.not (.call 18 (.cons (.v 3) (.nil)))) (.cmp .ne (.callk 25 [0] (.cons (.v 3) (.nil))) (.call 44 (.cons (.v 3) (.nil))))) (.ret (.c (.bl false))) (.skip)) (.seq (.setL 4 (.bin .add (.lst (.cons (.ixo 3 (.c (.int 0))) (.nil))) (.lc [11] (.n 11) (.call 41 (.cons (.v 3) (.nil))) (.c (.bl true)) (.ixo 11 (.c (.int 0)))))) (.seq (.set 5 (.lst (.cons (.v 3) (.nil)))) (.seq (.for_ (.n 6) (.bi .range1 (.cons (.c (.int 30)) (.nil))) (.ite (.cmp .gt (.leno 5) (.c (.int 0))) (.seq (.set 11 (.ixo 5 (.c (.int 0)))) (.seq (.app 4 (.ixo 11 (.c (.int 0)))) (.set 5 (.bin .add (.sl (.v 5) (.cons (.c (.int 1)) (.nil)) (.nil)) (.bi .list (.cons (.call 41 (.cons (.v 11) (.nil))) (.nil))))))) (.skip))) (.seq (.ite (.cmp .ne (.callk 26 [0] (.cons (.v 3) (.nil))) (.not (.bi .any (.cons (.lc [12] (.n 12) (.v 4) (.c (.bl true)) (.cmp .inn (.v 12) (.tup (.cons (.c (.str "fixed")) (.cons (.c (.str "both")) (.nil)))))) (.nil))))) (.ret (.c (.bl false))) (.skip)) (.seq (.for_ (.n 6) (.bi .range1 (.cons (.c (.int 6)) (.nil))) (.seq (.set 10 (.call 34 (.cons (.v 2) (.cons (.call 30 (.cons (.v 2) (.cons (.lst (.cons (.c (.int 6)) (.cons (.c (.int 30)) (.cons (.bin .pow (.c (.int 10)) (.c (.int 9))) (.nil))))) (.nil)))) (.nil))))) (.seq (.set 11 (.callk 24 [1, 0] (.cons (.v 10) (.cons (.v 3) (.nil))))) (.ite (.or (.cmp .ne (.v 11) (.call 43 (.cons (.v 3) (.cons (.v 10) (.nil))))) (.and (.call 26 (.cons (.v 3) (.nil))) (.call 38 (.cons (.tup (.cons (.ixo 10 (.c (.int 0))) (.cons (.c (.int 1)) (.nil)))) (.cons (.v 11) (.nil)))))) (.ret (.c (.bl false))) (.skip))))) (.seq (.set 7 (.call 29 (.cons (.v 2) (.cons (.leno 3) (.nil))))) (.seq (.set 8 (.bin .add (.bin .add (.sl (.v 3) (.nil) (.cons (.v 7) (.nil))) (.tup (.cons (.call 30 (.cons (.v 2) (.cons (.lst (.cons (.c (.non)) (.cons (.c (.str "loss")) (.cons (.neg (.c (.int 1))) (.cons (.tup (.nil)) (.cons (.c (.bl true)) (.nil))))))) (.nil)))) (.nil)))) (.sl (.v 3) (.cons (.bin .add (.v 7) (.c (.int 1))) (.nil)) (.nil)))) (.seq (.set 9 (.or (.and (.cmp .eq (.ixo 8 (.c (.int 0))) (.c (.str "loss"))) (.cmp .eq (.leno 8) (.c (.int 1)))) (.and (.cmp .eq (.ixo 3 (.c (.int 0))) (.c (.str "layer"))) (.and (.cmp .eq (.v 7) (.c (.int 2))) (.cmp .isN (.ixo 8 (.c (.int 2))) (.c (.non))))))) (.ite (.or (.cmp .ne (.call 18 (.cons (.v 8) (.nil))) (.v 9)) (.or (.call 18 (.cons (.sl (.v 3) (.nil) (.cons (.neg (.c (.int 1))) (.nil))) (.nil))) (.call 18 (.cons (.bi .list (.cons (.v 3) (.nil))) (.nil))))) (.ret (.c (.bl false))) (.skip)))))))))))))) (.ret (.call 45 (.nil)))
def D62 : CDef := ⟨1, 12, b62⟩
def E62 : DD := ⟨"law", ["script"], defArgs (top 62), defBody (top 62), defScope (top 62), ["script", "spot", "dice", "term", "names", "left", "turn", "at", "changed", "good", "case", "own", "name"], false, false, D62⟩
theorem e62 : DS CCk 46 E62 := ⟨fun _ _ _ _ _ _ us hl => match us, hl with | [_], _ => rfl, fun ks gp h => absurd (show ((46 : Nat), ks, gp) ∈ CCk.kws from h) (by simp [CCk]), ⟨rfl, rfl, rfl, by decide +kernel, rfl, by decide +kernel, by decide +kernel⟩, rfl, rfl, ⟨40, by kernel_rfl⟩⟩
end Cv.K02

set_option Elab.async false
set_option linter.all false
set_option maxRecDepth 100000
set_option maxHeartbeats 0
namespace Cv.K02
open PySem PySem.Spec PyProof.Rows L2
def clsB : Stmt → List Stmt
  | .ClassDef _ _ _ b _ _ _ _ _ _ _ => b
  | _ => []
def m2 : Stmt := (clsB (top 2)).getD 0 (.Pass ⟨0, 0, 0, 0⟩)
def I2 : IniD := ⟨"BadArgument", "__init__", "BadArgument.__init__", defArgs m2, defBody m2, defScope m2, "self", "name", "name"⟩
theorem i2 : IniS PySem.Challenge.pw_coverlines_k02_whole_terms_in_cases I2 := ⟨by kernel_rfl, fun _ _ _ _ _ _ _ us hl => match us, hl with | [_, _], _ => rfl, ⟨_, rfl, rfl⟩, by decide +kernel⟩
def R46 : DD := ⟨"_law_refused", ["call"], defArgs (top 46), defBody (top 46), defScope (top 46), ["call", "e"], false, false, ⟨0, 0, .skip⟩⟩
def dsL : List DD := [E5, E6, E7, E8, E9, E10, E11, E12, E13, E14, E15, E16, E22, E23, E24, E25, E30, E31, E32, E33, E34, E35, E36, E37, E38, E39, E40, E41, E43, E44, E45, E47, E48, E49, E50, E51, E52, E53, E54, E55, E56, E57, E58, E59, E60, E61, E62]
def rsL : List DD := [R46]
def insL : List IniD := [I2]
def tfL : List He.Defn := [("_law_last", none)]
def TT : List CDef := [D5, D6, D7, D8, D9, D10, D11, D12, D13, D14, D15, D16, D22, D23, D24, D25, D30, D31, D32, D33, D34, D35, D36, D37, D38, D39, D40, D41, D43, D44, D45, D47, D48, D49, D50, D51, D52, D53, D54, D55, D56, D57, D58, D59, D60, D61, D62]
theorem rf0 : RfS CCk rsL insL "_law_refused" 0 "" := by
  refine ⟨R46, I2, "call", "e", (match (defBody (top 46)) with | [.Try _ _ _ _ _, .Return (some (.Constant _ j _)) _] => j | _ => 0), List.mem_cons_self, rfl, rfl, by kernel_rfl, rfl, ⟨rfl, rfl, rfl, by decide +kernel, rfl, by decide +kernel, by decide +kernel⟩, by decide +kernel, by decide +kernel, by decide +kernel, by decide +kernel, by decide +kernel, by decide +kernel, by decide +kernel, fun _ _ _ _ _ _ us hl => match us, hl with | [_], _ => rfl⟩
theorem statk : Stat CCk TT PySem.Challenge.pw_coverlines_k02_whole_terms_in_cases dsL rsL insL tfL := by
  refine ⟨rfl, rfl, fun i d h => ?_, fun i h => ?_, rfl, fun y q e h => ?_, fun d h => ?_⟩
  · match i, h with
    | 0, h => cases h; exact e5
    | 1, h => cases h; exact e6
    | 2, h => cases h; exact e7
    | 3, h => cases h; exact e8
    | 4, h => cases h; exact e9
    | 5, h => cases h; exact e10
    | 6, h => cases h; exact e11
    | 7, h => cases h; exact e12
    | 8, h => cases h; exact e13
    | 9, h => cases h; exact e14
    | 10, h => cases h; exact e15
    | 11, h => cases h; exact e16
    | 12, h => cases h; exact e22
    | 13, h => cases h; exact e23
    | 14, h => cases h; exact e24
    | 15, h => cases h; exact e25
    | 16, h => cases h; exact e30
    | 17, h => cases h; exact e31
    | 18, h => cases h; exact e32
    | 19, h => cases h; exact e33
    | 20, h => cases h; exact e34
    | 21, h => cases h; exact e35
    | 22, h => cases h; exact e36
    | 23, h => cases h; exact e37
    | 24, h => cases h; exact e38
    | 25, h => cases h; exact e39
    | 26, h => cases h; exact e40
    | 27, h => cases h; exact e41
    | 28, h => cases h; exact e43
    | 29, h => cases h; exact e44
    | 30, h => cases h; exact e45
    | 31, h => cases h; exact e47
    | 32, h => cases h; exact e48
    | 33, h => cases h; exact e49
    | 34, h => cases h; exact e50
    | 35, h => cases h; exact e51
    | 36, h => cases h; exact e52
    | 37, h => cases h; exact e53
    | 38, h => cases h; exact e54
    | 39, h => cases h; exact e55
    | 40, h => cases h; exact e56
    | 41, h => cases h; exact e57
    | 42, h => cases h; exact e58
    | 43, h => cases h; exact e59
    | 44, h => cases h; exact e60
    | 45, h => cases h; exact e61
    | 46, h => cases h; exact e62
    | n + 47, h => exact absurd (show (([] : List DD)[n]?) = some d from h) (by simp)
  · simp only [insL, List.mem_cons, List.mem_nil_iff, List.not_mem_nil, or_false] at h
    subst h; exact i2
  · have h0 : (y, q, e) = (("_law_refused", 0, PV.str "") : Str × Nat × PV) := List.mem_singleton.mp h
    cases h0; exact ⟨_, rfl, rf0⟩
  · have h0 : (dsL.all fun d => !d.mkr || tfL.contains (d.x, none)) = true := by decide +kernel
    intro hm
    have h1 := List.all_eq_true.mp h0 d h
    rw [hm] at h1
    simpa using h1
def names : List PySem.Str := (["BadArgument", "CoverError", "LAST_DAY", "MARKS", "MOST_AMOUNT", "MOST_DEEP_conditions", "MOST_DEEP_terms", "MOST_SIZE", "SIZES_conditions", "SIZES_terms", "_law_between", "_law_case", "_law_condition", "_law_dice", "_law_holds", "_law_in", "_law_inner", "_law_last", "_law_less", "_law_low", "_law_marks", "_law_pays", "_law_pick", "_law_plus", "_law_refused"] : List PySem.Str) ++ (["_law_roll", "_law_size", "_law_term", "_law_under", "between", "common", "demand", "demand_term", "holds_at", "how_many", "is_case", "is_condition", "is_condition_of", "is_in", "is_less", "is_limit", "is_plain", "is_rising", "is_share", "is_term", "is_term_of", "is_tuple", "less", "lowest", "not_below"] : List PySem.Str) ++ (["paid", "pays", "plain_of", "plus", "size_of", "times", "within"] : List PySem.Str)
abbrev R : PySem.W.OpenRow := PySem.W.OpenLaw.row PySem.Challenge.rw_coverlines_k02_whole_terms_in_cases
abbrev fnL : List He.DefD := (dsL ++ rsL).map DD.defD
abbrev exL : PySem.W.Frag → Bool := exC CCk (dsL ++ rsL) insL tfL PySem.Challenge.pw_coverlines_k02_whole_terms_in_cases.main.file
abbrev hk : PySem.W.Hook := hookC 5 fnL (tsOf CCk) tfL insL exL
def ob (s : PySem.W.SharedT) : AlC := obsC 5 fnL (tsOf CCk) tfL insL exL (HandSHeadRun.getT s)
theorem ob_eq (s : PySem.W.SharedT) : ob s = hk.obs s.abs := obsC_eq (HandSHeadRun.getT_eq s)
theorem run (w : World) : HandSHeadRun.RunEq R (PySem.W.view R.prog [62]) hk ob 4000 names w := by
  refine PySem.W.byRow2 "special-get-raises" (P := fun w => HandSHeadRun.RunEq R (PySem.W.view R.prog [62]) hk ob 4000 names w) (fun w => ?_) (fun w => ?_) w
  · intro os
    kernel_rfl
  · intro os
    kernel_rfl
end Cv.K02

set_option Elab.async false
set_option linter.all false
set_option maxRecDepth 100000
set_option maxHeartbeats 4000000
namespace Cv.K02
open PySem
variable {d : Nat} {st : Sto}
theorem st_run {T : List CDef} {d f : Nat} {vs : List PV} {st : Sto} {D : CDef} (h : T[f]? = some D) (e : vs.length = D.np) : runP T (d + 1) f vs st = exs D.body (runP T d) (newEnv D.nl vs) st (fun _ st => .ok .non st) (fun _ _ => .fail) := by
  show (match T[f]? with | some D => cnd (Nat.beq vs.length D.np) (exs D.body (runP T d) (newEnv D.nl vs) st (fun _ st => .ok .non st) (fun _ _ => .fail)) .fail | none => .fail) = _
  rw [h]
  have : Nat.beq vs.length D.np = true := by rw [e]; exact Nat.beq_refl _
  simp only [this, cnd]
def isNum : PV → Int → Int → Bool
  | .int i, lo, hi => decide (lo ≤ i) && decide (i ≤ hi)
  | _, _, _ => false
def noOb : PV → Bool
  | .ob _ => false
  | _ => true
theorem q_is_in (v : PV) (lo hi : Int) (h : noOb v = true) : runP TT (d + 1) 1 [v, .int lo, .int hi] st = .ok (.bl (isNum v lo hi)) st := by
  rw [st_run (D := D6) rfl rfl]
  cases v with
  | ob n => cases h
  | int i =>
    by_cases h1 : lo ≤ i <;> simp [D6, b6, exs, ev, newEnv, getS, setS, rd, frz, on1, onB, giv, givB, cnd, biP, isiO, isiP, cmpP, isNum, h1]
  | _ => simp [D6, b6, exs, ev, newEnv, getS, setS, rd, frz, on1, onB, giv, givB, cnd, biP, isiO, isiP, cmpP, isNum]
def isTup : PV → Int → Int → Bool
  | .tup xs, lo, hi => decide (lo ≤ xs.length) && decide (xs.length ≤ hi)
  | _, _, _ => false
theorem q_is_tuple (v : PV) (lo hi : Int) (h : noOb v = true) : runP TT (d + 1) 2 [v, .int lo, .int hi] st = .ok (.bl (isTup v lo hi)) st := by
  rw [st_run (D := D7) rfl rfl]
  cases v with
  | ob n => cases h
  | tup xs =>
    by_cases h1 : lo ≤ xs.length <;> simp [D7, b7, exs, ev, newEnv, getS, setS, rd, frz, on1, onB, giv, givB, cnd, biP, isiO, isiP, cmpP, isTup, h1, lenS, lenP]
  | _ => simp [D7, b7, exs, ev, newEnv, getS, setS, rd, frz, on1, onB, giv, givB, cnd, biP, isiO, isiP, cmpP, isTup]
def gd : Nat → PV → Bool
  | _, .non => true
  | _, .bl _ => true
  | _, .int _ => true
  | _, .str s => s.cps.all (· < 0x110000)
  | _, .ob _ => false
  | 0, .tup _ => false
  | 0, .lst _ => false
  | n + 1, .tup xs => decide (xs.length ≤ 100) && xs.all (gd n)
  | n + 1, .lst xs => decide (xs.length ≤ 100) && xs.all (gd n)
theorem gd_noOb {n : Nat} {v : PV} (h : gd n v = true) : noOb v = true := by
  cases v <;> first | rfl | (cases n <;> cases h)
def shp (v : PV) (r : PV → Bool) (pos : Bool) : Bool := match v with
  | .tup [.str s] => decide (s = "all")
  | .tup [.str s, a] => if s = "mark" then isNum a 0 3 else decide (s = "not") && (pos && r a)
  | .tup [.str s, a, b] => if s = "days" then (match a with
    | .int i => isNum a 0 999 && isNum b i 999
    | _ => false) else (decide (s = "and") || decide (s = "or")) && (pos && (r a && r b))
  | _ => false
def cond : Nat → PV → Bool
  | 0, v => shp v (fun _ => false) false
  | n + 1, v => shp v (cond n) true
theorem str_eqO {s t : Str} (hs : s.cps.all (· < 0x110000) = true) (ht : t.cps.all (· < 0x110000) = true) : eqO (.str s) (.str t) = some (decide (s = t)) := by
  have e : (s == t) = decide (s = t) := rfl
  unfold eqO
  simp only [dat, hs, ht, Bool.and_self, if_true, eqP, e]
theorem int_eqO (i j : Int) : eqO (.int i) (.int j) = some (decide (i = j)) := by
  have e : (i == j) = decide (i = j) := rfl
  simp [eqO, dat, eqP, e]
theorem str_eq_mark {s : Str} (hs : s.cps.all (· < 0x110000) = true) : eqO (.str s) (.str "mark") = some (decide (s = "mark")) := str_eqO hs (by decide +kernel)
theorem str_eq_days {s : Str} (hs : s.cps.all (· < 0x110000) = true) : eqO (.str s) (.str "days") = some (decide (s = "days")) := str_eqO hs (by decide +kernel)
theorem str_eq_all {s : Str} (hs : s.cps.all (· < 0x110000) = true) : eqO (.str s) (.str "all") = some (decide (s = "all")) := str_eqO hs (by decide +kernel)
theorem str_eq_not {s : Str} (hs : s.cps.all (· < 0x110000) = true) : eqO (.str s) (.str "not") = some (decide (s = "not")) := str_eqO hs (by decide +kernel)
def sizes : List (Str × PV) := [("all", .int 1), ("mark", .int 2), ("days", .int 3), ("not", .int 2), ("and", .int 3), ("or", .int 3)]
theorem sz_none {s : Str} (h1 : s ≠ "all") (h2 : s ≠ "mark") (h3 : s ≠ "days") (h4 : s ≠ "not") (h5 : s ≠ "and") (h6 : s ≠ "or") : sizes.lookup s = none := by
  simp [sizes, List.lookup, beq_eq_false_iff_ne.mpr h1, beq_eq_false_iff_ne.mpr h2, beq_eq_false_iff_ne.mpr h3, beq_eq_false_iff_ne.mpr h4, beq_eq_false_iff_ne.mpr h5, beq_eq_false_iff_ne.mpr h6]
theorem sz_all : sizes.lookup ("all" : Str) = some (PV.int 1) := rfl
theorem sz_mark : sizes.lookup ("mark" : Str) = some (PV.int 2) := rfl
theorem sz_days : sizes.lookup ("days" : Str) = some (PV.int 3) := rfl
theorem sz_not : sizes.lookup ("not" : Str) = some (PV.int 2) := rfl
theorem sz_and : sizes.lookup ("and" : Str) = some (PV.int 3) := rfl
theorem sz_or : sizes.lookup ("or" : Str) = some (PV.int 3) := rfl
theorem szs : ([("all", .int 1), ("mark", .int 2), ("days", .int 3), ("not", .int 2), ("and", .int 3), ("or", .int 3)] : List (Str × PV)) = sizes := rfl
theorem n_all_mark : (("all" : Str) = "mark") = False := eq_false (by decide +kernel)
theorem n_all_days : (("all" : Str) = "days") = False := eq_false (by decide +kernel)
theorem n_all_not : (("all" : Str) = "not") = False := eq_false (by decide +kernel)
theorem n_all_and : (("all" : Str) = "and") = False := eq_false (by decide +kernel)
theorem n_all_or : (("all" : Str) = "or") = False := eq_false (by decide +kernel)
theorem n_mark_all : (("mark" : Str) = "all") = False := eq_false (by decide +kernel)
theorem n_mark_days : (("mark" : Str) = "days") = False := eq_false (by decide +kernel)
theorem n_mark_not : (("mark" : Str) = "not") = False := eq_false (by decide +kernel)
theorem n_mark_and : (("mark" : Str) = "and") = False := eq_false (by decide +kernel)
theorem n_mark_or : (("mark" : Str) = "or") = False := eq_false (by decide +kernel)
theorem n_days_all : (("days" : Str) = "all") = False := eq_false (by decide +kernel)
theorem n_days_mark : (("days" : Str) = "mark") = False := eq_false (by decide +kernel)
theorem n_days_not : (("days" : Str) = "not") = False := eq_false (by decide +kernel)
theorem n_days_and : (("days" : Str) = "and") = False := eq_false (by decide +kernel)
theorem n_days_or : (("days" : Str) = "or") = False := eq_false (by decide +kernel)
theorem n_not_all : (("not" : Str) = "all") = False := eq_false (by decide +kernel)
theorem n_not_mark : (("not" : Str) = "mark") = False := eq_false (by decide +kernel)
theorem n_not_days : (("not" : Str) = "days") = False := eq_false (by decide +kernel)
theorem n_not_and : (("not" : Str) = "and") = False := eq_false (by decide +kernel)
theorem n_not_or : (("not" : Str) = "or") = False := eq_false (by decide +kernel)
theorem n_and_all : (("and" : Str) = "all") = False := eq_false (by decide +kernel)
theorem n_and_mark : (("and" : Str) = "mark") = False := eq_false (by decide +kernel)
theorem n_and_days : (("and" : Str) = "days") = False := eq_false (by decide +kernel)
theorem n_and_not : (("and" : Str) = "not") = False := eq_false (by decide +kernel)
theorem n_and_or : (("and" : Str) = "or") = False := eq_false (by decide +kernel)
theorem n_or_all : (("or" : Str) = "all") = False := eq_false (by decide +kernel)
theorem n_or_mark : (("or" : Str) = "mark") = False := eq_false (by decide +kernel)
theorem n_or_days : (("or" : Str) = "days") = False := eq_false (by decide +kernel)
theorem n_or_not : (("or" : Str) = "not") = False := eq_false (by decide +kernel)
theorem n_or_and : (("or" : Str) = "and") = False := eq_false (by decide +kernel)
theorem fit_le {n : Nat} (h : n ≤ 1000) : Nat.ble n lineP = true := by
  rw [Nat.ble_eq]; exact Nat.le_trans h (by decide)
theorem q_cond_step (m : Nat) (v : PV) (n : Int) (h0 : 0 ≤ n) (hm : m ≤ 60) (g : gd m v = true) (r : PV → Bool) (hr : 0 < n → ∀ k a st, k < m → gd k a = true → runP TT (d + 1) 14 [a, .int (n - 1)] st = .ok (.bl (r a)) st) :
    runP TT (d + 2) 14 [v, .int n] st = .ok (.bl (shp v r (decide (0 < n)))) st := by
  rw [st_run (D := D24) rfl rfl]
  have hn := gd_noOb g
  have t := fun st => q_is_tuple (d := d) (st := st) v 1 3 hn
  have num := fun st w lo hi hw => q_is_in (d := d) (st := st) w lo hi hw
  cases v with
  | tup xs =>
    match xs, m, g with
    | [], m, g => simp [D24, b24, exs, ev, newEnv, getS, setS, rd, frz, on1, onB, giv, givB, cnd, biP, isiO, isiP, back, t, isTup, shp]
    | x :: y :: z :: w :: r', m, g =>
      have q : ¬ ((r'.length : Int) + 1 + 1 + 1 + 1 ≤ 3) := by omega
      simp [D24, b24, exs, ev, newEnv, getS, setS, rd, frz, on1, onB, giv, givB, cnd, biP, isiO, isiP, back, t, isTup, shp, q]
    | [x], m + 1, g =>
      have gx : gd m x = true := by simp [gd] at g; exact g
      have xo := gd_noOb gx
      cases x with
      | ob k => cases xo
      | str s =>
        have gs : s.cps.all (· < 0x110000) = true := by cases m <;> exact gx
        by_cases e_all : s = "all"
        · subst e_all
          simp [D24, b24, exs, ev, newEnv, getS, setS, rd, frz, on1, onB, giv, givB, cnd, biP, isiO, isiP, back, t, isTup, shp, ixS, ixP, atP, placeOf, szs, dgetP, lenS, lenP, cmpP, int_eqO, sz_all, sz_mark, sz_days, sz_not, sz_and, sz_or, onO, partOf, slP, cutP, cutAt, itemsOf, lcGo, frzAll, wipeS, bindT, backS, noX, boolsO, onL, binP, binI, fits, n_all_mark, n_all_days, n_all_not, n_all_and, n_all_or, n_mark_all, n_mark_days, n_mark_not, n_mark_and, n_mark_or, n_days_all, n_days_mark, n_days_not, n_days_and, n_days_or, n_not_all, n_not_mark, n_not_days, n_not_and, n_not_or, n_and_all, n_and_mark, n_and_days, n_and_not, n_and_or, n_or_all, n_or_mark, n_or_days, n_or_not, n_or_and, str_eq_mark gs, str_eq_days gs, str_eq_all gs]
        by_cases e_mark : s = "mark"
        · subst e_mark
          simp [D24, b24, exs, ev, newEnv, getS, setS, rd, frz, on1, onB, giv, givB, cnd, biP, isiO, isiP, back, t, isTup, shp, ixS, ixP, atP, placeOf, szs, dgetP, lenS, lenP, cmpP, int_eqO, sz_all, sz_mark, sz_days, sz_not, sz_and, sz_or, onO, partOf, slP, cutP, cutAt, itemsOf, lcGo, frzAll, wipeS, bindT, backS, noX, boolsO, onL, binP, binI, fits, n_all_mark, n_all_days, n_all_not, n_all_and, n_all_or, n_mark_all, n_mark_days, n_mark_not, n_mark_and, n_mark_or, n_days_all, n_days_mark, n_days_not, n_days_and, n_days_or, n_not_all, n_not_mark, n_not_days, n_not_and, n_not_or, n_and_all, n_and_mark, n_and_days, n_and_not, n_and_or, n_or_all, n_or_mark, n_or_days, n_or_not, n_or_and, str_eq_mark gs, str_eq_days gs, str_eq_all gs]
        by_cases e_days : s = "days"
        · subst e_days
          simp [D24, b24, exs, ev, newEnv, getS, setS, rd, frz, on1, onB, giv, givB, cnd, biP, isiO, isiP, back, t, isTup, shp, ixS, ixP, atP, placeOf, szs, dgetP, lenS, lenP, cmpP, int_eqO, sz_all, sz_mark, sz_days, sz_not, sz_and, sz_or, onO, partOf, slP, cutP, cutAt, itemsOf, lcGo, frzAll, wipeS, bindT, backS, noX, boolsO, onL, binP, binI, fits, n_all_mark, n_all_days, n_all_not, n_all_and, n_all_or, n_mark_all, n_mark_days, n_mark_not, n_mark_and, n_mark_or, n_days_all, n_days_mark, n_days_not, n_days_and, n_days_or, n_not_all, n_not_mark, n_not_days, n_not_and, n_not_or, n_and_all, n_and_mark, n_and_days, n_and_not, n_and_or, n_or_all, n_or_mark, n_or_days, n_or_not, n_or_and, str_eq_mark gs, str_eq_days gs, str_eq_all gs]
        by_cases e_not : s = "not"
        · subst e_not
          simp [D24, b24, exs, ev, newEnv, getS, setS, rd, frz, on1, onB, giv, givB, cnd, biP, isiO, isiP, back, t, isTup, shp, ixS, ixP, atP, placeOf, szs, dgetP, lenS, lenP, cmpP, int_eqO, sz_all, sz_mark, sz_days, sz_not, sz_and, sz_or, onO, partOf, slP, cutP, cutAt, itemsOf, lcGo, frzAll, wipeS, bindT, backS, noX, boolsO, onL, binP, binI, fits, n_all_mark, n_all_days, n_all_not, n_all_and, n_all_or, n_mark_all, n_mark_days, n_mark_not, n_mark_and, n_mark_or, n_days_all, n_days_mark, n_days_not, n_days_and, n_days_or, n_not_all, n_not_mark, n_not_days, n_not_and, n_not_or, n_and_all, n_and_mark, n_and_days, n_and_not, n_and_or, n_or_all, n_or_mark, n_or_days, n_or_not, n_or_and, str_eq_mark gs, str_eq_days gs, str_eq_all gs]
        by_cases e_and : s = "and"
        · subst e_and
          simp [D24, b24, exs, ev, newEnv, getS, setS, rd, frz, on1, onB, giv, givB, cnd, biP, isiO, isiP, back, t, isTup, shp, ixS, ixP, atP, placeOf, szs, dgetP, lenS, lenP, cmpP, int_eqO, sz_all, sz_mark, sz_days, sz_not, sz_and, sz_or, onO, partOf, slP, cutP, cutAt, itemsOf, lcGo, frzAll, wipeS, bindT, backS, noX, boolsO, onL, binP, binI, fits, n_all_mark, n_all_days, n_all_not, n_all_and, n_all_or, n_mark_all, n_mark_days, n_mark_not, n_mark_and, n_mark_or, n_days_all, n_days_mark, n_days_not, n_days_and, n_days_or, n_not_all, n_not_mark, n_not_days, n_not_and, n_not_or, n_and_all, n_and_mark, n_and_days, n_and_not, n_and_or, n_or_all, n_or_mark, n_or_days, n_or_not, n_or_and, str_eq_mark gs, str_eq_days gs, str_eq_all gs]
        by_cases e_or : s = "or"
        · subst e_or
          simp [D24, b24, exs, ev, newEnv, getS, setS, rd, frz, on1, onB, giv, givB, cnd, biP, isiO, isiP, back, t, isTup, shp, ixS, ixP, atP, placeOf, szs, dgetP, lenS, lenP, cmpP, int_eqO, sz_all, sz_mark, sz_days, sz_not, sz_and, sz_or, onO, partOf, slP, cutP, cutAt, itemsOf, lcGo, frzAll, wipeS, bindT, backS, noX, boolsO, onL, binP, binI, fits, n_all_mark, n_all_days, n_all_not, n_all_and, n_all_or, n_mark_all, n_mark_days, n_mark_not, n_mark_and, n_mark_or, n_days_all, n_days_mark, n_days_not, n_days_and, n_days_or, n_not_all, n_not_mark, n_not_days, n_not_and, n_not_or, n_and_all, n_and_mark, n_and_days, n_and_not, n_and_or, n_or_all, n_or_mark, n_or_days, n_or_not, n_or_and, str_eq_mark gs, str_eq_days gs, str_eq_all gs]
        have sn := sz_none e_all e_mark e_days e_not e_and e_or
        simp [D24, b24, exs, ev, newEnv, getS, setS, rd, frz, on1, onB, giv, givB, cnd, biP, isiO, isiP, back, t, isTup, shp, ixS, ixP, atP, placeOf, szs, dgetP, lenS, lenP, cmpP, int_eqO, sz_all, sz_mark, sz_days, sz_not, sz_and, sz_or, onO, partOf, slP, cutP, cutAt, itemsOf, lcGo, frzAll, wipeS, bindT, backS, noX, boolsO, onL, binP, binI, fits, sn, e_all, e_mark, e_days, e_not, e_and, e_or, str_eq_mark gs, str_eq_days gs, str_eq_all gs]
      | _ => simp [D24, b24, exs, ev, newEnv, getS, setS, rd, frz, on1, onB, giv, givB, cnd, biP, isiO, isiP, back, t, isTup, shp, ixS, ixP, atP, placeOf]
    | [x, y], m + 1, g =>
      have gx : gd m x = true := by simp [gd] at g; exact g.1
      have gy : gd m y = true := by simp [gd] at g; exact g.2
      have xo := gd_noOb gx
      have yo := gd_noOb gy
      have ny := fun st => num st y 0 3 yo
      have ry := fun h st => hr h m y st (Nat.lt_succ_self _) gy
      cases x with
      | ob k => cases xo
      | str s =>
        have gs : s.cps.all (· < 0x110000) = true := by cases m <;> exact gx
        by_cases e_all : s = "all"
        · subst e_all
          simp [D24, b24, exs, ev, newEnv, getS, setS, rd, frz, on1, onB, giv, givB, cnd, biP, isiO, isiP, back, t, isTup, shp, ixS, ixP, atP, placeOf, szs, dgetP, lenS, lenP, cmpP, int_eqO, sz_all, sz_mark, sz_days, sz_not, sz_and, sz_or, onO, partOf, slP, cutP, cutAt, itemsOf, lcGo, frzAll, wipeS, bindT, backS, noX, boolsO, onL, binP, binI, fits, n_all_mark, n_all_days, n_all_not, n_all_and, n_all_or, n_mark_all, n_mark_days, n_mark_not, n_mark_and, n_mark_or, n_days_all, n_days_mark, n_days_not, n_days_and, n_days_or, n_not_all, n_not_mark, n_not_days, n_not_and, n_not_or, n_and_all, n_and_mark, n_and_days, n_and_not, n_and_or, n_or_all, n_or_mark, n_or_days, n_or_not, n_or_and, str_eq_mark gs, str_eq_days gs, str_eq_all gs, ny, fit_le]
        by_cases e_mark : s = "mark"
        · subst e_mark
          simp [D24, b24, exs, ev, newEnv, getS, setS, rd, frz, on1, onB, giv, givB, cnd, biP, isiO, isiP, back, t, isTup, shp, ixS, ixP, atP, placeOf, szs, dgetP, lenS, lenP, cmpP, int_eqO, sz_all, sz_mark, sz_days, sz_not, sz_and, sz_or, onO, partOf, slP, cutP, cutAt, itemsOf, lcGo, frzAll, wipeS, bindT, backS, noX, boolsO, onL, binP, binI, fits, n_all_mark, n_all_days, n_all_not, n_all_and, n_all_or, n_mark_all, n_mark_days, n_mark_not, n_mark_and, n_mark_or, n_days_all, n_days_mark, n_days_not, n_days_and, n_days_or, n_not_all, n_not_mark, n_not_days, n_not_and, n_not_or, n_and_all, n_and_mark, n_and_days, n_and_not, n_and_or, n_or_all, n_or_mark, n_or_days, n_or_not, n_or_and, str_eq_mark gs, str_eq_days gs, str_eq_all gs, ny, fit_le]
        by_cases e_days : s = "days"
        · subst e_days
          simp [D24, b24, exs, ev, newEnv, getS, setS, rd, frz, on1, onB, giv, givB, cnd, biP, isiO, isiP, back, t, isTup, shp, ixS, ixP, atP, placeOf, szs, dgetP, lenS, lenP, cmpP, int_eqO, sz_all, sz_mark, sz_days, sz_not, sz_and, sz_or, onO, partOf, slP, cutP, cutAt, itemsOf, lcGo, frzAll, wipeS, bindT, backS, noX, boolsO, onL, binP, binI, fits, n_all_mark, n_all_days, n_all_not, n_all_and, n_all_or, n_mark_all, n_mark_days, n_mark_not, n_mark_and, n_mark_or, n_days_all, n_days_mark, n_days_not, n_days_and, n_days_or, n_not_all, n_not_mark, n_not_days, n_not_and, n_not_or, n_and_all, n_and_mark, n_and_days, n_and_not, n_and_or, n_or_all, n_or_mark, n_or_days, n_or_not, n_or_and, str_eq_mark gs, str_eq_days gs, str_eq_all gs, ny, fit_le]
        by_cases e_not : s = "not"
        · subst e_not
          by_cases hp : 0 < n
          · have ry := ry hp
            simp [D24, b24, exs, ev, newEnv, getS, setS, rd, frz, on1, onB, giv, givB, cnd, biP, isiO, isiP, back, t, isTup, shp, ixS, ixP, atP, placeOf, szs, dgetP, lenS, lenP, cmpP, int_eqO, sz_all, sz_mark, sz_days, sz_not, sz_and, sz_or, onO, partOf, slP, cutP, cutAt, itemsOf, lcGo, frzAll, wipeS, bindT, backS, noX, boolsO, onL, binP, binI, fits, n_all_mark, n_all_days, n_all_not, n_all_and, n_all_or, n_mark_all, n_mark_days, n_mark_not, n_mark_and, n_mark_or, n_days_all, n_days_mark, n_days_not, n_days_and, n_days_or, n_not_all, n_not_mark, n_not_days, n_not_and, n_not_or, n_and_all, n_and_mark, n_and_days, n_and_not, n_and_or, n_or_all, n_or_mark, n_or_days, n_or_not, n_or_and, str_eq_mark gs, str_eq_days gs, str_eq_all gs, hp, ry, ny, fit_le]
          · simp [D24, b24, exs, ev, newEnv, getS, setS, rd, frz, on1, onB, giv, givB, cnd, biP, isiO, isiP, back, t, isTup, shp, ixS, ixP, atP, placeOf, szs, dgetP, lenS, lenP, cmpP, int_eqO, sz_all, sz_mark, sz_days, sz_not, sz_and, sz_or, onO, partOf, slP, cutP, cutAt, itemsOf, lcGo, frzAll, wipeS, bindT, backS, noX, boolsO, onL, binP, binI, fits, n_all_mark, n_all_days, n_all_not, n_all_and, n_all_or, n_mark_all, n_mark_days, n_mark_not, n_mark_and, n_mark_or, n_days_all, n_days_mark, n_days_not, n_days_and, n_days_or, n_not_all, n_not_mark, n_not_days, n_not_and, n_not_or, n_and_all, n_and_mark, n_and_days, n_and_not, n_and_or, n_or_all, n_or_mark, n_or_days, n_or_not, n_or_and, str_eq_mark gs, str_eq_days gs, str_eq_all gs, hp, ny, fit_le]
        by_cases e_and : s = "and"
        · subst e_and
          simp [D24, b24, exs, ev, newEnv, getS, setS, rd, frz, on1, onB, giv, givB, cnd, biP, isiO, isiP, back, t, isTup, shp, ixS, ixP, atP, placeOf, szs, dgetP, lenS, lenP, cmpP, int_eqO, sz_all, sz_mark, sz_days, sz_not, sz_and, sz_or, onO, partOf, slP, cutP, cutAt, itemsOf, lcGo, frzAll, wipeS, bindT, backS, noX, boolsO, onL, binP, binI, fits, n_all_mark, n_all_days, n_all_not, n_all_and, n_all_or, n_mark_all, n_mark_days, n_mark_not, n_mark_and, n_mark_or, n_days_all, n_days_mark, n_days_not, n_days_and, n_days_or, n_not_all, n_not_mark, n_not_days, n_not_and, n_not_or, n_and_all, n_and_mark, n_and_days, n_and_not, n_and_or, n_or_all, n_or_mark, n_or_days, n_or_not, n_or_and, str_eq_mark gs, str_eq_days gs, str_eq_all gs, ny, fit_le]
        by_cases e_or : s = "or"
        · subst e_or
          simp [D24, b24, exs, ev, newEnv, getS, setS, rd, frz, on1, onB, giv, givB, cnd, biP, isiO, isiP, back, t, isTup, shp, ixS, ixP, atP, placeOf, szs, dgetP, lenS, lenP, cmpP, int_eqO, sz_all, sz_mark, sz_days, sz_not, sz_and, sz_or, onO, partOf, slP, cutP, cutAt, itemsOf, lcGo, frzAll, wipeS, bindT, backS, noX, boolsO, onL, binP, binI, fits, n_all_mark, n_all_days, n_all_not, n_all_and, n_all_or, n_mark_all, n_mark_days, n_mark_not, n_mark_and, n_mark_or, n_days_all, n_days_mark, n_days_not, n_days_and, n_days_or, n_not_all, n_not_mark, n_not_days, n_not_and, n_not_or, n_and_all, n_and_mark, n_and_days, n_and_not, n_and_or, n_or_all, n_or_mark, n_or_days, n_or_not, n_or_and, str_eq_mark gs, str_eq_days gs, str_eq_all gs, ny, fit_le]
        have sn := sz_none e_all e_mark e_days e_not e_and e_or
        simp [D24, b24, exs, ev, newEnv, getS, setS, rd, frz, on1, onB, giv, givB, cnd, biP, isiO, isiP, back, t, isTup, shp, ixS, ixP, atP, placeOf, szs, dgetP, lenS, lenP, cmpP, int_eqO, sz_all, sz_mark, sz_days, sz_not, sz_and, sz_or, onO, partOf, slP, cutP, cutAt, itemsOf, lcGo, frzAll, wipeS, bindT, backS, noX, boolsO, onL, binP, binI, fits, sn, e_all, e_mark, e_days, e_not, e_and, e_or, str_eq_mark gs, str_eq_days gs, str_eq_all gs]
      | _ => simp [D24, b24, exs, ev, newEnv, getS, setS, rd, frz, on1, onB, giv, givB, cnd, biP, isiO, isiP, back, t, isTup, shp, ixS, ixP, atP, placeOf]
    | [x, y, z], m + 1, g =>
      have gx : gd m x = true := by simp [gd] at g; exact g.1
      have gy : gd m y = true := by simp [gd] at g; exact g.2.1
      have gz : gd m z = true := by simp [gd] at g; exact g.2.2
      have xo := gd_noOb gx
      have yo := gd_noOb gy
      have zo := gd_noOb gz
      have ny := fun st => num st y 0 999 yo
      have nz := fun st i => num st z i 999 zo
      have ry := fun h st => hr h m y st (Nat.lt_succ_self _) gy
      have rz := fun h st => hr h m z st (Nat.lt_succ_self _) gz
      cases x with
      | ob k => cases xo
      | str s =>
        have gs : s.cps.all (· < 0x110000) = true := by cases m <;> exact gx
        by_cases e_all : s = "all"
        · subst e_all
          simp [D24, b24, exs, ev, newEnv, getS, setS, rd, frz, on1, onB, giv, givB, cnd, biP, isiO, isiP, back, t, isTup, shp, ixS, ixP, atP, placeOf, szs, dgetP, lenS, lenP, cmpP, int_eqO, sz_all, sz_mark, sz_days, sz_not, sz_and, sz_or, onO, partOf, slP, cutP, cutAt, itemsOf, lcGo, frzAll, wipeS, bindT, backS, noX, boolsO, onL, binP, binI, fits, n_all_mark, n_all_days, n_all_not, n_all_and, n_all_or, n_mark_all, n_mark_days, n_mark_not, n_mark_and, n_mark_or, n_days_all, n_days_mark, n_days_not, n_days_and, n_days_or, n_not_all, n_not_mark, n_not_days, n_not_and, n_not_or, n_and_all, n_and_mark, n_and_days, n_and_not, n_and_or, n_or_all, n_or_mark, n_or_days, n_or_not, n_or_and, str_eq_mark gs, str_eq_days gs, str_eq_all gs, ny, nz, fit_le]
        by_cases e_mark : s = "mark"
        · subst e_mark
          simp [D24, b24, exs, ev, newEnv, getS, setS, rd, frz, on1, onB, giv, givB, cnd, biP, isiO, isiP, back, t, isTup, shp, ixS, ixP, atP, placeOf, szs, dgetP, lenS, lenP, cmpP, int_eqO, sz_all, sz_mark, sz_days, sz_not, sz_and, sz_or, onO, partOf, slP, cutP, cutAt, itemsOf, lcGo, frzAll, wipeS, bindT, backS, noX, boolsO, onL, binP, binI, fits, n_all_mark, n_all_days, n_all_not, n_all_and, n_all_or, n_mark_all, n_mark_days, n_mark_not, n_mark_and, n_mark_or, n_days_all, n_days_mark, n_days_not, n_days_and, n_days_or, n_not_all, n_not_mark, n_not_days, n_not_and, n_not_or, n_and_all, n_and_mark, n_and_days, n_and_not, n_and_or, n_or_all, n_or_mark, n_or_days, n_or_not, n_or_and, str_eq_mark gs, str_eq_days gs, str_eq_all gs, ny, nz, fit_le]
        by_cases e_days : s = "days"
        · subst e_days
          cases y with
          | int i => by_cases q : isNum (.int i) 0 999 = true <;> simp [D24, b24, exs, ev, newEnv, getS, setS, rd, frz, on1, onB, giv, givB, cnd, biP, isiO, isiP, back, t, isTup, shp, ixS, ixP, atP, placeOf, szs, dgetP, lenS, lenP, cmpP, int_eqO, sz_all, sz_mark, sz_days, sz_not, sz_and, sz_or, onO, partOf, slP, cutP, cutAt, itemsOf, lcGo, frzAll, wipeS, bindT, backS, noX, boolsO, onL, binP, binI, fits, n_all_mark, n_all_days, n_all_not, n_all_and, n_all_or, n_mark_all, n_mark_days, n_mark_not, n_mark_and, n_mark_or, n_days_all, n_days_mark, n_days_not, n_days_and, n_days_or, n_not_all, n_not_mark, n_not_days, n_not_and, n_not_or, n_and_all, n_and_mark, n_and_days, n_and_not, n_and_or, n_or_all, n_or_mark, n_or_days, n_or_not, n_or_and, str_eq_mark gs, str_eq_days gs, str_eq_all gs, q, ny, nz, fit_le]
          | ob k => cases yo
          | _ => simp [D24, b24, exs, ev, newEnv, getS, setS, rd, frz, on1, onB, giv, givB, cnd, biP, isiO, isiP, back, t, isTup, shp, ixS, ixP, atP, placeOf, szs, dgetP, lenS, lenP, cmpP, int_eqO, sz_all, sz_mark, sz_days, sz_not, sz_and, sz_or, onO, partOf, slP, cutP, cutAt, itemsOf, lcGo, frzAll, wipeS, bindT, backS, noX, boolsO, onL, binP, binI, fits, n_all_mark, n_all_days, n_all_not, n_all_and, n_all_or, n_mark_all, n_mark_days, n_mark_not, n_mark_and, n_mark_or, n_days_all, n_days_mark, n_days_not, n_days_and, n_days_or, n_not_all, n_not_mark, n_not_days, n_not_and, n_not_or, n_and_all, n_and_mark, n_and_days, n_and_not, n_and_or, n_or_all, n_or_mark, n_or_days, n_or_not, n_or_and, str_eq_mark gs, str_eq_days gs, str_eq_all gs, isNum, ny, nz, fit_le]
        by_cases e_not : s = "not"
        · subst e_not
          simp [D24, b24, exs, ev, newEnv, getS, setS, rd, frz, on1, onB, giv, givB, cnd, biP, isiO, isiP, back, t, isTup, shp, ixS, ixP, atP, placeOf, szs, dgetP, lenS, lenP, cmpP, int_eqO, sz_all, sz_mark, sz_days, sz_not, sz_and, sz_or, onO, partOf, slP, cutP, cutAt, itemsOf, lcGo, frzAll, wipeS, bindT, backS, noX, boolsO, onL, binP, binI, fits, n_all_mark, n_all_days, n_all_not, n_all_and, n_all_or, n_mark_all, n_mark_days, n_mark_not, n_mark_and, n_mark_or, n_days_all, n_days_mark, n_days_not, n_days_and, n_days_or, n_not_all, n_not_mark, n_not_days, n_not_and, n_not_or, n_and_all, n_and_mark, n_and_days, n_and_not, n_and_or, n_or_all, n_or_mark, n_or_days, n_or_not, n_or_and, str_eq_mark gs, str_eq_days gs, str_eq_all gs, ny, nz, fit_le]
        by_cases e_and : s = "and"
        · subst e_and
          by_cases hp : 0 < n
          · have ry := ry hp
            have rz := rz hp
            simp [D24, b24, exs, ev, newEnv, getS, setS, rd, frz, on1, onB, giv, givB, cnd, biP, isiO, isiP, back, t, isTup, shp, ixS, ixP, atP, placeOf, szs, dgetP, lenS, lenP, cmpP, int_eqO, sz_all, sz_mark, sz_days, sz_not, sz_and, sz_or, onO, partOf, slP, cutP, cutAt, itemsOf, lcGo, frzAll, wipeS, bindT, backS, noX, boolsO, onL, binP, binI, fits, n_all_mark, n_all_days, n_all_not, n_all_and, n_all_or, n_mark_all, n_mark_days, n_mark_not, n_mark_and, n_mark_or, n_days_all, n_days_mark, n_days_not, n_days_and, n_days_or, n_not_all, n_not_mark, n_not_days, n_not_and, n_not_or, n_and_all, n_and_mark, n_and_days, n_and_not, n_and_or, n_or_all, n_or_mark, n_or_days, n_or_not, n_or_and, str_eq_mark gs, str_eq_days gs, str_eq_all gs, hp, ry, rz, ny, nz, fit_le]
          · simp [D24, b24, exs, ev, newEnv, getS, setS, rd, frz, on1, onB, giv, givB, cnd, biP, isiO, isiP, back, t, isTup, shp, ixS, ixP, atP, placeOf, szs, dgetP, lenS, lenP, cmpP, int_eqO, sz_all, sz_mark, sz_days, sz_not, sz_and, sz_or, onO, partOf, slP, cutP, cutAt, itemsOf, lcGo, frzAll, wipeS, bindT, backS, noX, boolsO, onL, binP, binI, fits, n_all_mark, n_all_days, n_all_not, n_all_and, n_all_or, n_mark_all, n_mark_days, n_mark_not, n_mark_and, n_mark_or, n_days_all, n_days_mark, n_days_not, n_days_and, n_days_or, n_not_all, n_not_mark, n_not_days, n_not_and, n_not_or, n_and_all, n_and_mark, n_and_days, n_and_not, n_and_or, n_or_all, n_or_mark, n_or_days, n_or_not, n_or_and, str_eq_mark gs, str_eq_days gs, str_eq_all gs, hp, ny, nz, fit_le]
        by_cases e_or : s = "or"
        · subst e_or
          by_cases hp : 0 < n
          · have ry := ry hp
            have rz := rz hp
            simp [D24, b24, exs, ev, newEnv, getS, setS, rd, frz, on1, onB, giv, givB, cnd, biP, isiO, isiP, back, t, isTup, shp, ixS, ixP, atP, placeOf, szs, dgetP, lenS, lenP, cmpP, int_eqO, sz_all, sz_mark, sz_days, sz_not, sz_and, sz_or, onO, partOf, slP, cutP, cutAt, itemsOf, lcGo, frzAll, wipeS, bindT, backS, noX, boolsO, onL, binP, binI, fits, n_all_mark, n_all_days, n_all_not, n_all_and, n_all_or, n_mark_all, n_mark_days, n_mark_not, n_mark_and, n_mark_or, n_days_all, n_days_mark, n_days_not, n_days_and, n_days_or, n_not_all, n_not_mark, n_not_days, n_not_and, n_not_or, n_and_all, n_and_mark, n_and_days, n_and_not, n_and_or, n_or_all, n_or_mark, n_or_days, n_or_not, n_or_and, str_eq_mark gs, str_eq_days gs, str_eq_all gs, hp, ry, rz, ny, nz, fit_le]
          · simp [D24, b24, exs, ev, newEnv, getS, setS, rd, frz, on1, onB, giv, givB, cnd, biP, isiO, isiP, back, t, isTup, shp, ixS, ixP, atP, placeOf, szs, dgetP, lenS, lenP, cmpP, int_eqO, sz_all, sz_mark, sz_days, sz_not, sz_and, sz_or, onO, partOf, slP, cutP, cutAt, itemsOf, lcGo, frzAll, wipeS, bindT, backS, noX, boolsO, onL, binP, binI, fits, n_all_mark, n_all_days, n_all_not, n_all_and, n_all_or, n_mark_all, n_mark_days, n_mark_not, n_mark_and, n_mark_or, n_days_all, n_days_mark, n_days_not, n_days_and, n_days_or, n_not_all, n_not_mark, n_not_days, n_not_and, n_not_or, n_and_all, n_and_mark, n_and_days, n_and_not, n_and_or, n_or_all, n_or_mark, n_or_days, n_or_not, n_or_and, str_eq_mark gs, str_eq_days gs, str_eq_all gs, hp, ny, nz, fit_le]
        have sn := sz_none e_all e_mark e_days e_not e_and e_or
        simp [D24, b24, exs, ev, newEnv, getS, setS, rd, frz, on1, onB, giv, givB, cnd, biP, isiO, isiP, back, t, isTup, shp, ixS, ixP, atP, placeOf, szs, dgetP, lenS, lenP, cmpP, int_eqO, sz_all, sz_mark, sz_days, sz_not, sz_and, sz_or, onO, partOf, slP, cutP, cutAt, itemsOf, lcGo, frzAll, wipeS, bindT, backS, noX, boolsO, onL, binP, binI, fits, sn, e_all, e_mark, e_days, e_not, e_and, e_or, str_eq_mark gs, str_eq_days gs, str_eq_all gs]
      | _ => simp [D24, b24, exs, ev, newEnv, getS, setS, rd, frz, on1, onB, giv, givB, cnd, biP, isiO, isiP, back, t, isTup, shp, ixS, ixP, atP, placeOf]
    | _ :: _, 0, g => cases g
  | ob k => cases hn
  | _ => simp [D24, b24, exs, ev, newEnv, getS, setS, rd, frz, on1, onB, giv, givB, cnd, biP, isiO, isiP, back, t, isTup, shp]
theorem q_cond : ∀ (n : Nat) (d m : Nat) (v : PV) (st : Sto), gd m v = true → m ≤ 60 → runP TT (n + d + 2) 14 [v, .int n] st = .ok (.bl (cond n v)) st := by
  intro n
  induction n with
  | zero =>
    intro d m v st g hm
    have h := q_cond_step (d := 0 + d) (st := st) m v 0 (by decide) hm g (fun _ => false) (fun h => absurd h (by decide))
    exact h
  | succ n ih =>
    intro d m v st g hm
    have h := q_cond_step (d := n + 1 + d) (st := st) m v ((n : Int) + 1) (by omega) hm g (cond n) (fun _ k a st hk ga => by
      have e := ih d k a st ga (by omega)
      rw [show ((n : Int) + 1 - 1) = n by omega, show n + 1 + d + 1 = n + d + 2 by omega]
      exact e)
    rw [show decide ((0 : Int) < (n : Int) + 1) = true from decide_eq_true (by omega)] at h
    exact h
theorem q_is_condition (m : Nat) (v : PV) (g : gd m v = true) (hm : m ≤ 60) : runP TT (d + 8) 13 [v] st = .ok (.bl (cond 5 v)) st := by
  rw [st_run (D := D23) rfl rfl]
  have h := fun st => q_cond 5 d m v st g hm
  rw [show 5 + d + 2 = d + 7 by omega] at h
  have h' : ∀ st, runP TT (d + 7) 14 [v, .int 5] st = .ok (.bl (cond 5 v)) st := h
  simp [D23, b23, exs, ev, newEnv, getS, setS, rd, frz, on1, onB, giv, givB, cnd, back, h']
/-- closed runs -/
def marksV : List PV := [.tup [], .tup [.int 0], .tup [.int 0, .int 1], .tup [.int 0, .int 1, .int 2], .tup [.int 0, .int 1, .int 2, .int 3], .tup [.int 0, .int 1, .int 3], .tup [.int 0, .int 2], .tup [.int 0, .int 2, .int 3], .tup [.int 0, .int 3], .tup [.int 1], .tup [.int 1, .int 2], .tup [.int 1, .int 2, .int 3], .tup [.int 1, .int 3], .tup [.int 2], .tup [.int 2, .int 3], .tup [.int 3]]
theorem q_law_marks : runP TT (d + 1) 33 [] st = .ok (.lst marksV) st := by kernel_rfl
/-- the dice at n: three whole numbers, the last at most k -/
def Dice (n k : Nat) (st : Sto) : Prop := ∃ a b c : Int, st[n]? = some (.cells [.int a, .int b, .int c]) ∧ 0 ≤ a ∧ 0 ≤ b ∧ b < 2147480009 ∧ 0 ≤ c ∧ c ≤ k
theorem mul_ok {i j : Int} (hi : i.natAbs < 2 ^ 64) (hj : j.natAbs < 2 ^ 64) : mulOk i j = true := by
  have h : ∀ n : Nat, n < 2 ^ 64 → n.log2 ≤ 64 := fun n h => by
    by_cases z : n = 0
    · subst z; decide
    · exact Nat.le_of_lt ((Nat.log2_lt z).mpr h)
  unfold mulOk
  have h1 := h _ hi
  have h2 := h _ hj
  exact decide_eq_true (by omega)
theorem set_get {α : Type} {l : List α} {n : Nat} {x y : α} (h : l[n]? = some x) : (l.set n y)[n]? = some y := by
  have : n < l.length := (List.getElem?_eq_some_iff.mp h).1
  simp [this]
theorem q_roll (n k : Nat) (t : Int) (ht : 0 < t) (hk : k ≤ 1000000) (h : Dice n k st) (ht2 : t.natAbs.log2 < 9000) : ∃ (i : Int) (st' : Sto), runP TT (d + 1) 29 [.ob n, .int t] st = .ok (.int i) st' ∧ 0 ≤ i ∧ i < t ∧ Dice n (k + 1) st' ∧ st'.length = st.length := by
  obtain ⟨a, b, c, e, ha, hb, hb2, hc, hk2⟩ := h
  rw [st_run (D := D44) rfl rfl]
  have dv : divOk t = true := by unfold divOk; simp [ht, ht2]
  by_cases z : 0 < a
  · refine ⟨a % t, st.set n (.cells [.int (a / t), .int b, .int c]), ?_, Int.emod_nonneg _ (by omega), Int.emod_lt_of_pos _ ht, ⟨a / t, b, c, set_get e, Int.ediv_nonneg ha (by omega), hb, hb2, hc, by omega⟩, by simp⟩
    simp [D44, b44, exs, ev, newEnv, getS, setS, rd, frz, on1, onB, giv, givB, cnd, biP, on1I, intP, cmpP, binP, binI, ixS, cellsAt, e, atP, placeOf, z, ht, dv, stiS, setPl, kn2]
  · have m1 : mulOk b 48271 = true := mul_ok (by omega) (by decide)
    have m2 : mulOk (c + 1) (c + 1) = true := mul_ok (by omega) (by omega)
    have m3 : mulOk ((c + 1) * (c + 1)) 2003 = true := mul_ok (by
      have : (c + 1) * (c + 1) ≤ 1000002 * 1000002 := Int.mul_le_mul (by omega) (by omega) (by omega) (by omega)
      have : 0 ≤ (c + 1) * (c + 1) := Int.mul_nonneg (by omega) (by omega)
      omega) (by decide)
    have dv2 : divOk 197 = true := by decide
    let b' : Int := (b * 48271 + (c + 1) * (c + 1) * 2003 + 91) % 2147480009
    refine ⟨b' / 197 % t, (st.set n (.cells [.int a, .int b, .int (c + 1)])).set n (.cells [.int a, .int b', .int (c + 1)]), ?_, Int.emod_nonneg _ (by omega), Int.emod_lt_of_pos _ ht, ⟨a, b', c + 1, set_get (set_get e), ha, Int.emod_nonneg _ (by omega), Int.emod_lt_of_pos _ (by decide), by omega, by omega⟩, by simp⟩
    have sg : ∀ y : SObj, (List.set st n y)[n]? = some y := fun y => set_get e
    simp [D44, b44, exs, ev, newEnv, getS, setS, rd, frz, on1, onB, giv, givB, cnd, biP, on1I, intP, cmpP, binP, binI, ixS, cellsAt, e, sg, atP, placeOf, z, ht, dv, dv2, m1, m2, m3, stiS, setPl, kn2, b']
theorem log_small {t : Int} (h0 : 0 < t) (h : t ≤ 1000000) : t.natAbs.log2 < 9000 := by
  have : t.natAbs.log2 < 64 := (Nat.log2_lt (by omega)).mpr (by omega)
  omega
theorem q_pick (n k : Nat) (xs : List PV) (hx : 0 < xs.length) (hx2 : xs.length ≤ 1000) (hk : k ≤ 1000000) (h : Dice n k st) (v : PV) (hv : v = .lst xs ∨ v = .tup xs) :
    ∃ (w : PV) (st' : Sto), runP TT (d + 2) 30 [.ob n, v] st = .ok w st' ∧ w ∈ xs ∧ Dice n (k + 1) st' ∧ st'.length = st.length := by
  obtain ⟨i, st', e, i0, i1, h', hl⟩ := q_roll (d := d) (st := st) n k (xs.length : Int) (by omega) hk h (log_small (by omega) (by omega))
  obtain ⟨j, rfl⟩ : ∃ j : Nat, i = j := ⟨i.toNat, by omega⟩
  have hj : j < xs.length := by omega
  refine ⟨xs[j], st', ?_, List.getElem_mem hj, h', hl⟩
  rw [st_run (D := D45) rfl rfl]
  rcases hv with rfl | rfl <;> simp [D45, b45, exs, ev, newEnv, getS, setS, rd, frz, on1, onB, giv, givB, cnd, lenS, biP, lenP, back, e, ixS, ixP, atP, placeOf, hj]
theorem nox {f : Cl} {g : Nat} {vs : List PV} {st : Sto} {v : PV} {st' : Sto} (h : f g vs st = .ok v st') : noX f g vs st = .ok v st' := by unfold noX; rw [h]
/-- conditions as data of their own -/
inductive Cnd where
  | all | mark (i : Int) | days (a b : Int) | neg (c : Cnd) | con (c e : Cnd) | dis (c e : Cnd)
def enc : Cnd → PV
  | .all => .tup [.str "all"]
  | .mark i => .tup [.str "mark", .int i]
  | .days a b => .tup [.str "days", .int a, .int b]
  | .neg c => .tup [.str "not", enc c]
  | .con c e => .tup [.str "and", enc c, enc e]
  | .dis c e => .tup [.str "or", enc c, enc e]
def wf : Cnd → Bool
  | .all => true
  | .mark i => decide (0 ≤ i) && decide (i ≤ 3)
  | .days a b => (decide (0 ≤ a) && decide (a ≤ 999)) && (decide (a ≤ b) && decide (b ≤ 999))
  | .neg c => wf c
  | .con c e => wf c && wf e
  | .dis c e => wf c && wf e
def dp : Cnd → Nat
  | .neg c => dp c + 1
  | .con c e => max (dp c) (dp e) + 1
  | .dis c e => max (dp c) (dp e) + 1
  | _ => 0
def dpI : Cnd → Int
  | .neg c => 1 + dpI c
  | .con c e => 1 + (if dpI e > dpI c then dpI e else dpI c)
  | .dis c e => 1 + (if dpI e > dpI c then dpI e else dpI c)
  | _ => 0
def hold (ms : List PV) (day : Int) : Cnd → Bool
  | .all => true
  | .mark i => ms.any fun y => eqP y (.int i)
  | .days a b => decide (a ≤ day) && decide (day ≤ b)
  | .neg c => !hold ms day c
  | .con c e => hold ms day c && hold ms day e
  | .dis c e => hold ms day c || hold ms day e
theorem gd_mono : ∀ (n m : Nat) (v : PV), n ≤ m → gd n v = true → gd m v = true := by
  intro n
  induction n with
  | zero => intro m v h g; cases v <;> first | exact g | (cases m <;> exact g) | cases g
  | succ n ih =>
    intro m v h g
    obtain ⟨m, rfl⟩ : ∃ k, m = k + 1 := ⟨m - 1, by omega⟩
    cases v with
    | tup xs =>
      simp only [gd, Bool.and_eq_true] at g ⊢
      exact ⟨g.1, List.all_eq_true.mpr fun x hx => ih m x (by omega) (List.all_eq_true.mp g.2 x hx)⟩
    | lst xs =>
      simp only [gd, Bool.and_eq_true] at g ⊢
      exact ⟨g.1, List.all_eq_true.mpr fun x hx => ih m x (by omega) (List.all_eq_true.mp g.2 x hx)⟩
    | _ => exact g
theorem wd_all : gd n (.str "all") = true := by cases n <;> exact (by decide +kernel : ("all" : Str).cps.all (· < 0x110000) = true)
theorem wd_mark : gd n (.str "mark") = true := by cases n <;> exact (by decide +kernel : ("mark" : Str).cps.all (· < 0x110000) = true)
theorem wd_days : gd n (.str "days") = true := by cases n <;> exact (by decide +kernel : ("days" : Str).cps.all (· < 0x110000) = true)
theorem wd_not : gd n (.str "not") = true := by cases n <;> exact (by decide +kernel : ("not" : Str).cps.all (· < 0x110000) = true)
theorem wd_and : gd n (.str "and") = true := by cases n <;> exact (by decide +kernel : ("and" : Str).cps.all (· < 0x110000) = true)
theorem wd_or : gd n (.str "or") = true := by cases n <;> exact (by decide +kernel : ("or" : Str).cps.all (· < 0x110000) = true)
theorem gd_int {n : Nat} {i : Int} : gd n (.int i) = true := by cases n <;> rfl
theorem gd_enc : ∀ (c : Cnd) (n : Nat), dp c < n → gd n (enc c) = true := by
  intro c
  induction c with
  | all => intro n h; obtain ⟨n, rfl⟩ : ∃ k, n = k + 1 := ⟨n - 1, by omega⟩; simp [enc, gd, wd_all]
  | mark i => intro n h; obtain ⟨n, rfl⟩ : ∃ k, n = k + 1 := ⟨n - 1, by omega⟩; simp [enc, gd, wd_mark, gd_int]
  | days a b => intro n h; obtain ⟨n, rfl⟩ : ∃ k, n = k + 1 := ⟨n - 1, by omega⟩; simp [enc, gd, wd_days, gd_int]
  | neg c ih => intro n h; obtain ⟨n, rfl⟩ : ∃ k, n = k + 1 := ⟨n - 1, by omega⟩; simp only [dp] at h; simp [enc, gd, wd_not, ih n (by omega)]
  | con c e ih ih2 => intro n h; obtain ⟨n, rfl⟩ : ∃ k, n = k + 1 := ⟨n - 1, by omega⟩; simp only [dp] at h; simp [enc, gd, wd_and, ih n (by omega), ih2 n (by omega)]
  | dis c e ih ih2 => intro n h; obtain ⟨n, rfl⟩ : ∃ k, n = k + 1 := ⟨n - 1, by omega⟩; simp only [dp] at h; simp [enc, gd, wd_or, ih n (by omega), ih2 n (by omega)]
theorem cond_enc : ∀ (c : Cnd) (n : Nat), wf c = true → dp c ≤ n → cond n (enc c) = true := by
  intro c
  induction c with
  | all => intro n w h; cases n <;> rfl
  | mark i => intro n w h; cases n <;> exact w
  | days a b => intro n w h; cases n <;> exact w
  | neg c ih =>
    intro n w h
    simp only [dp] at h
    obtain ⟨n, rfl⟩ : ∃ k, n = k + 1 := ⟨n - 1, by omega⟩
    show (true && cond n (enc c)) = true
    rw [ih n w (by omega)]; rfl
  | con c e ih ih2 =>
    intro n w h
    simp only [dp] at h
    simp only [wf, Bool.and_eq_true] at w
    obtain ⟨n, rfl⟩ : ∃ k, n = k + 1 := ⟨n - 1, by omega⟩
    show (true && (cond n (enc c) && cond n (enc e))) = true
    rw [ih n w.1 (by omega), ih2 n w.2 (by omega)]; rfl
  | dis c e ih ih2 =>
    intro n w h
    simp only [dp] at h
    simp only [wf, Bool.and_eq_true] at w
    obtain ⟨n, rfl⟩ : ∃ k, n = k + 1 := ⟨n - 1, by omega⟩
    show (true && (cond n (enc c) && cond n (enc e))) = true
    rw [ih n w.1 (by omega), ih2 n w.2 (by omega)]; rfl
theorem in_ms {ms : List PV} (h : datL 60 ms = true) (i : Int) : cmpP .inn (.int i) (.tup ms) = some (ms.any fun y => eqP y (.int i)) := by
  show inP (.int i) ms = _
  unfold inP
  rw [h]; rfl
theorem q_holds (ms : List PV) (hm : datL 60 ms = true) (day : Int) : ∀ (c : Cnd) (d : Nat) (st : Sto), dp c < d → runP TT d 15 [enc c, .tup ms, .int day] st = .ok (.bl (hold ms day c)) st := by
  intro c
  induction c with
  | all => intro d st h; cases d with
    | zero => cases h
    | succ d => kernel_rfl
  | mark i => intro d st h; cases d with
    | zero => cases h
    | succ d =>
      with_unfolding_all conv => lhs; whnf
      rw [in_ms hm]
      kernel_rfl
  | days a b => intro d st h; cases d with
    | zero => cases h
    | succ d =>
      by_cases h1 : a ≤ day
      · have e1 : decide (a ≤ day) = true := decide_eq_true h1
        show _ = Res.ok (.bl (decide (a ≤ day) && decide (day ≤ b))) st
        with_unfolding_all conv => lhs; whnf
        rw [e1]
        kernel_rfl
      · have e1 : decide (a ≤ day) = false := decide_eq_false h1
        show _ = Res.ok (.bl (decide (a ≤ day) && decide (day ≤ b))) st
        with_unfolding_all conv => lhs; whnf
        rw [e1]
        kernel_rfl
  | neg c ih => intro d st h; cases d with
    | zero => cases h
    | succ d =>
      simp only [dp] at h
      with_unfolding_all conv => lhs; whnf
      rw [ih d _ (by omega)]
      kernel_rfl
  | con c e ih ih2 => intro d st h; cases d with
    | zero => cases h
    | succ d =>
      simp only [dp] at h
      with_unfolding_all conv => lhs; whnf
      rw [ih d _ (by omega)]
      show _ = Res.ok (.bl (hold ms day c && hold ms day e)) st
      cases hold ms day c
      · kernel_rfl
      · with_unfolding_all conv => lhs; whnf
        rw [ih2 d _ (by omega)]
        kernel_rfl
  | dis c e ih ih2 => intro d st h; cases d with
    | zero => cases h
    | succ d =>
      simp only [dp] at h
      with_unfolding_all conv => lhs; whnf
      rw [ih d _ (by omega)]
      show _ = Res.ok (.bl (hold ms day c || hold ms day e)) st
      cases hold ms day c
      · with_unfolding_all conv => lhs; whnf
        rw [ih2 d _ (by omega)]
        kernel_rfl
      · kernel_rfl
theorem q_lholds (ms : List PV) (hm : datL 60 ms = true) (day : Int) : ∀ (c : Cnd) (d : Nat) (st : Sto), dp c < d → runP TT d 32 [enc c, .tup ms, .int day] st = .ok (.bl (hold ms day c)) st := by
  intro c
  induction c with
  | all => intro d st h; cases d with
    | zero => cases h
    | succ d => kernel_rfl
  | mark i => intro d st h; cases d with
    | zero => cases h
    | succ d =>
      with_unfolding_all conv => lhs; whnf
      rw [in_ms hm]
      kernel_rfl
  | days a b => intro d st h; cases d with
    | zero => cases h
    | succ d =>
      by_cases h1 : a ≤ day
      · have e1 : decide (a ≤ day) = true := decide_eq_true h1
        show _ = Res.ok (.bl (decide (a ≤ day) && decide (day ≤ b))) st
        with_unfolding_all conv => lhs; whnf
        rw [e1]
        kernel_rfl
      · have e1 : decide (a ≤ day) = false := decide_eq_false h1
        show _ = Res.ok (.bl (decide (a ≤ day) && decide (day ≤ b))) st
        with_unfolding_all conv => lhs; whnf
        rw [e1]
        kernel_rfl
  | neg c ih => intro d st h; cases d with
    | zero => cases h
    | succ d =>
      simp only [dp] at h
      with_unfolding_all conv => lhs; whnf
      rw [ih d _ (by omega)]
      kernel_rfl
  | con c e ih ih2 => intro d st h; cases d with
    | zero => cases h
    | succ d =>
      simp only [dp] at h
      with_unfolding_all conv => lhs; whnf
      rw [ih d _ (by omega)]
      with_unfolding_all conv => lhs; whnf
      rw [ih2 d _ (by omega)]
      show _ = Res.ok (.bl (hold ms day c && hold ms day e)) st
      cases hold ms day c <;> cases hold ms day e <;> kernel_rfl
  | dis c e ih ih2 => intro d st h; cases d with
    | zero => cases h
    | succ d =>
      simp only [dp] at h
      with_unfolding_all conv => lhs; whnf
      rw [ih d _ (by omega)]
      with_unfolding_all conv => lhs; whnf
      rw [ih2 d _ (by omega)]
      show _ = Res.ok (.bl (hold ms day c || hold ms day e)) st
      cases hold ms day c <;> cases hold ms day e <;> kernel_rfl
/-- rising tuples and cases -/
theorem isNum_int {v : PV} {lo hi : Int} (h : isNum v lo hi = true) : ∃ i, v = .int i ∧ lo ≤ i ∧ i ≤ hi := by
  cases v with
  | int i => simp only [isNum, Bool.and_eq_true, decide_eq_true_eq] at h; exact ⟨i, rfl, h.1, h.2⟩
  | _ => cases h
def ltN : PV → PV → Bool
  | .int i, .int j => decide (i < j)
  | _, _ => false
def incr : List PV → Bool
  | [] => true
  | [_] => true
  | x :: y :: r => ltN x y && incr (y :: r)
def rise : PV → Bool
  | .tup ys => decide (ys.length ≤ 4) && ((ys.all fun y => isNum y 0 3) && incr ys)
  | _ => false
def caseB : PV → Bool
  | .tup [x, y, z] => isNum x 0 1000000000 && (rise y && isNum z 0 999)
  | _ => false
def isBl : PV → Bool
  | .bl _ => true
  | _ => false
def mk : PV → Bool
  | .tup ys => (marksV.any fun t => eqP t (.tup ys)) && !(ys.any isBl)
  | _ => false
def marksI : List (List Int) := [[], [0], [0, 1], [0, 1, 2], [0, 1, 2, 3], [0, 1, 3], [0, 2], [0, 2, 3], [0, 3], [1], [1, 2], [1, 2, 3], [1, 3], [2], [2, 3], [3]]
theorem marksVI : marksV = marksI.map fun l => .tup (l.map .int) := rfl
theorem eqL_int : ∀ (l : List Int) (ys : List PV), eqL (l.map .int) ys = true → ys.any isBl = false → ys = l.map .int
  | [], [], _, _ => rfl
  | [], _ :: _, h, _ => by cases h
  | _ :: _, [], h, _ => by cases h
  | i :: l, y :: ys, h, n => by
    have h' : (eqP (.int i) y && eqL (l.map .int) ys) = true := h
    have n' : (isBl y || ys.any isBl) = false := n
    rw [Bool.and_eq_true] at h'
    rw [Bool.or_eq_false_iff] at n'
    rw [eqL_int l ys h'.2 n'.2]
    cases y with
    | int j =>
      have : (i == j) = true := h'.1
      rw [eq_of_beq this]; rfl
    | bl b => cases n'.1
    | _ => cases h'.1
theorem mk_rise (v : PV) : mk v = rise v := by
  cases v with
  | tup ys =>
    rw [Bool.eq_iff_iff]
    constructor
    · intro h
      have h' : ((marksV.any fun t => eqP t (.tup ys)) && !(ys.any isBl)) = true := h
      rw [Bool.and_eq_true, marksVI] at h'
      obtain ⟨t, ht, e⟩ := List.any_eq_true.mp h'.1
      obtain ⟨l, hl, rfl⟩ := List.mem_map.mp ht
      have n : ys.any isBl = false := by
        cases q : ys.any isBl with
        | false => rfl
        | true => rw [q] at h'; exact absurd h'.2 (by decide)
      rw [eqL_int l ys e n]
      have all : (marksI.all fun l => rise (.tup (l.map .int))) = true := by decide +kernel
      exact List.all_eq_true.mp all l hl
    · intro h
      have h' : (decide (ys.length ≤ 4) && ((ys.all fun y => isNum y 0 3) && incr ys)) = true := h
      simp only [Bool.and_eq_true, decide_eq_true_eq] at h'
      obtain ⟨h1, h2, h3⟩ := h'
      match ys, h1, h2, h3 with
      | [], _, _, _ => decide +kernel
      | [a], _, h2, _ =>
        obtain ⟨i, rfl, i0, i3⟩ := isNum_int (List.all_eq_true.mp h2 a (by simp))
        obtain rfl | rfl | rfl | rfl : i = 0 ∨ i = 1 ∨ i = 2 ∨ i = 3 := by omega
        all_goals decide +kernel
      | [a, b], _, h2, h3 =>
        obtain ⟨i, rfl, i0, i3⟩ := isNum_int (List.all_eq_true.mp h2 a (by simp))
        obtain ⟨j, rfl, j0, j3⟩ := isNum_int (List.all_eq_true.mp h2 b (by simp))
        have g : i < j := by simpa [incr, ltN] using h3
        obtain ⟨rfl, rfl⟩ | ⟨rfl, rfl⟩ | ⟨rfl, rfl⟩ | ⟨rfl, rfl⟩ | ⟨rfl, rfl⟩ | ⟨rfl, rfl⟩ : (i = 0 ∧ j = 1) ∨ (i = 0 ∧ j = 2) ∨ (i = 0 ∧ j = 3) ∨ (i = 1 ∧ j = 2) ∨ (i = 1 ∧ j = 3) ∨ (i = 2 ∧ j = 3) := by omega
        all_goals decide +kernel
      | [a, b, c], _, h2, h3 =>
        obtain ⟨i, rfl, i0, i3⟩ := isNum_int (List.all_eq_true.mp h2 a (by simp))
        obtain ⟨j, rfl, j0, j3⟩ := isNum_int (List.all_eq_true.mp h2 b (by simp))
        obtain ⟨k, rfl, k0, k3⟩ := isNum_int (List.all_eq_true.mp h2 c (by simp))
        have g : i < j ∧ j < k := by simpa [incr, ltN] using h3
        obtain ⟨rfl, rfl, rfl⟩ | ⟨rfl, rfl, rfl⟩ | ⟨rfl, rfl, rfl⟩ | ⟨rfl, rfl, rfl⟩ : (i = 0 ∧ j = 1 ∧ k = 2) ∨ (i = 0 ∧ j = 1 ∧ k = 3) ∨ (i = 0 ∧ j = 2 ∧ k = 3) ∨ (i = 1 ∧ j = 2 ∧ k = 3) := by omega
        all_goals decide +kernel
      | [a, b, c, e], _, h2, h3 =>
        obtain ⟨i, rfl, i0, i3⟩ := isNum_int (List.all_eq_true.mp h2 a (by simp))
        obtain ⟨j, rfl, j0, j3⟩ := isNum_int (List.all_eq_true.mp h2 b (by simp))
        obtain ⟨k, rfl, k0, k3⟩ := isNum_int (List.all_eq_true.mp h2 c (by simp))
        obtain ⟨l, rfl, l0, l3⟩ := isNum_int (List.all_eq_true.mp h2 e (by simp))
        have g : i < j ∧ j < k ∧ k < l := by simpa [incr, ltN] using h3
        obtain ⟨rfl, rfl, rfl, rfl⟩ : (i = 0 ∧ j = 1 ∧ k = 2 ∧ l = 3) := by omega
        decide +kernel
      | _ :: _ :: _ :: _ :: _ :: _, h1, _, _ => simp at h1
  | _ => rfl
theorem Q_in {d : Nat} {st : Sto} {v : PV} {lo hi : Int} (h : 0 < d) (hv : noOb v = true) : runP TT d 1 [v, .int lo, .int hi] st = .ok (.bl (isNum v lo hi)) st := by
  obtain ⟨d, rfl⟩ : ∃ k, d = k + 1 := ⟨d - 1, by omega⟩
  exact q_is_in v lo hi hv
theorem Q_tuple {d : Nat} {st : Sto} {v : PV} {lo hi : Int} (h : 0 < d) (hv : noOb v = true) : runP TT d 2 [v, .int lo, .int hi] st = .ok (.bl (isTup v lo hi)) st := by
  obtain ⟨d, rfl⟩ : ∃ k, d = k + 1 := ⟨d - 1, by omega⟩
  exact q_is_tuple v lo hi hv
theorem q_rising (m : Nat) (v : PV) (g : gd m v = true) (d : Nat) (hd : 1 < d) (st : Sto) : runP TT d 3 [v, .int 4] st = .ok (.bl (rise v)) st := by
  obtain ⟨d, rfl⟩ : ∃ k, d = k + 1 := ⟨d - 1, by omega⟩
  have hd : 0 < d := by omega
  have vo := gd_noOb g
  conv => lhs; whnf
  rw [Q_tuple hd vo]
  cases v with
  | tup ys =>
    by_cases hl : ys.length ≤ 4
    · have t1 : isTup (.tup ys) 0 4 = true := by
        show (decide ((0 : Int) ≤ ((ys.length : Nat) : Int)) && decide (((ys.length : Nat) : Int) ≤ 4)) = true
        rw [Bool.and_eq_true]; exact ⟨decide_eq_true (by omega), decide_eq_true (by omega)⟩
      have t2 : rise (.tup ys) = (ys.all (fun y => isNum y 0 3) && incr ys) := by
        show (decide (ys.length ≤ 4) && _) = _
        rw [decide_eq_true hl]; rfl
      have go : ∀ y ∈ ys, noOb y = true := fun y hy => by
        cases m with
        | zero => cases g
        | succ m =>
          simp only [gd, Bool.and_eq_true] at g
          exact gd_noOb (List.all_eq_true.mp g.2 y hy)
      rw [t1, t2]
      conv => lhs; whnf
      refine (lcGo_pure (i := 4) (fun x => .bl (isNum x 0 3)) [.val (.tup ys), .val (.int 4), .no, .no, .no] ys .no st _ ?_ ?_).trans ?_
      · exact fun _ _ _ _ => rfl
      · intro x hx st k
        conv => lhs; whnf
        rw [nox (Q_in hd (go x hx))]
        rfl
      have ft : fits (ys.map fun x => PV.bl (isNum x 0 3)).length = true := fits_10k (by simp; omega)
      conv => lhs; whnf
      rw [ft]
      conv => lhs; whnf
      rw [biP_all]
      cases ea : ys.all fun y => isNum y 0 3
      · kernel_rfl
      match ys, hl, ea with
      | [], _, _ => kernel_rfl
      | [a], _, h2 =>
        obtain ⟨i, rfl, i0, i3⟩ := isNum_int (List.all_eq_true.mp h2 a (by simp))
        kernel_rfl
      | [a, b], _, h2 =>
        obtain ⟨i, rfl, i0, i3⟩ := isNum_int (List.all_eq_true.mp h2 a (by simp))
        obtain ⟨j, rfl, j0, j3⟩ := isNum_int (List.all_eq_true.mp h2 b (by simp))
        kernel_rfl
      | [a, b, c], _, h2 =>
        obtain ⟨i, rfl, i0, i3⟩ := isNum_int (List.all_eq_true.mp h2 a (by simp))
        obtain ⟨j, rfl, j0, j3⟩ := isNum_int (List.all_eq_true.mp h2 b (by simp))
        obtain ⟨k, rfl, k0, k3⟩ := isNum_int (List.all_eq_true.mp h2 c (by simp))
        kernel_rfl
      | [a, b, c, e], _, h2 =>
        obtain ⟨i, rfl, i0, i3⟩ := isNum_int (List.all_eq_true.mp h2 a (by simp))
        obtain ⟨j, rfl, j0, j3⟩ := isNum_int (List.all_eq_true.mp h2 b (by simp))
        obtain ⟨k, rfl, k0, k3⟩ := isNum_int (List.all_eq_true.mp h2 c (by simp))
        obtain ⟨l, rfl, l0, l3⟩ := isNum_int (List.all_eq_true.mp h2 e (by simp))
        kernel_rfl
      | _ :: _ :: _ :: _ :: _ :: _, h1, _ => simp at h1
    · have t1 : isTup (.tup ys) 0 4 = false := by
        show (decide ((0 : Int) ≤ ((ys.length : Nat) : Int)) && decide (((ys.length : Nat) : Int) ≤ 4)) = false
        rw [Bool.and_eq_false_iff]; exact Or.inr (decide_eq_false (by omega))
      have t2 : rise (.tup ys) = false := by
        show (decide (ys.length ≤ 4) && _) = false
        rw [Bool.and_eq_false_iff]; exact Or.inl (decide_eq_false (by omega))
      rw [t1, t2]
      kernel_rfl
  | _ => kernel_rfl
theorem isTup3 (v : PV) (h : isTup v 3 3 = true) : ∃ x y z, v = .tup [x, y, z] := by
  cases v with
  | tup xs =>
    have h' : (decide ((3 : Int) ≤ ((xs.length : Nat) : Int)) && decide (((xs.length : Nat) : Int) ≤ 3)) = true := h
    simp only [Bool.and_eq_true, decide_eq_true_eq] at h'
    match xs, h' with
    | [x, y, z], _ => exact ⟨x, y, z, rfl⟩
    | [], h => exact absurd h.1 (by simp)
    | [_], h => exact absurd h.1 (by simp)
    | [_, _], h => exact absurd h.1 (by simp)
    | _ :: _ :: _ :: _ :: _, h => simp at h; omega
  | _ => cases h
theorem caseB3 (v : PV) (h : isTup v 3 3 = false) : caseB v = false := by
  unfold caseB
  split
  · cases h
  · rfl
theorem q_case (m : Nat) (v : PV) (g : gd m v = true) (d : Nat) (hd : 2 < d) (st : Sto) : runP TT d 12 [v] st = .ok (.bl (caseB v)) st := by
  obtain ⟨d, rfl⟩ : ∃ k, d = k + 1 := ⟨d - 1, by omega⟩
  have hd0 : 0 < d := by omega
  have hd1 : 1 < d := by omega
  have vo := gd_noOb g
  conv => lhs; whnf
  rw [Q_tuple hd0 vo]
  cases t : isTup v 3 3 with
  | false => rw [caseB3 v t]; kernel_rfl
  | true =>
    obtain ⟨x, y, z, rfl⟩ := isTup3 v t
    cases m with
    | zero => cases g
    | succ m =>
      have gx : gd m x = true := by simp [gd] at g; exact g.1
      have gy : gd m y = true := by simp [gd] at g; exact g.2.1
      have gz : gd m z = true := by simp [gd] at g; exact g.2.2
      show _ = Res.ok (.bl (isNum x 0 1000000000 && (rise y && isNum z 0 999))) st
      conv => lhs; whnf
      rw [Q_in hd0 (gd_noOb gx)]
      cases isNum x 0 1000000000
      · kernel_rfl
      conv => lhs; whnf
      rw [q_rising m y gy d hd1]
      cases rise y
      · kernel_rfl
      conv => lhs; whnf
      rw [Q_in hd0 (gd_noOb gz)]
      kernel_rfl
theorem Q_condition (m : Nat) (v : PV) (g : gd m v = true) (hm : m ≤ 60) (d : Nat) (hd : 8 ≤ d) (st : Sto) : runP TT d 13 [v] st = .ok (.bl (cond 5 v)) st := by
  obtain ⟨d, rfl⟩ : ∃ k, d = k + 8 := ⟨d - 8, by omega⟩
  exact q_is_condition m v g hm
theorem q_demand (s : Str) (d : Nat) (hd : 0 < d) (st : Sto) : runP TT d 0 [.bl true, .str s] st = .ok .non st := by
  obtain ⟨d, rfl⟩ : ∃ k, d = k + 1 := ⟨d - 1, by omega⟩
  kernel_rfl
theorem dice_mono {n k k' : Nat} {st : Sto} (h : Dice n k st) (hk : k ≤ k') : Dice n k' st := by
  obtain ⟨a, b, c, e, ha, hb, hb2, hc, hk2⟩ := h
  exact ⟨a, b, c, e, ha, hb, hb2, hc, by omega⟩
theorem Q_roll {d n k : Nat} {t : Int} {st : Sto} (hd : 0 < d) (h : Dice n k st) (ht : 0 < t) (ht2 : t ≤ 1000000) (hk : k ≤ 1000000) : ∃ (i : Int) (st' : Sto), runP TT d 29 [.ob n, .int t] st = .ok (.int i) st' ∧ 0 ≤ i ∧ i < t ∧ Dice n (k + 1) st' ∧ st'.length = st.length := by
  obtain ⟨d, rfl⟩ : ∃ k, d = k + 1 := ⟨d - 1, by omega⟩
  exact q_roll n k t ht hk h (log_small ht ht2)
theorem Q_pick {d n k : Nat} {st : Sto} (hd : 1 < d) (h : Dice n k st) (xs : List PV) (hx : 0 < xs.length) (hx2 : xs.length ≤ 1000) (hk : k ≤ 1000000) :
    ∃ (w : PV) (st' : Sto), runP TT d 30 [.ob n, .lst xs] st = .ok w st' ∧ w ∈ xs ∧ Dice n (k + 1) st' ∧ st'.length = st.length := by
  obtain ⟨d, rfl⟩ : ∃ k, d = k + 2 := ⟨d - 2, by omega⟩
  exact q_pick n k xs hx hx2 hk h _ (Or.inl rfl)
def Bc : Nat → Nat
  | 0 => 4
  | n + 1 => 3 * Bc n
theorem Bc_pos : ∀ n, 4 ≤ Bc n
  | 0 => Nat.le_refl _
  | n + 1 => by have := Bc_pos n; show 4 ≤ 3 * Bc n; omega
theorem q_cnd : ∀ (n : Nat) (z : Int) (hz : z = n) (dn k d : Nat) (hd : n + 3 ≤ d) (st : Sto) (h : Dice dn k st) (hk : k + Bc n ≤ 1000000),
    ∃ (c : Cnd) (st' : Sto), runP TT d 31 [.ob dn, .int z] st = .ok (enc c) st' ∧ wf c = true ∧ dp c ≤ n ∧ Dice dn (k + Bc n) st' ∧ st'.length = st.length := by
  intro n
  induction n with
  | zero =>
    intro z hz dn k d hd st h hk
    obtain ⟨d, rfl⟩ : ∃ k, d = k + 1 := ⟨d - 1, by omega⟩
    have b4 := Bc_pos 0
    have e0 : decide (0 < z) = false := decide_eq_false (by omega)
    obtain ⟨i, st1, e1, i0, i1, h1, l1⟩ := Q_roll (d := d) (by omega) h (t := 3) (by omega) (by omega) (by omega)
    obtain rfl | rfl | rfl : i = 0 ∨ i = 1 ∨ i = 2 := by omega
    · refine ⟨.all, st1, ?_, rfl, by decide, dice_mono h1 (by omega), l1⟩
      conv => lhs; whnf
      rw [e0]
      conv => lhs; whnf
      rw [e1]
      kernel_rfl
    · obtain ⟨j, st2, e2, j0, j1, h2, l2⟩ := Q_roll (d := d) (by omega) h1 (t := 4) (by omega) (by omega) (by omega)
      refine ⟨.mark j, st2, ?_, ?_, Nat.le_refl _, dice_mono h2 (by omega), by omega⟩
      · conv => lhs; whnf
        rw [e0]
        conv => lhs; whnf
        rw [e1]
        conv => lhs; whnf
        rw [e2]
        kernel_rfl
      · show (decide (0 ≤ j) && decide (j ≤ 3)) = true
        rw [Bool.and_eq_true]; exact ⟨decide_eq_true (by omega), decide_eq_true (by omega)⟩
    · obtain ⟨a', st2, e2, a1, h2, l2⟩ := Q_pick (d := d) (by omega) h1 [.int 0, .int 5, .int 10, .int 10, .int 20, .int 500, .int 999] (by decide) (by decide) (by omega)
      obtain ⟨b', st3, e3, b1, h3, l3⟩ := Q_pick (d := d) (by omega) h2 [.int 0, .int 1, .int 5, .int 10, .int 999] (by decide) (by decide) (by omega)
      obtain ⟨a, rfl, a2, a3⟩ := isNum_int (List.all_eq_true.mp (show ([.int 0, .int 5, .int 10, .int 10, .int 20, .int 500, .int 999] : List PV).all (fun x => isNum x 0 999) = true by decide) _ a1)
      obtain ⟨b, rfl, b2, b3⟩ := isNum_int (List.all_eq_true.mp (show ([.int 0, .int 1, .int 5, .int 10, .int 999] : List PV).all (fun x => isNum x 0 999) = true by decide) _ b1)
      refine ⟨.days a (if a + b < 999 then a + b else 999), st3, ?_, ?_, Nat.le_refl _, dice_mono h3 (by omega), by omega⟩
      · conv => lhs; whnf
        rw [e0]
        conv => lhs; whnf
        rw [e1]
        conv => lhs; whnf
        rw [e2]
        conv => lhs; whnf
        rw [e3]
        kernel_rfl
      · show ((decide (0 ≤ a) && decide (a ≤ 999)) && (decide (a ≤ (if a + b < 999 then a + b else 999)) && decide ((if a + b < 999 then a + b else 999) ≤ 999))) = true
        simp only [Bool.and_eq_true, decide_eq_true_eq]
        split <;> omega
  | succ n ih =>
    intro z hz dn k d hd st h hk
    obtain ⟨d, rfl⟩ : ∃ k, d = k + 1 := ⟨d - 1, by omega⟩
    have b4 := Bc_pos n
    have bn : Bc (n + 1) = 3 * Bc n := rfl
    have e0 : decide (0 < z) = true := decide_eq_true (by omega)
    obtain ⟨i, st1, e1, i0, i1, h1, l1⟩ := Q_roll (d := d) (by omega) h (t := 6) (by omega) (by omega) (by omega)
    obtain rfl | rfl | rfl | rfl | rfl | rfl : i = 0 ∨ i = 1 ∨ i = 2 ∨ i = 3 ∨ i = 4 ∨ i = 5 := by omega
    · refine ⟨.all, st1, ?_, rfl, Nat.zero_le _, dice_mono h1 (by omega), l1⟩
      conv => lhs; whnf
      rw [e0]
      conv => lhs; whnf
      rw [e1]
      kernel_rfl
    · obtain ⟨j, st2, e2, j0, j1, h2, l2⟩ := Q_roll (d := d) (by omega) h1 (t := 4) (by omega) (by omega) (by omega)
      refine ⟨.mark j, st2, ?_, ?_, Nat.zero_le _, dice_mono h2 (by omega), by omega⟩
      · conv => lhs; whnf
        rw [e0]
        conv => lhs; whnf
        rw [e1]
        conv => lhs; whnf
        rw [e2]
        kernel_rfl
      · show (decide (0 ≤ j) && decide (j ≤ 3)) = true
        rw [Bool.and_eq_true]; exact ⟨decide_eq_true (by omega), decide_eq_true (by omega)⟩
    · obtain ⟨a', st2, e2, a1, h2, l2⟩ := Q_pick (d := d) (by omega) h1 [.int 0, .int 5, .int 10, .int 10, .int 20, .int 500, .int 999] (by decide) (by decide) (by omega)
      obtain ⟨b', st3, e3, b1, h3, l3⟩ := Q_pick (d := d) (by omega) h2 [.int 0, .int 1, .int 5, .int 10, .int 999] (by decide) (by decide) (by omega)
      obtain ⟨a, rfl, a2, a3⟩ := isNum_int (List.all_eq_true.mp (show ([.int 0, .int 5, .int 10, .int 10, .int 20, .int 500, .int 999] : List PV).all (fun x => isNum x 0 999) = true by decide) _ a1)
      obtain ⟨b, rfl, b2, b3⟩ := isNum_int (List.all_eq_true.mp (show ([.int 0, .int 1, .int 5, .int 10, .int 999] : List PV).all (fun x => isNum x 0 999) = true by decide) _ b1)
      refine ⟨.days a (if a + b < 999 then a + b else 999), st3, ?_, ?_, Nat.zero_le _, dice_mono h3 (by omega), by omega⟩
      · conv => lhs; whnf
        rw [e0]
        conv => lhs; whnf
        rw [e1]
        conv => lhs; whnf
        rw [e2]
        conv => lhs; whnf
        rw [e3]
        kernel_rfl
      · show ((decide (0 ≤ a) && decide (a ≤ 999)) && (decide (a ≤ (if a + b < 999 then a + b else 999)) && decide ((if a + b < 999 then a + b else 999) ≤ 999))) = true
        simp only [Bool.and_eq_true, decide_eq_true_eq]
        split <;> omega
    · obtain ⟨c, st2, e2, w2, d2, h2, l2⟩ := ih (z - 1) (by omega) dn (k + 1) d (by omega) st1 h1 (by omega)
      refine ⟨.neg c, st2, ?_, w2, Nat.succ_le_succ d2, dice_mono h2 (by omega), by omega⟩
      conv => lhs; whnf
      rw [e0]
      conv => lhs; whnf
      rw [e1]
      conv => lhs; whnf
      rw [e2]
      kernel_rfl
    · obtain ⟨c, st2, e2, w2, d2, h2, l2⟩ := ih (z - 1) (by omega) dn (k + 1) d (by omega) st1 h1 (by omega)
      obtain ⟨c', st3, e3, w3, d3, h3, l3⟩ := ih (z - 1) (by omega) dn (k + 1 + Bc n) d (by omega) st2 h2 (by omega)
      refine ⟨.con c c', st3, ?_, ?_, ?_, dice_mono h3 (by omega), by omega⟩
      · conv => lhs; whnf
        rw [e0]
        conv => lhs; whnf
        rw [e1]
        conv => lhs; whnf
        rw [e2]
        conv => lhs; whnf
        rw [e3]
        kernel_rfl
      · show (wf c && wf c') = true
        rw [w2, w3]; rfl
      · show max (dp c) (dp c') + 1 ≤ n + 1
        omega
    · obtain ⟨c, st2, e2, w2, d2, h2, l2⟩ := ih (z - 1) (by omega) dn (k + 1) d (by omega) st1 h1 (by omega)
      obtain ⟨c', st3, e3, w3, d3, h3, l3⟩ := ih (z - 1) (by omega) dn (k + 1 + Bc n) d (by omega) st2 h2 (by omega)
      refine ⟨.dis c c', st3, ?_, ?_, ?_, dice_mono h3 (by omega), by omega⟩
      · conv => lhs; whnf
        rw [e0]
        conv => lhs; whnf
        rw [e1]
        conv => lhs; whnf
        rw [e2]
        conv => lhs; whnf
        rw [e3]
        kernel_rfl
      · show (wf c && wf c') = true
        rw [w2, w3]; rfl
      · show max (dp c) (dp c') + 1 ≤ n + 1
        omega
def msOk : PV → Bool
  | .tup ms => (datL 60 ms && rise (.tup ms)) && gd 3 (.tup ms) && decide (ms.length ≤ 4) && ms.all (fun y => isNum y 0 3)
  | _ => false
theorem marks_ok : ∀ t ∈ marksV, msOk t = true := fun t ht => List.all_eq_true.mp (show marksV.all msOk = true by decide +kernel) t ht
theorem Q_law_marks {d : Nat} {st : Sto} (hd : 0 < d) : runP TT d 33 [] st = .ok (.lst marksV) st := by
  obtain ⟨d, rfl⟩ : ∃ k, d = k + 1 := ⟨d - 1, by omega⟩
  exact q_law_marks
theorem q_mkcase (dn k d : Nat) (hd : 3 ≤ d) (st : Sto) (h : Dice dn k st) (hk : k + 3 ≤ 1000000) :
    ∃ (a b : Int) (ms : List PV) (st' : Sto), runP TT d 34 [.ob dn, .int 99] st = .ok (.tup [.int a, .tup ms, .int b]) st' ∧ 0 ≤ a ∧ a < 100 ∧ 0 ≤ b ∧ b ≤ 999 ∧ msOk (.tup ms) = true ∧ Dice dn (k + 3) st' ∧ st'.length = st.length := by
  obtain ⟨d, rfl⟩ : ∃ k, d = k + 1 := ⟨d - 1, by omega⟩
  obtain ⟨i, st1, e1, i0, i1, h1, l1⟩ := Q_roll (d := d) (by omega) h (t := 100) (by omega) (by omega) (by omega)
  obtain ⟨m, st2, e2, m1, h2, l2⟩ := Q_pick (d := d) (by omega) h1 marksV (by decide) (by decide) (by omega)
  obtain ⟨b', st3, e3, b1, h3, l3⟩ := Q_pick (d := d) (by omega) h2 [.int 0, .int 4, .int 5, .int 9, .int 10, .int 11, .int 15, .int 20, .int 21, .int 500, .int 998, .int 999] (by decide) (by decide) (by omega)
  obtain ⟨b, rfl, b2, b3⟩ := isNum_int (List.all_eq_true.mp (show ([.int 0, .int 4, .int 5, .int 9, .int 10, .int 11, .int 15, .int 20, .int 21, .int 500, .int 998, .int 999] : List PV).all (fun x => isNum x 0 999) = true by decide) _ b1)
  have mo := marks_ok m m1
  cases m with
  | tup ms =>
    refine ⟨i, b, ms, st3, ?_, i0, i1, b2, b3, mo, h3, by omega⟩
    conv => lhs; whnf
    rw [show (99 : Int) + 1 = 100 from rfl, e1]
    conv => lhs; whnf
    rw [Q_law_marks (by omega)]
    conv => lhs; whnf
    rw [e2]
    conv => lhs; whnf
    rw [e3]
    kernel_rfl
  | _ => cases mo
def gk (L : Nat) : Nat → PV → Bool
  | _, .non => true
  | _, .bl _ => true
  | _, .int _ => true
  | _, .str s => s.cps.all (· < 0x110000)
  | _, .ob _ => false
  | 0, .tup _ => false
  | 0, .lst _ => false
  | n + 1, .tup xs => decide (xs.length ≤ L) && xs.all (gk L n)
  | n + 1, .lst xs => decide (xs.length ≤ L) && xs.all (gk L n)
theorem gk_gd (L : Nat) (hL : L ≤ 100) : ∀ (n : Nat) (v : PV), gk L n v = true → gd n v = true := by
  intro n
  induction n with
  | zero => intro v g; cases v <;> exact g
  | succ n ih =>
    intro v g
    cases v with
    | tup xs =>
      simp only [gk, gd, Bool.and_eq_true, decide_eq_true_eq] at g ⊢
      exact ⟨by omega, List.all_eq_true.mpr fun x hx => ih x (List.all_eq_true.mp g.2 x hx)⟩
    | lst xs =>
      simp only [gk, gd, Bool.and_eq_true, decide_eq_true_eq] at g ⊢
      exact ⟨by omega, List.all_eq_true.mpr fun x hx => ih x (List.all_eq_true.mp g.2 x hx)⟩
    | _ => exact g
theorem gk_mono (L M : Nat) (hL : L ≤ M) : ∀ (n m : Nat) (v : PV), n ≤ m → gk L n v = true → gk M m v = true := by
  intro n
  induction n with
  | zero => intro m v h g; cases v <;> first | exact g | (cases m <;> exact g) | cases g
  | succ n ih =>
    intro m v h g
    obtain ⟨m, rfl⟩ : ∃ k, m = k + 1 := ⟨m - 1, by omega⟩
    cases v with
    | tup xs =>
      simp only [gk, Bool.and_eq_true, decide_eq_true_eq] at g ⊢
      exact ⟨by omega, List.all_eq_true.mpr fun x hx => ih m x (by omega) (List.all_eq_true.mp g.2 x hx)⟩
    | lst xs =>
      simp only [gk, Bool.and_eq_true, decide_eq_true_eq] at g ⊢
      exact ⟨by omega, List.all_eq_true.mpr fun x hx => ih m x (by omega) (List.all_eq_true.mp g.2 x hx)⟩
    | _ => exact g
theorem gk_noOb {L n : Nat} {v : PV} (h : gk L n v = true) : noOb v = true := by
  cases v <;> first | rfl | (cases n <;> cases h)
theorem cut_len (xs : List PV) (a b : Option Int) : (cutP xs a b).length ≤ xs.length := by
  unfold cutP; simp only [List.length_take, List.length_drop]; omega
theorem cut_mem {xs : List PV} {a b : Option Int} {x : PV} (h : x ∈ cutP xs a b) : x ∈ xs := List.mem_of_mem_drop (List.mem_of_mem_take h)
theorem add_tup {A B : List PV} (h : A.length + B.length ≤ 10000) : binP .add (.tup A) (.tup B) = some (.tup (A ++ B)) := by
  have : fits (A.length + B.length) = true := fits_10k h
  show (if fits (A.length + B.length) then some (PV.tup (A ++ B)) else none) = _
  rw [this]; rfl
theorem int_eqC (i j : Int) : eqP (.int i) (.int j) = decide (i = j) := rfl
theorem at_ok {xs : List PV} {i : Nat} (h : i < xs.length) : atP xs (i : Int) = some xs[i] := by
  simp [atP, placeOf, h]
def IDice (ns : List Int) (s : Nat) (own : Int) (st0 : Sto) (_ : Nat) (ρ : Evn) (st : Sto) : Prop := ∃ (m : Int) (c : Slt), ρ = [.val (.lst (ns.map .int)), .val (.int s), .val (.int own), .val (.int m), c] ∧ 0 ≤ m ∧ m < 2147480009 ∧ st = st0
theorem len_lt (s : Nat) (ns : List Int) : cmpP .lt (.int (s : Int)) (.int ((ns.map PV.int).length : Int)) = some (decide (s < ns.length)) := by
  show some (decide ((s : Int) < ((ns.map PV.int).length : Int))) = _
  rw [List.length_map]
  exact congrArg some (decide_eq_decide.mpr (by omega))
theorem q_dice (ns : List Int) (hl : ns.length ≤ 63) (s : Nat) (hs : s ≤ 5) (d : Nat) (hd : 1 < d) (st : Sto) :
    Ends (runP TT d 28 [.lst (ns.map .int), .int s] st) (fun v st' => v = .ob st.length ∧ Dice st.length 0 st') := by
  obtain ⟨d, rfl⟩ : ∃ k, d = k + 1 := ⟨d - 1, by omega⟩
  have fin : ∀ (own m : Int) (c : Slt), 0 ≤ m → m < 2147480009 → Ends (exs (.ret (.obj (.cons (.ife (.or (.cmp .lt (.v 2) (.c (.int 0))) (.cmp .ge (.v 2) (.bin .pow (.c (.int 10)) (.c (.int 16))))) (.bi .abs (.cons (.v 2) (.nil))) (.c (.int 0))) (.cons (.v 3) (.cons (.c (.int 0)) (.nil)))))) (runP TT d) [.val (.lst (ns.map .int)), .val (.int s), .val (.int own), .val (.int m), c] st (fun _ st => .ok .non st) (fun _ _ => .fail)) (fun v st' => v = .ob st.length ∧ Dice st.length 0 st') := by
    intro own m c m0 m1
    have get : ∀ a b c : Int, (st ++ [SObj.cells [.int a, .int b, .int c]])[st.length]? = some (.cells [.int a, .int b, .int c]) := fun a b c => by simp
    by_cases h1 : own < 0
    · have e1 : decide (own < 0) = true := decide_eq_true h1
      refine ⟨.ob st.length, st ++ [.cells [.int (-own), .int m, .int 0]], ?_, rfl, ⟨-own, m, 0, get _ _ _, by omega, m0, m1, by omega, by omega⟩⟩
      conv => lhs; whnf
      rw [e1]
      conv => lhs; whnf
      have : (if own < 0 then -own else own) = -own := if_pos h1
      rw [this]
    · have e1 : decide (own < 0) = false := decide_eq_false h1
      have ab : (if own < 0 then -own else own) = own := if_neg h1
      by_cases h2 : (10 : Int) ^ Int.toNat 16 ≤ own
      · have e2 : decide ((10 : Int) ^ Int.toNat 16 ≤ own) = true := decide_eq_true h2
        refine ⟨.ob st.length, st ++ [.cells [.int own, .int m, .int 0]], ?_, rfl, ⟨own, m, 0, get _ _ _, by omega, m0, m1, by omega, by omega⟩⟩
        conv => lhs; whnf
        rw [e1]
        conv => lhs; whnf
        rw [e2]
        conv => lhs; whnf
        rw [ab]
      · have e2 : decide ((10 : Int) ^ Int.toNat 16 ≤ own) = false := decide_eq_false h2
        refine ⟨.ob st.length, st ++ [.cells [.int 0, .int m, .int 0]], ?_, rfl, ⟨0, m, 0, get _ _ _, by omega, m0, m1, by omega, by omega⟩⟩
        conv => lhs; whnf
        rw [e1]
        conv => lhs; whnf
        rw [e2]
        kernel_rfl
  have cl := cut_len (ns.map .int) none (some 6)
  rw [List.length_map] at cl
  have lt := len_lt s ns
  by_cases h : s < ns.length
  · have e1 : decide (s < ns.length) = true := decide_eq_true h
    conv => arg 1; whnf
    rw [show decide ((s : Int) < ((ns.map PV.int).length : Int)) = true from decide_eq_true (by rw [List.length_map]; omega)]
    conv => arg 1; whnf
    conv in (ixS _ _ _) => change atP (ns.map PV.int) (s : Int)
    rw [at_ok (by rw [List.length_map]; exact h), List.getElem_map]
    conv => arg 1; whnf
    rw [mul_int (mul_ok (by decide) (by omega))]
    conv => arg 1; whnf
    rw [add_lst (by simp only [List.length_cons, List.length_nil]; omega)]
    conv => arg 1; whnf
    refine forR (IDice ns s ns[s] st) _ 0 _ _ _ ⟨_, .no, rfl, by omega, by omega, rfl⟩ ?_ ?_
    · intro j x ρ st1 hx ⟨m, c, eρ, m0, m1, est⟩
      subst eρ est
      have hi : ∃ z, x = .int z := by
        have hx1 := List.mem_of_getElem? hx
        rcases List.mem_append.mp hx1 with h | h
        · obtain ⟨z, _, rfl⟩ := List.mem_map.mp (cut_mem h)
          exact ⟨z, rfl⟩
        · exact ⟨_, List.mem_singleton.mp h⟩
      obtain ⟨z, rfl⟩ := hi
      refine ⟨_, rfl, fun kn kc hk _ => ?_⟩
      conv => arg 1; whnf
      rw [mul_int (mul_ok (by omega) (by decide))]
      conv => arg 1; whnf
      exact hk _ _ ⟨(m * 69621 + z % 2147480009) % 2147480009, .val (.int z), rfl, Int.emod_nonneg _ (by decide), Int.emod_lt_of_pos _ (by decide), rfl⟩
    · intro ρ st1 ⟨m, c, eρ, m0, m1, est⟩
      subst eρ est
      exact fin _ m c m0 m1
  · have e1 : decide (s < ns.length) = false := decide_eq_false h
    conv => arg 1; whnf
    rw [show decide ((s : Int) < ((ns.map PV.int).length : Int)) = false from decide_eq_false (by rw [List.length_map]; omega)]
    conv => arg 1; whnf
    rw [mul_int (mul_ok (by decide) (by omega))]
    conv => arg 1; whnf
    rw [mul_int (mul_ok (by decide) (by omega))]
    conv => arg 1; whnf
    rw [add_lst (by simp only [List.length_cons, List.length_nil]; omega)]
    conv => arg 1; whnf
    refine forR (IDice ns s (811 * (s : Int) + 37) st) _ 0 _ _ _ ⟨_, .no, rfl, by omega, by omega, rfl⟩ ?_ ?_
    · intro j x ρ st1 hx ⟨m, c, eρ, m0, m1, est⟩
      subst eρ est
      have hi : ∃ z, x = .int z := by
        have hx1 := List.mem_of_getElem? hx
        rcases List.mem_append.mp hx1 with h | h
        · obtain ⟨z, _, rfl⟩ := List.mem_map.mp (cut_mem h)
          exact ⟨z, rfl⟩
        · exact ⟨_, List.mem_singleton.mp h⟩
      obtain ⟨z, rfl⟩ := hi
      refine ⟨_, rfl, fun kn kc hk _ => ?_⟩
      conv => arg 1; whnf
      rw [mul_int (mul_ok (by omega) (by decide))]
      conv => arg 1; whnf
      exact hk _ _ ⟨(m * 69621 + z % 2147480009) % 2147480009, .val (.int z), rfl, Int.emod_nonneg _ (by decide), Int.emod_lt_of_pos _ (by decide), rfl⟩
    · intro ρ st1 ⟨m, c, eρ, m0, m1, est⟩
      subst eρ est
      exact fin _ m c m0 m1
theorem wk_all (n L : Nat) : gk L n (.str "all") = true := by cases n <;> exact (by decide +kernel : ("all" : Str).cps.all (· < 0x110000) = true)
theorem wk_mark (n L : Nat) : gk L n (.str "mark") = true := by cases n <;> exact (by decide +kernel : ("mark" : Str).cps.all (· < 0x110000) = true)
theorem wk_days (n L : Nat) : gk L n (.str "days") = true := by cases n <;> exact (by decide +kernel : ("days" : Str).cps.all (· < 0x110000) = true)
theorem wk_not (n L : Nat) : gk L n (.str "not") = true := by cases n <;> exact (by decide +kernel : ("not" : Str).cps.all (· < 0x110000) = true)
theorem wk_and (n L : Nat) : gk L n (.str "and") = true := by cases n <;> exact (by decide +kernel : ("and" : Str).cps.all (· < 0x110000) = true)
theorem wk_or (n L : Nat) : gk L n (.str "or") = true := by cases n <;> exact (by decide +kernel : ("or" : Str).cps.all (· < 0x110000) = true)
theorem gk_int {n L : Nat} {i : Int} : gk L n (.int i) = true := by cases n <;> rfl
theorem gk_enc : ∀ (c : Cnd) (n : Nat), dp c < n → gk 4 n (enc c) = true := by
  intro c
  induction c with
  | all => intro n h; obtain ⟨n, rfl⟩ : ∃ k, n = k + 1 := ⟨n - 1, by omega⟩; simp [enc, gk, wk_all]
  | mark i => intro n h; obtain ⟨n, rfl⟩ : ∃ k, n = k + 1 := ⟨n - 1, by omega⟩; simp [enc, gk, wk_mark, gk_int]
  | days a b => intro n h; obtain ⟨n, rfl⟩ : ∃ k, n = k + 1 := ⟨n - 1, by omega⟩; simp [enc, gk, wk_days, gk_int]
  | neg c ih => intro n h; obtain ⟨n, rfl⟩ : ∃ k, n = k + 1 := ⟨n - 1, by omega⟩; simp only [dp] at h; simp [enc, gk, wk_not, ih n (by omega)]
  | con c e ih ih2 => intro n h; obtain ⟨n, rfl⟩ : ∃ k, n = k + 1 := ⟨n - 1, by omega⟩; simp only [dp] at h; simp [enc, gk, wk_and, ih n (by omega), ih2 n (by omega)]
  | dis c e ih ih2 => intro n h; obtain ⟨n, rfl⟩ : ∃ k, n = k + 1 := ⟨n - 1, by omega⟩; simp only [dp] at h; simp [enc, gk, wk_or, ih n (by omega), ih2 n (by omega)]
theorem gd_dat : ∀ (n m : Nat) (v : PV), n ≤ m → gd n v = true → dat m v = true := by
  have lst : ∀ (n m : Nat) (h : ∀ v, gd n v = true → dat m v = true) (xs : List PV), xs.all (gd n) = true → datL m xs = true := by
    intro n m h xs
    induction xs with
    | nil => intro _; rfl
    | cons x xs ih =>
      intro g
      rw [List.all_cons, Bool.and_eq_true] at g
      show (dat m x && datL m xs) = true
      rw [h x g.1, ih g.2]; rfl
  intro n
  induction n with
  | zero => intro m v h g; cases v <;> first | (cases m <;> exact g) | (cases m <;> rfl) | cases g
  | succ n ih =>
    intro m v h g
    obtain ⟨m, rfl⟩ : ∃ k, m = k + 1 := ⟨m - 1, by omega⟩
    cases v with
    | tup xs =>
      simp only [gd, Bool.and_eq_true] at g
      exact lst n m (fun v => ih m v (by omega)) xs g.2
    | lst xs =>
      simp only [gd, Bool.and_eq_true] at g
      exact lst n m (fun v => ih m v (by omega)) xs g.2
    | ob k => cases g
    | _ => exact g
theorem marks_dat : datL 60 marksV = true := by decide +kernel
theorem in_marks {m : Nat} {v : PV} (g : gd m v = true) (hm : m ≤ 60) : cmpP .inn v (.lst marksV) = some (marksV.any fun t => eqP t v) := by
  show inP v marksV = _
  unfold inP
  rw [gd_dat m 60 v hm g, marks_dat]; rfl
theorem isBl_isi {x : PV} (h : noOb x = true) : biP (.isi .bool) [x] = some (.bl (isBl x)) := by
  cases x <;> first | rfl | cases h
/-- what is told of a case -/
def IsCase (v : PV) (ms : List PV) (b : Int) : Prop := ∃ a : Int, v = .tup [.int a, .tup ms, .int b] ∧ 0 ≤ a ∧ a < 100 ∧ 0 ≤ b ∧ b ≤ 999 ∧ msOk (.tup ms) = true
theorem case_facts {v : PV} {ms : List PV} {b : Int} (h : IsCase v ms b) : caseB v = true ∧ datL 60 ms = true ∧ gk 4 2 v = true := by
  obtain ⟨a, rfl, a0, a1, b0, b1, mo⟩ := h
  have mo' : ((((datL 60 ms && rise (.tup ms)) && gd 3 (.tup ms)) && decide (ms.length ≤ 4)) && ms.all (fun y => isNum y 0 3)) = true := mo
  simp only [Bool.and_eq_true, decide_eq_true_eq] at mo'
  obtain ⟨⟨⟨⟨h1, h2⟩, h3⟩, h4⟩, h5⟩ := mo'
  refine ⟨?_, h1, ?_⟩
  · show ((decide (0 ≤ a) && decide (a ≤ 1000000000)) && (rise (.tup ms) && (decide (0 ≤ b) && decide (b ≤ 999)))) = true
    simp only [Bool.and_eq_true, decide_eq_true_eq]
    exact ⟨⟨a0, by omega⟩, h2, b0, b1⟩
  · have : ms.all (gk 4 0) = true := List.all_eq_true.mpr fun y hy => by
      obtain ⟨i, rfl, _⟩ := isNum_int (List.all_eq_true.mp h5 y hy)
      rfl
    show (decide (3 ≤ 4) && (true && ((decide (ms.length ≤ 4) && ms.all (gk 4 0)) && (true && true)))) = true
    rw [this, decide_eq_true h4]; rfl
end Cv.K02

set_option Elab.async false
set_option linter.all false
set_option maxRecDepth 100000
set_option maxHeartbeats 4000000
namespace Cv.K02
open PySem
/-! fractions -/
theorem ne_int (i j : Int) : cmpP .ne (.int i) (.int j) = some (!decide (i = j)) := rfl
theorem eq_intP (i j : Int) : eqP (.int i) (.int j) = decide (i = j) := rfl
abbrev gC : Ce := .cmp .ne (.v 1) (.c (.int 0))
abbrev gB : Cs := .par 0 1 (.v 1) (.bin .mod (.v 0) (.v 1)) false false
theorem gcd_0 (f : Cl) (a : Int) (n : Nat) (st : Sto) (kn : Kn) : whGo (ev gC f) (exs gB f) (n + 1) [.val (.int a), .val (.int 0)] st kn = kn [.val (.int a), .val (.int 0)] st := by
  kernel_rfl
theorem gcd_1 (f : Cl) (a b : Nat) (hb : 0 < b) (n : Nat) (st : Sto) (kn : Kn) : whGo (ev gC f) (exs gB f) (n + 1) [.val (.int a), .val (.int b)] st kn = whGo (ev gC f) (exs gB f) n [.val (.int b), .val (.int (a % b : Nat))] st kn := by
  have e1 : eqP (.int (b : Int)) (.int 0) = false := by rw [eq_intP]; exact decide_eq_false (by omega)
  have e2 : binP .mod (.int (a : Int)) (.int (b : Int)) = some (.int ((a % b : Nat) : Int)) := by
    show (if decide (0 < (b : Int)) then some (PV.int ((a : Int) % (b : Int))) else none) = _
    rw [decide_eq_true (by omega : (0 : Int) < (b : Int)), if_pos rfl]; rfl
  conv => lhs; whnf
  rw [e1]
  conv => lhs; whnf
  rw [e2]
  rfl
theorem gcd_go (f : Cl) : ∀ (k a b n : Nat) (st : Sto) (kn : Kn), b < 2 ^ k → 2 * k + 1 ≤ n → whGo (ev gC f) (exs gB f) n [.val (.int a), .val (.int b)] st kn = kn [.val (.int (Nat.gcd a b)), .val (.int 0)] st := by
  intro k
  induction k with
  | zero =>
    intro a b n st kn hb hn
    obtain rfl : b = 0 := by simpa using hb
    obtain ⟨n, rfl⟩ : ∃ m, n = m + 1 := ⟨n - 1, by omega⟩
    rw [Nat.gcd_zero_right]
    exact gcd_0 f a n st kn
  | succ k ih =>
    intro a b n st kn hb hn
    obtain ⟨n, rfl⟩ : ∃ m, n = m + 1 := ⟨n - 1, by omega⟩
    by_cases z : b = 0
    · subst z
      rw [Nat.gcd_zero_right]
      exact gcd_0 f a n st kn
    · rw [gcd_1 f a b (by omega)]
      obtain ⟨n, rfl⟩ : ∃ m, n = m + 1 := ⟨n - 1, by omega⟩
      have e : Nat.gcd a b = Nat.gcd b (a % b) := by rw [Nat.gcd_comm, Nat.gcd_rec, Nat.gcd_comm]
      by_cases z2 : a % b = 0
      · rw [e, z2, Nat.gcd_zero_right]
        exact gcd_0 f b n st kn
      · rw [gcd_1 f b (a % b) (by omega)]
        have e2 : Nat.gcd b (a % b) = Nat.gcd (a % b) (b % (a % b)) := by rw [Nat.gcd_comm, Nat.gcd_rec, Nat.gcd_comm]
        rw [e, e2]
        refine ih _ _ n st kn ?_ (by omega)
        have h1 : a % b < b := Nat.mod_lt _ (by omega)
        have h2 : b % (a % b) < a % b := Nat.mod_lt _ (by omega)
        have h3 := Nat.div_add_mod b (a % b)
        have h4 : 1 ≤ b / (a % b) := Nat.div_pos (by omega) (by omega)
        have h5 : a % b ≤ a % b * (b / (a % b)) := Nat.le_mul_of_pos_right _ h4
        have h6 : 2 ^ (k + 1) = 2 * 2 ^ k := by rw [Nat.pow_succ]; omega
        omega
/-- the same within _law_low -/
abbrev hC : Ce := .cmp .ne (.v 3) (.c (.int 0))
abbrev hB : Cs := .par 2 3 (.v 3) (.bin .mod (.bi .int1 (.cons (.v 2) (.nil))) (.v 3)) false false
theorem gcdL_0 (f : Cl) (s0 s1 : Slt) (a : Int) (n : Nat) (st : Sto) (kn : Kn) : whGo (ev hC f) (exs hB f) (n + 1) [s0, s1, .val (.int a), .val (.int 0)] st kn = kn [s0, s1, .val (.int a), .val (.int 0)] st := by
  kernel_rfl
theorem gcdL_1 (f : Cl) (s0 s1 : Slt) (a b : Nat) (hb : 0 < b) (n : Nat) (st : Sto) (kn : Kn) : whGo (ev hC f) (exs hB f) (n + 1) [s0, s1, .val (.int a), .val (.int b)] st kn = whGo (ev hC f) (exs hB f) n [s0, s1, .val (.int b), .val (.int (a % b : Nat))] st kn := by
  have e1 : eqP (.int (b : Int)) (.int 0) = false := by rw [eq_intP]; exact decide_eq_false (by omega)
  have e2 : binP .mod (.int (a : Int)) (.int (b : Int)) = some (.int ((a % b : Nat) : Int)) := by
    show (if decide (0 < (b : Int)) then some (PV.int ((a : Int) % (b : Int))) else none) = _
    rw [decide_eq_true (by omega : (0 : Int) < (b : Int)), if_pos rfl]; rfl
  conv => lhs; whnf
  rw [e1]
  conv => lhs; whnf
  rw [e2]
  rfl
theorem gcdL_go (f : Cl) (s0 s1 : Slt) : ∀ (k a b n : Nat) (st : Sto) (kn : Kn), b < 2 ^ k → 2 * k + 1 ≤ n → whGo (ev hC f) (exs hB f) n [s0, s1, .val (.int a), .val (.int b)] st kn = kn [s0, s1, .val (.int (Nat.gcd a b)), .val (.int 0)] st := by
  intro k
  induction k with
  | zero =>
    intro a b n st kn hb hn
    obtain rfl : b = 0 := by simpa using hb
    obtain ⟨n, rfl⟩ : ∃ m, n = m + 1 := ⟨n - 1, by omega⟩
    rw [Nat.gcd_zero_right]
    exact gcdL_0 f s0 s1 a n st kn
  | succ k ih =>
    intro a b n st kn hb hn
    obtain ⟨n, rfl⟩ : ∃ m, n = m + 1 := ⟨n - 1, by omega⟩
    by_cases z : b = 0
    · subst z
      rw [Nat.gcd_zero_right]
      exact gcdL_0 f s0 s1 a n st kn
    · rw [gcdL_1 f s0 s1 a b (by omega)]
      obtain ⟨n, rfl⟩ : ∃ m, n = m + 1 := ⟨n - 1, by omega⟩
      have e : Nat.gcd a b = Nat.gcd b (a % b) := by rw [Nat.gcd_comm, Nat.gcd_rec, Nat.gcd_comm]
      by_cases z2 : a % b = 0
      · rw [e, z2, Nat.gcd_zero_right]
        exact gcdL_0 f s0 s1 b n st kn
      · rw [gcdL_1 f s0 s1 b (a % b) (by omega)]
        have e2 : Nat.gcd b (a % b) = Nat.gcd (a % b) (b % (a % b)) := by rw [Nat.gcd_comm, Nat.gcd_rec, Nat.gcd_comm]
        rw [e, e2]
        refine ih _ _ n st kn ?_ (by omega)
        have h1 : a % b < b := Nat.mod_lt _ (by omega)
        have h2 : b % (a % b) < a % b := Nat.mod_lt _ (by omega)
        have h3 := Nat.div_add_mod b (a % b)
        have h4 : 1 ≤ b / (a % b) := Nat.div_pos (by omega) (by omega)
        have h5 : a % b ≤ a % b * (b / (a % b)) := Nat.le_mul_of_pos_right _ h4
        have h6 : 2 ^ (k + 1) = 2 * 2 ^ k := by rw [Nat.pow_succ]; omega
        omega
abbrev Fr := Int × Int
def fr (x : Fr) : PV := .tup [.int x.1, .int x.2]
def low (p q : Int) : Fr := (p / (Nat.gcd p.natAbs q.natAbs : Nat), q / (Nat.gcd p.natAbs q.natAbs : Nat))
def plusF (x y : Fr) : Fr := low (x.1 * y.2 + y.1 * x.2) (x.2 * y.2)
def lessF (x y : Fr) : Fr := plusF x (-y.1, y.2)
def timesF (x y : Fr) : Fr := low (x.1 * y.1) (x.2 * y.2)
def ltF (x y : Fr) : Bool := decide (x.1 * y.2 < y.1 * x.2)
def posF (x : Fr) : Fr := if x.1 > 0 then x else (0, 1)
def Bd (k : Nat) (x : Fr) : Prop := x.1.natAbs < 2 ^ k ∧ 0 < x.2 ∧ x.2 < 2 ^ k
def Red (x : Fr) : Prop := Nat.gcd x.1.natAbs x.2.natAbs = 1
theorem log_of {n k : Nat} (h : n < 2 ^ k) : n.log2 ≤ k := by
  by_cases z : n = 0
  · subst z; exact Nat.zero_le _
  · exact Nat.le_of_lt ((Nat.log2_lt z).mpr h)
theorem mulOk_of {i j : Int} {k m : Nat} (hi : i.natAbs < 2 ^ k) (hj : j.natAbs < 2 ^ m) (h : k + m < 1000000) : mulOk i j = true := by
  unfold mulOk
  have h1 := log_of hi
  have h2 := log_of hj
  exact decide_eq_true (by omega)
theorem gcd_pos' (p q : Int) (hq : 0 < q) : 0 < Nat.gcd p.natAbs q.natAbs := Nat.gcd_pos_of_pos_right _ (by omega)
theorem divOk_of {p q : Int} {k : Nat} (hq : 0 < q) (h : q < 2 ^ k) (hk : k < 9000) : divOk (Nat.gcd p.natAbs q.natAbs : Nat) = true := by
  have g0 := gcd_pos' p q hq
  have gl : Nat.gcd p.natAbs q.natAbs ≤ q.natAbs := Nat.gcd_le_right _ (by omega)
  have h' : Nat.gcd p.natAbs q.natAbs < 2 ^ k := by
    have : (q.natAbs : Int) < ((2 ^ k : Nat) : Int) := by rw [Int.natCast_pow]; have : (q.natAbs : Int) = q := Int.natAbs_of_nonneg (by omega); rw [this]; exact h
    omega
  have h2 := log_of h'
  unfold divOk
  rw [Bool.and_eq_true]
  exact ⟨decide_eq_true (by omega), decide_eq_true (by rw [Int.natAbs_natCast]; omega)⟩
theorem fdiv_int {i j : Int} (h : divOk j = true) : binP .fdiv (.int i) (.int j) = some (.int (i / j)) := by
  show (if divOk j then some (PV.int (i / j)) else none) = _
  rw [h]; rfl
theorem abs_nat (p : Int) : biP .abs [.int p] = some (.int (p.natAbs : Int)) := by
  show some (PV.int (if p < 0 then -p else p)) = _
  split <;> congr 2 <;> omega
end Cv.K02

set_option Elab.async false
set_option linter.all false
set_option maxRecDepth 100000
set_option maxHeartbeats 4000000
namespace Cv.K02
open PySem
theorem rounds_ok {k : Nat} (hk : k < 9000) : 2 * k + 1 ≤ rounds := by unfold rounds; omega
theorem q_common (a b : Nat) (k : Nat) (hb : b < 2 ^ k) (hk : k < 9000) (d : Nat) (hd : 0 < d) (st : Sto) : runP TT d 4 [.int a, .int b] st = .ok (.int (Nat.gcd a b : Nat)) st := by
  obtain ⟨d, rfl⟩ : ∃ m, d = m + 1 := ⟨d - 1, by omega⟩
  rw [st_run (D := D9) rfl rfl]
  simp only [D9, b9, exs]
  have g := gcd_go (runP TT d) k a b rounds st (fun ρ st => exs (.ret (.v 0)) (runP TT d) ρ st (fun _ st => .ok .non st) (fun _ _ => .fail)) hb (rounds_ok hk)
  refine Eq.trans ?_ (g.trans ?_)
  · rfl
  · rfl
theorem abs_eq (p : Int) : (if p < 0 then -p else p) = ((p.natAbs : Nat) : Int) := by split <;> omega
theorem nat_lt {q : Int} {k : Nat} (h0 : 0 < q) (h : q < 2 ^ k) : q.natAbs < 2 ^ k := by
  have e : (q.natAbs : Int) = q := Int.natAbs_of_nonneg (by omega)
  have : (q.natAbs : Int) < ((2 ^ k : Nat) : Int) := by rw [Int.natCast_pow, e]; exact h
  omega
theorem q_lowest (p q : Int) (k : Nat) (h0 : 0 < q) (h : q < 2 ^ k) (hk : k < 9000) (d : Nat) (hd : 1 < d) (st : Sto) : runP TT d 5 [.int p, .int q] st = .ok (fr (low p q)) st := by
  obtain ⟨d, rfl⟩ : ∃ m, d = m + 1 := ⟨d - 1, by omega⟩
  have eq : ((q.natAbs : Nat) : Int) = q := Int.natAbs_of_nonneg (by omega)
  have e4 : runP TT d 4 [.int (if p < 0 then -p else p), .int q] st = .ok (.int (Nat.gcd p.natAbs q.natAbs : Nat)) st := by
    have := q_common p.natAbs q.natAbs k (nat_lt h0 h) hk d (by omega) st
    rw [eq] at this
    rw [abs_eq]; exact this
  conv => lhs; whnf
  rw [e4]
  conv => lhs; whnf
  rw [fdiv_int (divOk_of h0 h hk)]
  conv => lhs; whnf
  rw [fdiv_int (divOk_of h0 h hk)]
  rfl
theorem q_lawlow (p q : Int) (k : Nat) (h0 : 0 < q) (h : q < 2 ^ k) (hk : k < 9000) (d : Nat) (hd : 0 < d) (st : Sto) : runP TT d 35 [.int p, .int q] st = .ok (fr (low p q)) st := by
  obtain ⟨d, rfl⟩ : ∃ m, d = m + 1 := ⟨d - 1, by omega⟩
  have eq : ((q.natAbs : Nat) : Int) = q := Int.natAbs_of_nonneg (by omega)
  rw [st_run (D := D51) rfl rfl]
  have key : ∀ kn : Kn, exs (.par 2 3 (.bi .abs (.cons (.v 0) .nil)) (.v 1) false false) (runP TT d) (newEnv 2 [.int p, .int q]) st kn (fun _ _ => .fail) = kn [.val (.int p), .val (.int q), .val (.int (if p < 0 then -p else p)), .val (.int q)] st := fun kn => rfl
  have g := gcdL_go (runP TT d) (.val (.int p)) (.val (.int q)) k p.natAbs q.natAbs rounds st (fun ρ st => exs (.ret (.tup (.cons (.bin .fdiv (.v 0) (.v 2)) (.cons (.bin .fdiv (.v 1) (.v 2)) (.nil))))) (runP TT d) ρ st (fun _ st => .ok .non st) (fun _ _ => .fail)) (nat_lt h0 h) (rounds_ok hk)
  rw [eq, ← abs_eq] at g
  simp only [D51, b51, exs_seq, exs_wh]
  rw [key]
  refine g.trans ?_
  conv => lhs; whnf
  rw [fdiv_int (divOk_of h0 h hk)]
  conv => lhs; whnf
  rw [fdiv_int (divOk_of h0 h hk)]
  rfl
theorem low_bd {p q : Int} {k m : Nat} (hp : p.natAbs < 2 ^ k) (h0 : 0 < q) (hq : q < 2 ^ m) (hkm : m ≤ k) : Bd k (low p q) := by
  have g0 := gcd_pos' p q h0
  have gd : (Nat.gcd p.natAbs q.natAbs : Nat) ∣ q.natAbs := Nat.gcd_dvd_right _ _
  have eq : ((q.natAbs : Nat) : Int) = q := Int.natAbs_of_nonneg (by omega)
  show ((p / ((Nat.gcd p.natAbs q.natAbs : Nat) : Int)).natAbs < 2 ^ k) ∧ 0 < q / ((Nat.gcd p.natAbs q.natAbs : Nat) : Int) ∧ q / ((Nat.gcd p.natAbs q.natAbs : Nat) : Int) < 2 ^ k
  generalize Nat.gcd p.natAbs q.natAbs = g at *
  obtain ⟨t, ht⟩ := gd
  have hq' := nat_lt h0 hq
  have e3 : q = (g : Int) * (t : Int) := by rw [← eq, ht, Int.natCast_mul]
  have e2 : q / (g : Int) = (t : Int) := by rw [e3, Int.mul_ediv_cancel_left _ (by omega)]
  have tp : 0 < t := by
    rcases Nat.eq_zero_or_pos t with z | z
    · rw [z, Nat.mul_zero] at ht; omega
    · exact z
  have tl : t ≤ q.natAbs := by rw [ht]; exact Nat.le_mul_of_pos_left _ g0
  refine ⟨?_, ?_, ?_⟩
  · have : (p / (g : Int)).natAbs ≤ p.natAbs := Int.natAbs_ediv_le_natAbs _ _
    omega
  · rw [e2]; omega
  · rw [e2]
    have l1 : (2 : Nat) ^ m ≤ 2 ^ k := Nat.pow_le_pow_right (by decide) hkm
    have : (t : Int) < ((2 ^ k : Nat) : Int) := by omega
    rw [Int.natCast_pow] at this; exact this
theorem low_red {p q : Int} (h0 : 0 < q) : Red (low p q) := by
  have g0 := gcd_pos' p q h0
  have d1 : (Nat.gcd p.natAbs q.natAbs : Nat) ∣ p.natAbs := Nat.gcd_dvd_left _ _
  have d2 : (Nat.gcd p.natAbs q.natAbs : Nat) ∣ q.natAbs := Nat.gcd_dvd_right _ _
  have n : ∀ z : Int, (Nat.gcd p.natAbs q.natAbs : Nat) ∣ z.natAbs → (z / ((Nat.gcd p.natAbs q.natAbs : Nat) : Int)).natAbs = z.natAbs / Nat.gcd p.natAbs q.natAbs := fun z hz => by
    rw [Int.natAbs_ediv_of_dvd (by exact Int.ofNat_dvd_left.mpr hz)]; rfl
  show Nat.gcd (p / _).natAbs (q / _).natAbs = 1
  rw [n p d1, n q d2]
  exact Nat.gcd_div_gcd_div_gcd_of_pos_right (by omega)
theorem low_id {x : Fr} (h : Red x) : low x.1 x.2 = x := by
  unfold low
  rw [show Nat.gcd x.1.natAbs x.2.natAbs = 1 from h]
  simp
/-- the same ratio -/
theorem low_ratio (p q : Int) (h0 : 0 < q) : (low p q).1 * q = p * (low p q).2 := by
  have d1 : ((Nat.gcd p.natAbs q.natAbs : Nat) : Int) ∣ p := Int.ofNat_dvd_left.mpr (Nat.gcd_dvd_left _ _)
  have d2 : ((Nat.gcd p.natAbs q.natAbs : Nat) : Int) ∣ q := Int.ofNat_dvd_left.mpr (Nat.gcd_dvd_right _ _)
  have g0 := gcd_pos' p q h0
  show p / _ * q = p * (q / _)
  generalize hg : ((Nat.gcd p.natAbs q.natAbs : Nat) : Int) = g at *
  obtain ⟨a, rfl⟩ := d1
  obtain ⟨b, rfl⟩ := d2
  have gz : g ≠ 0 := by omega
  rw [Int.mul_ediv_cancel_left _ gz, Int.mul_ediv_cancel_left _ gz]
  rw [Int.mul_left_comm, Int.mul_assoc]
end Cv.K02

set_option Elab.async false
set_option linter.all false
set_option maxRecDepth 100000
set_option maxHeartbeats 4000000
namespace Cv.K02
open PySem
theorem mul_lt {a b : Int} {k m : Nat} (ha : a.natAbs < 2 ^ k) (hb : b.natAbs < 2 ^ m) : (a * b).natAbs < 2 ^ (k + m) := by
  rw [Int.natAbs_mul, Nat.pow_add]
  exact Nat.mul_lt_mul'' ha hb
theorem bd2 {x : Fr} {k : Nat} (h : Bd k x) : x.2.natAbs < 2 ^ k := nat_lt h.2.1 h.2.2
theorem bd_mono {x : Fr} {k m : Nat} (h : Bd k x) (hk : k ≤ m) : Bd m x := by
  have l1 : (2 : Nat) ^ k ≤ 2 ^ m := Nat.pow_le_pow_right (by decide) hk
  have l2 : (2 : Int) ^ k ≤ 2 ^ m := by
    have : ((2 ^ k : Nat) : Int) ≤ ((2 ^ m : Nat) : Int) := by omega
    rw [Int.natCast_pow, Int.natCast_pow] at this; exact this
  exact ⟨by have := h.1; omega, h.2.1, by have := h.2.2; omega⟩
theorem den_lt {x y : Fr} {k m : Nat} (hx : Bd k x) (hy : Bd m y) : 0 < x.2 * y.2 ∧ x.2 * y.2 < 2 ^ (k + m) := by
  refine ⟨Int.mul_pos hx.2.1 hy.2.1, ?_⟩
  have := mul_lt (bd2 hx) (bd2 hy)
  have e : ((x.2 * y.2).natAbs : Int) = x.2 * y.2 := Int.natAbs_of_nonneg (Int.le_of_lt (Int.mul_pos hx.2.1 hy.2.1))
  have t : ((x.2 * y.2).natAbs : Int) < ((2 ^ (k + m) : Nat) : Int) := by omega
  rw [e, Int.natCast_pow] at t; exact t
theorem num_lt {x y : Fr} {k m : Nat} (hx : Bd k x) (hy : Bd m y) : (x.1 * y.2 + y.1 * x.2).natAbs < 2 ^ (k + m + 1) := by
  have h1 := mul_lt hx.1 (bd2 hy)
  have h2 := mul_lt hy.1 (bd2 hx)
  rw [Nat.add_comm m k] at h2
  have h3 := Int.natAbs_add_le (x.1 * y.2) (y.1 * x.2)
  rw [Nat.pow_succ]; omega
theorem plus_bd {x y : Fr} {k m : Nat} (hx : Bd k x) (hy : Bd m y) : Bd (k + m + 1) (plusF x y) :=
  low_bd (num_lt hx hy) (den_lt hx hy).1 (den_lt hx hy).2 (by omega)
theorem plus_red {x y : Fr} {k m : Nat} (hx : Bd k x) (hy : Bd m y) : Red (plusF x y) := low_red (den_lt hx hy).1
theorem neg_bd {y : Fr} {m : Nat} (hy : Bd m y) : Bd m (-y.1, y.2) := ⟨by show (-y.1).natAbs < _; rw [Int.natAbs_neg]; exact hy.1, hy.2⟩
theorem less_bd {x y : Fr} {k m : Nat} (hx : Bd k x) (hy : Bd m y) : Bd (k + m + 1) (lessF x y) := plus_bd hx (neg_bd hy)
theorem less_red {x y : Fr} {k m : Nat} (hx : Bd k x) (hy : Bd m y) : Red (lessF x y) := plus_red hx (neg_bd hy)
theorem times_bd {x y : Fr} {k m : Nat} (hx : Bd k x) (hy : Bd m y) : Bd (k + m) (timesF x y) := low_bd (mul_lt hx.1 hy.1) (den_lt hx hy).1 (den_lt hx hy).2 (by omega)
theorem times_red {x y : Fr} {k m : Nat} (hx : Bd k x) (hy : Bd m y) : Red (timesF x y) := low_red (den_lt hx hy).1
theorem q_plus {x y : Fr} {k m : Nat} (hx : Bd k x) (hy : Bd m y) (hk : k + m < 5000) (d : Nat) (hd : 2 < d) (st : Sto) : runP TT d 6 [fr x, fr y] st = .ok (fr (plusF x y)) st := by
  obtain ⟨d, rfl⟩ : ∃ m, d = m + 1 := ⟨d - 1, by omega⟩
  conv => lhs; whnf
  rw [mul_int (mulOk_of hx.1 (bd2 hy) (by omega))]
  conv => lhs; whnf
  rw [mul_int (mulOk_of hy.1 (bd2 hx) (by omega))]
  conv => lhs; whnf
  rw [mul_int (mulOk_of (bd2 hx) (bd2 hy) (by omega))]
  conv => lhs; whnf
  rw [q_lowest _ _ (k + m) (den_lt hx hy).1 (den_lt hx hy).2 (by omega) d (by omega)]
  rfl
theorem q_lplus {x y : Fr} {k m : Nat} (hx : Bd k x) (hy : Bd m y) (hk : k + m < 5000) (d : Nat) (hd : 1 < d) (st : Sto) : runP TT d 37 [fr x, fr y] st = .ok (fr (plusF x y)) st := by
  obtain ⟨d, rfl⟩ : ∃ m, d = m + 1 := ⟨d - 1, by omega⟩
  conv => lhs; whnf
  rw [mul_int (mulOk_of hx.1 (bd2 hy) (by omega))]
  conv => lhs; whnf
  rw [mul_int (mulOk_of hy.1 (bd2 hx) (by omega))]
  conv => lhs; whnf
  rw [mul_int (mulOk_of (bd2 hx) (bd2 hy) (by omega))]
  conv => lhs; whnf
  rw [q_lawlow _ _ (k + m) (den_lt hx hy).1 (den_lt hx hy).2 (by omega) d (by omega)]
  rfl
theorem q_less {x y : Fr} {k m : Nat} (hx : Bd k x) (hy : Bd m y) (hk : k + m < 5000) (d : Nat) (hd : 3 < d) (st : Sto) : runP TT d 7 [fr x, fr y] st = .ok (fr (lessF x y)) st := by
  obtain ⟨d, rfl⟩ : ∃ m, d = m + 1 := ⟨d - 1, by omega⟩
  have e : runP TT d 6 [fr x, .tup [.int (-y.1), .int y.2]] st = .ok (fr (lessF x y)) st := q_plus hx (neg_bd hy) hk d (by omega) st
  conv => lhs; whnf
  rw [e]
  rfl
theorem q_lless {x y : Fr} {k m : Nat} (hx : Bd k x) (hy : Bd m y) (hk : k + m < 5000) (d : Nat) (hd : 1 < d) (st : Sto) : runP TT d 36 [fr x, fr y] st = .ok (fr (lessF x y)) st := by
  obtain ⟨d, rfl⟩ : ∃ m, d = m + 1 := ⟨d - 1, by omega⟩
  have e0 : x.1 * y.2 - y.1 * x.2 = x.1 * y.2 + (-y.1) * x.2 := by rw [Int.neg_mul]; rfl
  conv => lhs; whnf
  rw [mul_int (mulOk_of hx.1 (bd2 hy) (by omega))]
  conv => lhs; whnf
  rw [mul_int (mulOk_of hy.1 (bd2 hx) (by omega))]
  conv => lhs; whnf
  rw [mul_int (mulOk_of (bd2 hx) (bd2 hy) (by omega))]
  conv => lhs; whnf
  rw [q_lawlow _ _ (k + m) (den_lt hx hy).1 (den_lt hx hy).2 (by omega) d (by omega), e0]
  rfl
theorem q_times {x y : Fr} {k m : Nat} (hx : Bd k x) (hy : Bd m y) (hk : k + m < 5000) (d : Nat) (hd : 2 < d) (st : Sto) : runP TT d 8 [fr x, fr y] st = .ok (fr (timesF x y)) st := by
  obtain ⟨d, rfl⟩ : ∃ m, d = m + 1 := ⟨d - 1, by omega⟩
  conv => lhs; whnf
  rw [mul_int (mulOk_of hx.1 hy.1 (by omega))]
  conv => lhs; whnf
  rw [mul_int (mulOk_of (bd2 hx) (bd2 hy) (by omega))]
  conv => lhs; whnf
  rw [q_lowest _ _ (k + m) (den_lt hx hy).1 (den_lt hx hy).2 (by omega) d (by omega)]
  rfl
theorem q_isless {x y : Fr} {k m : Nat} (hx : Bd k x) (hy : Bd m y) (hk : k + m < 5000) (d : Nat) (hd : 0 < d) (st : Sto) : runP TT d 9 [fr x, fr y] st = .ok (.bl (ltF x y)) st := by
  obtain ⟨d, rfl⟩ : ∃ m, d = m + 1 := ⟨d - 1, by omega⟩
  conv => lhs; whnf
  rw [mul_int (mulOk_of hx.1 (bd2 hy) (by omega))]
  conv => lhs; whnf
  rw [mul_int (mulOk_of hy.1 (bd2 hx) (by omega))]
  rfl
theorem q_under {x y : Fr} {k m : Nat} (hx : Bd k x) (hy : Bd m y) (hk : k + m < 5000) (d : Nat) (hd : 0 < d) (st : Sto) : runP TT d 38 [fr x, fr y] st = .ok (.bl (ltF x y)) st := by
  obtain ⟨d, rfl⟩ : ∃ m, d = m + 1 := ⟨d - 1, by omega⟩
  conv => lhs; whnf
  rw [mul_int (mulOk_of hx.1 (bd2 hy) (by omega))]
  conv => lhs; whnf
  rw [mul_int (mulOk_of hy.1 (bd2 hx) (by omega))]
  rfl
theorem q_notbelow (x : Fr) (d : Nat) (hd : 0 < d) (st : Sto) : runP TT d 10 [fr x] st = .ok (fr (posF x)) st := by
  obtain ⟨d, rfl⟩ : ∃ m, d = m + 1 := ⟨d - 1, by omega⟩
  by_cases h : 0 < x.1
  · have e : decide (0 < x.1) = true := decide_eq_true h
    have e2 : posF x = x := if_pos h
    conv => lhs; whnf
    rw [e, e2]
    rfl
  · have e : decide (0 < x.1) = false := decide_eq_false h
    have e2 : posF x = (0, 1) := if_neg h
    conv => lhs; whnf
    rw [e, e2]
    rfl
theorem pos_bd {x : Fr} {k : Nat} (h : Bd k x) (hk : 1 ≤ k) : Bd k (posF x) := by
  unfold posF
  split
  · exact h
  · refine ⟨Nat.two_pow_pos k, by decide, ?_⟩
    show (1 : Int) < 2 ^ k
    have : (2 : Nat) ^ 1 ≤ 2 ^ k := Nat.pow_le_pow_right (by decide) hk
    have e : ((2 ^ k : Nat) : Int) = (2 : Int) ^ k := Int.natCast_pow 2 k
    omega
theorem pos_red {x : Fr} (h : Red x) : Red (posF x) := by
  unfold posF
  split
  · exact h
  · rfl
/-- between: found, at most high - low -/
def btw (x : Fr) (l : Int) : Option Int → Fr
  | none => posF (lessF x (l, 1))
  | some h => if ltF (posF (lessF x (l, 1))) (h - l, 1) then posF (lessF x (l, 1)) else (h - l, 1)
def optI : Option Int → PV
  | none => .non
  | some h => .int h
theorem int_bd {n : Int} {k : Nat} (h0 : 0 ≤ n) (h : n < 2 ^ k) (hk : 1 ≤ k) : Bd k (n, 1) := by
  refine ⟨?_, by show (0:Int) < 1; decide, ?_⟩
  · show n.natAbs < 2 ^ k
    have : (n.natAbs : Int) < ((2 ^ k : Nat) : Int) := by rw [Int.natCast_pow, Int.natAbs_of_nonneg h0]; exact h
    omega
  · show (1 : Int) < 2 ^ k
    have : (2 : Nat) ^ 1 ≤ 2 ^ k := Nat.pow_le_pow_right (by decide) hk
    have e : ((2 ^ k : Nat) : Int) = (2 : Int) ^ k := Int.natCast_pow 2 k
    omega
theorem p40 : (2 : Int) ^ 40 = 1099511627776 := by decide
theorem q_between {x : Fr} {k : Nat} (hx : Bd k x) (hk : k < 2000) (l : Int) (h : Option Int) (l0 : 0 ≤ l) (l1 : l ≤ 1000000000) (hh : ∀ z, h = some z → l ≤ z ∧ z ≤ 1000000000) (d : Nat) (hd : 4 < d) (st : Sto) :
    runP TT d 11 [fr x, .int l, optI h] st = .ok (fr (btw x l h)) st := by
  obtain ⟨d, rfl⟩ : ∃ m, d = m + 1 := ⟨d - 1, by omega⟩
  have bl : Bd 40 (l, 1) := int_bd l0 (by rw [p40]; omega) (by decide)
  have lb := less_bd hx bl
  have e1 : runP TT d 7 [fr x, .tup [.int l, .int 1]] st = .ok (fr (lessF x (l, 1))) st := q_less hx bl (by omega) d (by omega) st
  conv => lhs; whnf
  rw [e1]
  conv => lhs; whnf
  rw [q_notbelow _ d (by omega)]
  cases h with
  | none =>
    conv => lhs; whnf
    rfl
  | some z =>
    obtain ⟨z0, z1⟩ := hh z rfl
    have bz : Bd 40 (z - l, 1) := int_bd (by omega) (by rw [p40]; omega) (by decide)
    have e2 : runP TT d 9 [fr (posF (lessF x (l, 1))), .tup [.int (z - l), .int 1]] st = .ok (.bl (ltF (posF (lessF x (l, 1))) (z - l, 1))) st := q_isless (pos_bd lb (by omega)) bz (by omega) d (by omega) st
    conv => lhs; whnf
    rw [e2]
    show _ = Res.ok (fr (if ltF (posF (lessF x (l, 1))) (z - l, 1) then posF (lessF x (l, 1)) else (z - l, 1))) st
    cases ltF (posF (lessF x (l, 1))) (z - l, 1)
    · conv => lhs; whnf
      rfl
    · conv => lhs; whnf
      rfl
theorem btw_bd {x : Fr} {k : Nat} (hx : Bd k x) (l : Int) (h : Option Int) (l0 : 0 ≤ l) (l1 : l ≤ 1000000000) (hh : ∀ z, h = some z → l ≤ z ∧ z ≤ 1000000000) : Bd (k + 41) (btw x l h) := by
  have bl : Bd 40 (l, 1) := int_bd l0 (by rw [p40]; omega) (by decide)
  have lb := pos_bd (less_bd hx bl) (by omega)
  cases h with
  | none => exact bd_mono lb (by omega)
  | some z =>
    obtain ⟨z0, z1⟩ := hh z rfl
    have bz : Bd 40 (z - l, 1) := int_bd (by omega) (by rw [p40]; omega) (by decide)
    show Bd (k + 41) (if _ then _ else _)
    split
    · exact bd_mono lb (by omega)
    · exact bd_mono bz (by omega)
theorem btw_red {x : Fr} {k : Nat} (hx : Bd k x) (l : Int) (h : Option Int) (l0 : 0 ≤ l) (l1 : l ≤ 1000000000) : Red (btw x l h) := by
  have bl : Bd 40 (l, 1) := int_bd l0 (by rw [p40]; omega) (by decide)
  have lr := pos_red (less_red hx bl)
  cases h with
  | none => exact lr
  | some z =>
    show Red (if _ then _ else _)
    split
    · exact lr
    · show Nat.gcd _ 1 = 1
      exact Nat.gcd_one_right _
end Cv.K02

set_option Elab.async false
set_option linter.all false
set_option maxRecDepth 100000
set_option maxHeartbeats 4000000
namespace Cv.K02
open PySem
theorem zero_red {x : Fr} (h : Red x) (h1 : x.1 = 0) (h2 : 0 < x.2) : x = (0, 1) := by
  have h' : Nat.gcd x.1.natAbs x.2.natAbs = 1 := h
  rw [h1, show (0 : Int).natAbs = 0 from rfl, Nat.gcd_zero_left] at h'
  have : x.2 = 1 := by omega
  exact Prod.ext h1 this
theorem whole_red {x : Fr} {n : Int} (h : Red x) (h2 : 0 < x.2) (e : x.1 * 1 = n * x.2) : x = (n, 1) := by
  have h' : Nat.gcd x.1.natAbs x.2.natAbs = 1 := h
  rw [Int.mul_one] at e
  have d : x.2.natAbs ∣ x.1.natAbs := by rw [e, Int.natAbs_mul]; exact Nat.dvd_mul_left _ _
  have g := Nat.gcd_eq_right d
  rw [g] at h'
  have e2 : x.2 = 1 := by omega
  rw [e2, Int.mul_one] at e
  exact Prod.ext e e2
def negF (x : Fr) : Fr := if x.1 < 0 then (0, 1) else x
theorem neg_pos' {x : Fr} (h : Red x) (h2 : 0 < x.2) : negF x = posF x := by
  unfold negF posF
  by_cases a : x.1 < 0
  · rw [if_pos a, if_neg (by omega)]
  · rw [if_neg a]
    by_cases b : x.1 > 0
    · rw [if_pos b]
    · rw [if_neg b]; exact zero_red h (by omega) h2
theorem q_lbetween {x : Fr} {k : Nat} (hx : Bd k x) (hk : k < 2000) (l : Int) (h : Option Int) (l0 : 0 ≤ l) (l1 : l ≤ 1000000000) (hh : ∀ z, h = some z → l ≤ z ∧ z ≤ 1000000000) (d : Nat) (hd : 3 < d) (st : Sto) :
    runP TT d 39 [fr x, .int l, optI h] st = .ok (fr (btw x l h)) st := by
  obtain ⟨d, rfl⟩ : ∃ m, d = m + 1 := ⟨d - 1, by omega⟩
  have bl : Bd 40 (l, 1) := int_bd l0 (by rw [p40]; omega) (by decide)
  have lb := less_bd hx bl
  have lr := less_red hx bl
  have e1 : runP TT d 36 [fr x, .tup [.int l, .int 1]] st = .ok (fr (lessF x (l, 1))) st := q_lless hx bl (by omega) d (by omega) st
  have np := neg_pos' lr lb.2.1
  have pb := pos_bd lb (by omega)
  have pr := pos_red lr
  have fin : ∀ f : Fr, Bd (k + 40 + 1) f → Red f → f = posF (lessF x (l, 1)) → exs (.ret (.ife (.and (.cmp .notN (.v 2) (.c (.non))) (.call 38 (.cons (.tup (.cons (.bin .sub (.v 2) (.v 1)) (.cons (.c (.int 1)) (.nil)))) (.cons (.v 3) (.nil))))) (.tup (.cons (.bin .sub (.v 2) (.v 1)) (.cons (.c (.int 1)) (.nil)))) (.v 3))) (runP TT d) [.val (fr x), .val (.int l), .val (optI h), .val (fr f)] st (fun _ st => .ok .non st) (fun _ _ => .fail) = .ok (fr (btw x l h)) st := by
    intro f fb fd ef
    cases h with
    | none =>
      show _ = Res.ok (fr (posF (lessF x (l, 1)))) st
      rw [← ef]
      rfl
    | some z =>
      obtain ⟨z0, z1⟩ := hh z rfl
      have bz : Bd 40 (z - l, 1) := int_bd (by omega) (by rw [p40]; omega) (by decide)
      have e2 : runP TT d 38 [.tup [.int (z - l), .int 1], fr f] st = .ok (.bl (ltF (z - l, 1) f)) st := q_under bz fb (by omega) d (by omega) st
      have be : btw x l (some z) = if ltF (z - l, 1) f then (z - l, 1) else f := by
        show (if ltF (posF (lessF x (l, 1))) (z - l, 1) then posF (lessF x (l, 1)) else (z - l, 1)) = _
        rw [← ef]
        unfold ltF
        by_cases a : f.1 * (1 : Int) < (z - l) * f.2
        · rw [decide_eq_true (show f.1 * ((z - l, 1) : Fr).2 < ((z - l, 1) : Fr).1 * f.2 from a), if_pos rfl, decide_eq_false (show ¬ ((z - l, 1) : Fr).1 * f.2 < f.1 * ((z - l, 1) : Fr).2 from by show ¬ (z - l) * f.2 < f.1 * 1; omega), if_neg (by decide)]
        · rw [decide_eq_false (show ¬ f.1 * ((z - l, 1) : Fr).2 < ((z - l, 1) : Fr).1 * f.2 from a), if_neg (by decide)]
          by_cases b : (z - l) * f.2 < f.1 * (1 : Int)
          · rw [decide_eq_true (show ((z - l, 1) : Fr).1 * f.2 < f.1 * ((z - l, 1) : Fr).2 from b), if_pos rfl]
          · rw [decide_eq_false (show ¬ ((z - l, 1) : Fr).1 * f.2 < f.1 * ((z - l, 1) : Fr).2 from b), if_neg (by decide)]
            exact (whole_red fd fb.2.1 (by omega)).symm
      rw [be]
      conv => lhs; whnf
      rw [e2]
      cases ltF (z - l, 1) f
      · conv => lhs; whnf
        rfl
      · conv => lhs; whnf
        rfl
  by_cases h1 : (lessF x (l, 1)).1 < 0
  · have e : decide ((lessF x (l, 1)).1 < 0) = true := decide_eq_true h1
    have ef : ((0, 1) : Fr) = posF (lessF x (l, 1)) := by rw [← np]; unfold negF; rw [if_pos h1]
    refine Eq.trans ?_ (fin (0, 1) (int_bd (by decide) (Int.pow_pos (by decide)) (by omega)) rfl ef)
    conv => lhs; whnf
    rw [e1]
    conv => lhs; whnf
    rw [e]
    rfl
  · have e : decide ((lessF x (l, 1)).1 < 0) = false := decide_eq_false h1
    have ef : lessF x (l, 1) = posF (lessF x (l, 1)) := by rw [← np]; unfold negF; rw [if_neg h1]
    refine Eq.trans ?_ (fin (lessF x (l, 1)) lb lr ef)
    conv => lhs; whnf
    rw [e1]
    conv => lhs; whnf
    rw [e]
    rfl
theorem less_zero {u : Fr} (h : Red u) : lessF u (0, 1) = u := by
  show low (u.1 * 1 + (-0) * u.2) (u.2 * 1) = u
  rw [Int.mul_one, Int.mul_one, Int.neg_zero, Int.zero_mul, Int.add_zero]
  exact low_id h
theorem btw_rest {u : Fr} (h : Red u) : btw u 0 none = posF u := by
  show posF (lessF u (0, 1)) = _
  rw [less_zero h]
end Cv.K02

set_option Elab.async false
set_option linter.all false
set_option maxRecDepth 100000
set_option maxHeartbeats 8000000
namespace Cv.K02
open PySem
inductive Trm where
  | loss | fixed (n : Int) | layer (l : Int) (h : Option Int) (t : Trm) | share (a b : Int) (t : Trm) | cond (c : Cnd) (t : Trm)
  | both (t u : Trm) | rest (t u : Trm) | least (t u : Trm) | most (t u : Trm)
def tenc : Trm → PV
  | .loss => .tup [.str "loss"]
  | .fixed n => .tup [.str "fixed", .int n]
  | .layer l h t => .tup [.str "layer", .int l, optI h, tenc t]
  | .share a b t => .tup [.str "share", .int a, .int b, tenc t]
  | .cond c t => .tup [.str "when", enc c, tenc t]
  | .both t u => .tup [.str "both", tenc t, tenc u]
  | .rest t u => .tup [.str "rest", tenc t, tenc u]
  | .least t u => .tup [.str "least", tenc t, tenc u]
  | .most t u => .tup [.str "most", tenc t, tenc u]
def kidsT : Trm → List Trm
  | .loss => []
  | .fixed _ => []
  | .layer _ _ t => [t]
  | .share _ _ t => [t]
  | .cond _ t => [t]
  | .both t u => [t, u]
  | .rest t u => [t, u]
  | .least t u => [t, u]
  | .most t u => [t, u]
def twf : Trm → Prop
  | .loss => True
  | .fixed n => 0 ≤ n ∧ n ≤ 1000000000
  | .layer l h t => (0 ≤ l ∧ l ≤ 1000000000 ∧ ∀ z, h = some z → l ≤ z ∧ z ≤ 1000000000) ∧ twf t
  | .share a b t => (1 ≤ b ∧ b ≤ 100 ∧ 0 ≤ a ∧ a ≤ b) ∧ twf t
  | .cond c t => (wf c = true ∧ dp c ≤ 5) ∧ twf t
  | .both t u | .rest t u | .least t u | .most t u => twf t ∧ twf u
def tdp : Trm → Nat
  | .loss => 0
  | .fixed _ => 0
  | .layer _ _ t => tdp t + 1
  | .share _ _ t => tdp t + 1
  | .cond _ t => tdp t + 1
  | .both t u => max (tdp t) (tdp u) + 1
  | .rest t u => max (tdp t) (tdp u) + 1
  | .least t u => max (tdp t) (tdp u) + 1
  | .most t u => max (tdp t) (tdp u) + 1
def tsz : Trm → Nat
  | .loss => 1
  | .fixed _ => 1
  | .layer _ _ t => tsz t + 1
  | .share _ _ t => tsz t + 1
  | .cond _ t => tsz t + 1
  | .both t u => tsz t + tsz u + 1
  | .rest t u => tsz t + tsz u + 1
  | .least t u => tsz t + tsz u + 1
  | .most t u => tsz t + tsz u + 1
def plainT : Trm → Bool
  | .loss => true
  | .fixed _ => false
  | .layer _ _ t => plainT t
  | .share _ _ t => plainT t
  | .cond _ t => plainT t
  | .both t u => false
  | .rest t u => plainT t && plainT u
  | .least t u => plainT t && plainT u
  | .most t u => plainT t && plainT u
theorem q_within (t : Trm) (d : Nat) (hd : 0 < d) (st : Sto) : runP TT d 20 [tenc t] st = .ok (.tup ((kidsT t).map tenc)) st := by
  obtain ⟨d, rfl⟩ : ∃ m, d = m + 1 := ⟨d - 1, by omega⟩
  cases t <;> kernel_rfl
theorem q_inner (t : Trm) (d : Nat) (hd : 0 < d) (st : Sto) : runP TT d 41 [tenc t] st = .ok (.tup ((kidsT t).map tenc)) st := by
  obtain ⟨d, rfl⟩ : ∃ m, d = m + 1 := ⟨d - 1, by omega⟩
  cases t <;> kernel_rfl
theorem one_res {a : Nat} {st : Sto} : Res.ok (.int (1 + (a : Int))) st = .ok (.int ((a + 1 : Nat) : Int)) st := by rw [show (1 + (a : Int)) = ((a + 1 : Nat) : Int) by omega]
theorem size_fin1 (a : Nat) (st : Sto) : Res.ok (.int (1 + ([(a : Int)]).sum)) st = .ok (.int ((a + 1 : Nat) : Int)) st := by
  congr 2; simp only [List.sum_cons, List.sum_nil]; omega
theorem size_fin2 (a b : Nat) (st : Sto) : Res.ok (.int (1 + ([(a : Int), (b : Int)]).sum)) st = .ok (.int ((a + b + 1 : Nat) : Int)) st := by
  congr 2; simp only [List.sum_cons, List.sum_nil]; omega
theorem q_size : ∀ (t : Trm) (d : Nat) (st : Sto), tdp t + 1 < d → runP TT d 21 [tenc t] st = .ok (.int (tsz t : Nat)) st := by
  intro t
  induction t with
  | loss | fixed =>
    intro d st hd
    obtain ⟨d, rfl⟩ : ∃ m, d = m + 1 := ⟨d - 1, by omega⟩
    simp only [tdp] at hd
    conv => lhs; whnf
    rw [q_within _ d (by omega)]
    kernel_rfl
  | layer _ _ t ih | share _ _ t ih | cond _ t ih =>
    intro d st hd
    obtain ⟨d, rfl⟩ : ∃ m, d = m + 1 := ⟨d - 1, by omega⟩
    simp only [tdp] at hd
    conv => lhs; whnf
    rw [q_within _ d (by omega)]
    conv => lhs; whnf
    rw [nox (ih d _ (by omega))]
    refine Eq.trans ?_ (size_fin1 _ st)
    kernel_rfl
  | both t u ih ih2 | rest t u ih ih2 | least t u ih ih2 | most t u ih ih2 =>
    intro d st hd
    obtain ⟨d, rfl⟩ : ∃ m, d = m + 1 := ⟨d - 1, by omega⟩
    simp only [tdp] at hd
    conv => lhs; whnf
    rw [q_within _ d (by omega)]
    conv => lhs; whnf
    rw [nox (ih d _ (by omega))]
    conv => lhs; whnf
    rw [nox (ih2 d _ (by omega))]
    refine Eq.trans ?_ (size_fin2 _ _ st)
    kernel_rfl
theorem q_lsize : ∀ (t : Trm) (d : Nat) (st : Sto), tdp t + 1 < d → runP TT d 44 [tenc t] st = .ok (.int (tsz t : Nat)) st := by
  intro t
  induction t with
  | loss | fixed =>
    intro d st hd
    obtain ⟨d, rfl⟩ : ∃ m, d = m + 1 := ⟨d - 1, by omega⟩
    simp only [tdp] at hd
    conv => lhs; whnf
    rw [q_inner _ d (by omega)]
    kernel_rfl
  | layer _ _ t ih | share _ _ t ih | cond _ t ih =>
    intro d st hd
    obtain ⟨d, rfl⟩ : ∃ m, d = m + 1 := ⟨d - 1, by omega⟩
    simp only [tdp] at hd
    conv => lhs; whnf
    rw [q_inner _ d (by omega)]
    conv => lhs; whnf
    rw [nox (ih d _ (by omega))]
    refine Eq.trans ?_ (size_fin1 _ st)
    kernel_rfl
  | both t u ih ih2 | rest t u ih ih2 | least t u ih ih2 | most t u ih ih2 =>
    intro d st hd
    obtain ⟨d, rfl⟩ : ∃ m, d = m + 1 := ⟨d - 1, by omega⟩
    simp only [tdp] at hd
    conv => lhs; whnf
    rw [q_inner _ d (by omega)]
    conv => lhs; whnf
    rw [nox (ih d _ (by omega))]
    conv => lhs; whnf
    rw [nox (ih2 d _ (by omega))]
    refine Eq.trans ?_ (size_fin2 _ _ st)
    kernel_rfl
theorem bl_and (a : Bool) (st : Sto) : Res.ok (.bl (([a]).all id)) st = .ok (.bl a) st := by cases a <;> rfl
theorem bl_and2 (a b : Bool) (st : Sto) : Res.ok (.bl (([a, b]).all id)) st = .ok (.bl (a && b)) st := by cases a <;> cases b <;> rfl
theorem q_plain : ∀ (t : Trm) (d : Nat) (st : Sto), tdp t + 1 < d → runP TT d 27 [tenc t] st = .ok (.bl (plainT t)) st := by
  intro t
  induction t with
  | fixed | both =>
    intro d st hd
    obtain ⟨d, rfl⟩ : ∃ m, d = m + 1 := ⟨d - 1, by omega⟩
    kernel_rfl
  | loss =>
    intro d st hd
    obtain ⟨d, rfl⟩ : ∃ m, d = m + 1 := ⟨d - 1, by omega⟩
    simp only [tdp] at hd
    with_unfolding_all conv => lhs; whnf
    rw [q_within _ d (by omega)]
    kernel_rfl
  | layer _ _ t ih | share _ _ t ih | cond _ t ih =>
    intro d st hd
    obtain ⟨d, rfl⟩ : ∃ m, d = m + 1 := ⟨d - 1, by omega⟩
    simp only [tdp] at hd
    with_unfolding_all conv => lhs; whnf
    rw [q_within _ d (by omega)]
    conv => lhs; whnf
    rw [nox (ih d _ (by omega))]
    refine Eq.trans ?_ (bl_and _ st)
    kernel_rfl
  | rest t u ih ih2 | least t u ih ih2 | most t u ih ih2 =>
    intro d st hd
    obtain ⟨d, rfl⟩ : ∃ m, d = m + 1 := ⟨d - 1, by omega⟩
    simp only [tdp] at hd
    with_unfolding_all conv => lhs; whnf
    rw [q_within _ d (by omega)]
    conv => lhs; whnf
    rw [nox (ih d _ (by omega))]
    conv => lhs; whnf
    rw [nox (ih2 d _ (by omega))]
    refine Eq.trans ?_ (bl_and2 _ _ st)
    kernel_rfl
end Cv.K02

set_option Elab.async false
set_option linter.all false
set_option maxRecDepth 100000
set_option maxHeartbeats 8000000
namespace Cv.K02
open PySem
def payT (x : Fr) (ms : List PV) (day : Int) : Trm → Fr
  | .loss => x
  | .fixed n => (n, 1)
  | .layer l h t => btw (payT x ms day t) l h
  | .share a b t => timesF (payT x ms day t) (a, b)
  | .cond c t => if hold ms day c then payT x ms day t else (0, 1)
  | .both t u => plusF (payT x ms day t) (payT x ms day u)
  | .rest t u => posF (lessF (payT x ms day t) (payT x ms day u))
  | .least t u => if ltF (payT x ms day t) (payT x ms day u) then payT x ms day t else payT x ms day u
  | .most t u => if ltF (payT x ms day t) (payT x ms day u) then payT x ms day u else payT x ms day t
def kb : Trm → Nat
  | .loss => 40
  | .fixed _ => 40
  | .layer _ _ t => kb t + 41
  | .share _ _ t => kb t + 40
  | .cond _ t => kb t
  | .both t u => kb t + kb u + 1
  | .rest t u => kb t + kb u + 1
  | .least t u => kb t + kb u
  | .most t u => kb t + kb u
theorem kb_lo : ∀ t, 40 ≤ kb t
  | .loss => Nat.le_refl _
  | .fixed _ => Nat.le_refl _
  | .layer _ _ t => by have := kb_lo t; show 40 ≤ kb t + 41; omega
  | .share _ _ t => by have := kb_lo t; show 40 ≤ kb t + 40; omega
  | .cond _ t => kb_lo t
  | .both t u => by have := kb_lo t; show 40 ≤ kb t + kb u + 1; omega
  | .rest t u => by have := kb_lo t; show 40 ≤ kb t + kb u + 1; omega
  | .least t u => by have := kb_lo t; show 40 ≤ kb t + kb u; omega
  | .most t u => by have := kb_lo t; show 40 ≤ kb t + kb u; omega
theorem p2 (n m : Nat) (h : n ≤ m) : 2 ^ n ≤ 2 ^ m := Nat.pow_le_pow_right (by decide) h
theorem kb_hi : ∀ t, kb t + 41 ≤ 82 * 2 ^ tdp t
  | .loss => by decide
  | .fixed _ => by show 40 + 41 ≤ 82 * 2 ^ 0; decide
  | .layer _ _ t => by have := kb_hi t; have := kb_lo t; show kb t + 41 + 41 ≤ 82 * 2 ^ (tdp t + 1); rw [Nat.pow_succ]; omega
  | .share _ _ t => by have := kb_hi t; have := kb_lo t; show kb t + 40 + 41 ≤ 82 * 2 ^ (tdp t + 1); rw [Nat.pow_succ]; omega
  | .cond _ t => by have := kb_hi t; show kb t + 41 ≤ 82 * 2 ^ (tdp t + 1); rw [Nat.pow_succ]; omega
  | .both t u => by
    have := kb_hi t; have := kb_hi u; have := p2 (tdp t) (max (tdp t) (tdp u)) (by omega); have := p2 (tdp u) (max (tdp t) (tdp u)) (by omega)
    show kb t + kb u + 1 + 41 ≤ 82 * 2 ^ (max (tdp t) (tdp u) + 1); rw [Nat.pow_succ]; omega
  | .rest t u => by
    have := kb_hi t; have := kb_hi u; have := p2 (tdp t) (max (tdp t) (tdp u)) (by omega); have := p2 (tdp u) (max (tdp t) (tdp u)) (by omega)
    show kb t + kb u + 1 + 41 ≤ 82 * 2 ^ (max (tdp t) (tdp u) + 1); rw [Nat.pow_succ]; omega
  | .least t u => by
    have := kb_hi t; have := kb_hi u; have := p2 (tdp t) (max (tdp t) (tdp u)) (by omega); have := p2 (tdp u) (max (tdp t) (tdp u)) (by omega)
    show kb t + kb u + 41 ≤ 82 * 2 ^ (max (tdp t) (tdp u) + 1); rw [Nat.pow_succ]; omega
  | .most t u => by
    have := kb_hi t; have := kb_hi u; have := p2 (tdp t) (max (tdp t) (tdp u)) (by omega); have := p2 (tdp u) (max (tdp t) (tdp u)) (by omega)
    show kb t + kb u + 41 ≤ 82 * 2 ^ (max (tdp t) (tdp u) + 1); rw [Nat.pow_succ]; omega
theorem kb_4 {t : Trm} (h : tdp t ≤ 4) : kb t ≤ 1400 := by
  have := kb_hi t
  have := p2 (tdp t) 4 h
  omega
theorem fr_bd {a b : Int} (h : 1 ≤ b ∧ b ≤ 100 ∧ 0 ≤ a ∧ a ≤ b) : Bd 40 (a, b) := by
  refine ⟨?_, by show 0 < b; omega, by show b < 2 ^ 40; rw [p40]; omega⟩
  show a.natAbs < 2 ^ 40
  have : (2 : Nat) ^ 40 = 1099511627776 := by decide
  omega
theorem pay_ok (x : Fr) (ms : List PV) (day : Int) (hx : Bd 40 x) (rx : Red x) : ∀ t : Trm, twf t → Bd (kb t) (payT x ms day t) ∧ Red (payT x ms day t) := by
  intro t
  induction t with
  | loss => intro _; exact ⟨hx, rx⟩
  | fixed n => intro w; exact ⟨int_bd (k := 40) w.1 (by rw [p40]; have := w.2; omega) (by decide), Nat.gcd_one_right _⟩
  | layer l h t ih => intro w; obtain ⟨b, r⟩ := ih w.2; exact ⟨btw_bd b l h w.1.1 w.1.2.1 w.1.2.2, btw_red b l h w.1.1 w.1.2.1⟩
  | share a b t ih => intro w; obtain ⟨p, r⟩ := ih w.2; exact ⟨times_bd p (fr_bd w.1), times_red p (fr_bd w.1)⟩
  | cond c t ih =>
    intro w
    obtain ⟨p, r⟩ := ih w.2
    have lo := kb_lo t
    show Bd (kb t) (if _ then _ else _) ∧ Red (if _ then _ else _)
    split
    · exact ⟨p, r⟩
    · exact ⟨bd_mono (int_bd (k := 40) (by decide) (by decide) (by decide)) lo, rfl⟩
  | both t u ih ih2 => intro w; obtain ⟨p, r⟩ := ih w.1; obtain ⟨p2, r2⟩ := ih2 w.2; exact ⟨plus_bd p p2, plus_red p p2⟩
  | rest t u ih ih2 => intro w; obtain ⟨p, r⟩ := ih w.1; obtain ⟨p2, r2⟩ := ih2 w.2; exact ⟨pos_bd (k := kb t + kb u + 1) (less_bd p p2) (by omega), pos_red (less_red p p2)⟩
  | least t u ih ih2 =>
    intro w; obtain ⟨p, r⟩ := ih w.1; obtain ⟨p2, r2⟩ := ih2 w.2
    show Bd (kb t + kb u) (if _ then _ else _) ∧ Red (if _ then _ else _)
    split
    · exact ⟨bd_mono p (by omega), r⟩
    · exact ⟨bd_mono p2 (by omega), r2⟩
  | most t u ih ih2 =>
    intro w; obtain ⟨p, r⟩ := ih w.1; obtain ⟨p2, r2⟩ := ih2 w.2
    show Bd (kb t + kb u) (if _ then _ else _) ∧ Red (if _ then _ else _)
    split
    · exact ⟨bd_mono p2 (by omega), r2⟩
    · exact ⟨bd_mono p (by omega), r⟩
/-- what a plain term pays: never less than nothing, never more than the loss -/
def LeF (x y : Fr) : Prop := x.1 * y.2 ≤ y.1 * x.2
theorem le_low {p q : Int} {y : Fr} (h0 : 0 < q) (h : p * y.2 ≤ y.1 * q) : LeF (low p q) y := by
  have r := low_ratio p q h0
  have bp : 0 < (low p q).2 := by
    have d2 : ((Nat.gcd p.natAbs q.natAbs : Nat) : Int) ∣ q := Int.ofNat_dvd_left.mpr (Nat.gcd_dvd_right _ _)
    exact Int.ediv_pos_of_pos_of_dvd h0 (Int.natCast_nonneg _) d2
  show (low p q).1 * y.2 ≤ y.1 * (low p q).2
  have h2 : (low p q).1 * y.2 * q ≤ y.1 * (low p q).2 * q := by
    have e1 : (low p q).1 * y.2 * q = p * y.2 * (low p q).2 := by
      rw [Int.mul_assoc, Int.mul_comm y.2 q, ← Int.mul_assoc, r, Int.mul_assoc, Int.mul_comm (low p q).2, ← Int.mul_assoc]
    have e2 : y.1 * (low p q).2 * q = y.1 * q * (low p q).2 := by rw [Int.mul_assoc, Int.mul_comm (low p q).2 q, ← Int.mul_assoc]
    rw [e1, e2]
    exact Int.mul_le_mul_of_nonneg_right h (by omega)
  exact Int.le_of_mul_le_mul_right h2 h0
end Cv.K02

set_option Elab.async false
set_option linter.all false
set_option maxRecDepth 100000
set_option maxHeartbeats 8000000
namespace Cv.K02
open PySem
theorem w_loss_loss : cmpP .eq (.str "loss") (.str "loss") = some true := by kernel_rfl
theorem w_loss_fixed : cmpP .eq (.str "loss") (.str "fixed") = some false := by kernel_rfl
theorem w_loss_when : cmpP .eq (.str "loss") (.str "when") = some false := by kernel_rfl
theorem w_loss_layer : cmpP .eq (.str "loss") (.str "layer") = some false := by kernel_rfl
theorem w_loss_share : cmpP .eq (.str "loss") (.str "share") = some false := by kernel_rfl
theorem w_loss_both : cmpP .eq (.str "loss") (.str "both") = some false := by kernel_rfl
theorem w_loss_rest : cmpP .eq (.str "loss") (.str "rest") = some false := by kernel_rfl
theorem w_loss_least : cmpP .eq (.str "loss") (.str "least") = some false := by kernel_rfl
theorem w_fixed_loss : cmpP .eq (.str "fixed") (.str "loss") = some false := by kernel_rfl
theorem w_fixed_fixed : cmpP .eq (.str "fixed") (.str "fixed") = some true := by kernel_rfl
theorem w_fixed_when : cmpP .eq (.str "fixed") (.str "when") = some false := by kernel_rfl
theorem w_fixed_layer : cmpP .eq (.str "fixed") (.str "layer") = some false := by kernel_rfl
theorem w_fixed_share : cmpP .eq (.str "fixed") (.str "share") = some false := by kernel_rfl
theorem w_fixed_both : cmpP .eq (.str "fixed") (.str "both") = some false := by kernel_rfl
theorem w_fixed_rest : cmpP .eq (.str "fixed") (.str "rest") = some false := by kernel_rfl
theorem w_fixed_least : cmpP .eq (.str "fixed") (.str "least") = some false := by kernel_rfl
theorem w_layer_loss : cmpP .eq (.str "layer") (.str "loss") = some false := by kernel_rfl
theorem w_layer_fixed : cmpP .eq (.str "layer") (.str "fixed") = some false := by kernel_rfl
theorem w_layer_when : cmpP .eq (.str "layer") (.str "when") = some false := by kernel_rfl
theorem w_layer_layer : cmpP .eq (.str "layer") (.str "layer") = some true := by kernel_rfl
theorem w_layer_share : cmpP .eq (.str "layer") (.str "share") = some false := by kernel_rfl
theorem w_layer_both : cmpP .eq (.str "layer") (.str "both") = some false := by kernel_rfl
theorem w_layer_rest : cmpP .eq (.str "layer") (.str "rest") = some false := by kernel_rfl
theorem w_layer_least : cmpP .eq (.str "layer") (.str "least") = some false := by kernel_rfl
theorem w_share_loss : cmpP .eq (.str "share") (.str "loss") = some false := by kernel_rfl
theorem w_share_fixed : cmpP .eq (.str "share") (.str "fixed") = some false := by kernel_rfl
theorem w_share_when : cmpP .eq (.str "share") (.str "when") = some false := by kernel_rfl
theorem w_share_layer : cmpP .eq (.str "share") (.str "layer") = some false := by kernel_rfl
theorem w_share_share : cmpP .eq (.str "share") (.str "share") = some true := by kernel_rfl
theorem w_share_both : cmpP .eq (.str "share") (.str "both") = some false := by kernel_rfl
theorem w_share_rest : cmpP .eq (.str "share") (.str "rest") = some false := by kernel_rfl
theorem w_share_least : cmpP .eq (.str "share") (.str "least") = some false := by kernel_rfl
theorem w_when_loss : cmpP .eq (.str "when") (.str "loss") = some false := by kernel_rfl
theorem w_when_fixed : cmpP .eq (.str "when") (.str "fixed") = some false := by kernel_rfl
theorem w_when_when : cmpP .eq (.str "when") (.str "when") = some true := by kernel_rfl
theorem w_when_layer : cmpP .eq (.str "when") (.str "layer") = some false := by kernel_rfl
theorem w_when_share : cmpP .eq (.str "when") (.str "share") = some false := by kernel_rfl
theorem w_when_both : cmpP .eq (.str "when") (.str "both") = some false := by kernel_rfl
theorem w_when_rest : cmpP .eq (.str "when") (.str "rest") = some false := by kernel_rfl
theorem w_when_least : cmpP .eq (.str "when") (.str "least") = some false := by kernel_rfl
theorem w_both_loss : cmpP .eq (.str "both") (.str "loss") = some false := by kernel_rfl
theorem w_both_fixed : cmpP .eq (.str "both") (.str "fixed") = some false := by kernel_rfl
theorem w_both_when : cmpP .eq (.str "both") (.str "when") = some false := by kernel_rfl
theorem w_both_layer : cmpP .eq (.str "both") (.str "layer") = some false := by kernel_rfl
theorem w_both_share : cmpP .eq (.str "both") (.str "share") = some false := by kernel_rfl
theorem w_both_both : cmpP .eq (.str "both") (.str "both") = some true := by kernel_rfl
theorem w_both_rest : cmpP .eq (.str "both") (.str "rest") = some false := by kernel_rfl
theorem w_both_least : cmpP .eq (.str "both") (.str "least") = some false := by kernel_rfl
theorem w_rest_loss : cmpP .eq (.str "rest") (.str "loss") = some false := by kernel_rfl
theorem w_rest_fixed : cmpP .eq (.str "rest") (.str "fixed") = some false := by kernel_rfl
theorem w_rest_when : cmpP .eq (.str "rest") (.str "when") = some false := by kernel_rfl
theorem w_rest_layer : cmpP .eq (.str "rest") (.str "layer") = some false := by kernel_rfl
theorem w_rest_share : cmpP .eq (.str "rest") (.str "share") = some false := by kernel_rfl
theorem w_rest_both : cmpP .eq (.str "rest") (.str "both") = some false := by kernel_rfl
theorem w_rest_rest : cmpP .eq (.str "rest") (.str "rest") = some true := by kernel_rfl
theorem w_rest_least : cmpP .eq (.str "rest") (.str "least") = some false := by kernel_rfl
theorem w_least_loss : cmpP .eq (.str "least") (.str "loss") = some false := by kernel_rfl
theorem w_least_fixed : cmpP .eq (.str "least") (.str "fixed") = some false := by kernel_rfl
theorem w_least_when : cmpP .eq (.str "least") (.str "when") = some false := by kernel_rfl
theorem w_least_layer : cmpP .eq (.str "least") (.str "layer") = some false := by kernel_rfl
theorem w_least_share : cmpP .eq (.str "least") (.str "share") = some false := by kernel_rfl
theorem w_least_both : cmpP .eq (.str "least") (.str "both") = some false := by kernel_rfl
theorem w_least_rest : cmpP .eq (.str "least") (.str "rest") = some false := by kernel_rfl
theorem w_least_least : cmpP .eq (.str "least") (.str "least") = some true := by kernel_rfl
theorem w_most_loss : cmpP .eq (.str "most") (.str "loss") = some false := by kernel_rfl
theorem w_most_fixed : cmpP .eq (.str "most") (.str "fixed") = some false := by kernel_rfl
theorem w_most_when : cmpP .eq (.str "most") (.str "when") = some false := by kernel_rfl
theorem w_most_layer : cmpP .eq (.str "most") (.str "layer") = some false := by kernel_rfl
theorem w_most_share : cmpP .eq (.str "most") (.str "share") = some false := by kernel_rfl
theorem w_most_both : cmpP .eq (.str "most") (.str "both") = some false := by kernel_rfl
theorem w_most_rest : cmpP .eq (.str "most") (.str "rest") = some false := by kernel_rfl
theorem w_most_least : cmpP .eq (.str "most") (.str "least") = some false := by kernel_rfl
theorem q_paid (x : Fr) (ms : List PV) (day : Int) (hx : Bd 40 x) (rx : Red x) (hm : datL 60 ms = true) : ∀ (t : Trm) (d : Nat) (st : Sto), twf t → tdp t + 8 < d ∧ tdp t ≤ 4 → runP TT d 23 [tenc t, fr x, .tup ms, .int day] st = .ok (fr (payT x ms day t)) st := by
  intro t
  induction t with
  | loss | fixed =>
    intro d st w hd
    obtain ⟨d, rfl⟩ : ∃ m, d = m + 1 := ⟨d - 1, by omega⟩
    simp only [tdp] at hd
    kernel_rfl
  | layer l h t ih =>
    intro d st w hd
    obtain ⟨d, rfl⟩ : ∃ m, d = m + 1 := ⟨d - 1, by omega⟩
    simp only [tdp] at hd
    have b := (pay_ok x ms day hx rx t w.2).1
    have k4 := kb_4 (t := t) (by omega)
    rw [st_run (D := D37) rfl rfl]
    have e0 : newEnv D37.nl [tenc (.layer l h t), fr x, .tup ms, .int day] = [.val (tenc (.layer l h t)), .val (fr x), .val (.tup ms), .val (.int day), .no, .no, .no, .no] := rfl
    rw [e0]
    conv => lhs; whnf
    rw [w_layer_loss]
    try simp only [frz, frzAll, wipeS, backS, getS, setS, mkSlot_f]
    conv => lhs; whnf
    rw [w_layer_fixed]
    try simp only [frz, frzAll, wipeS, backS, getS, setS, mkSlot_f]
    conv => lhs; whnf
    rw [w_layer_when]
    try simp only [frz, frzAll, wipeS, backS, getS, setS, mkSlot_f]
    conv => lhs; whnf
    rw [q_within _ d (by omega)]
    try simp only [frz, frzAll, wipeS, backS, getS, setS, mkSlot_f]
    conv => lhs; whnf
    rw [nox (ih d _ w.2 (by omega))]
    try simp only [frz, frzAll, wipeS, backS, getS, setS, mkSlot_f]
    conv => lhs; whnf
    rw [w_layer_layer]
    try simp only [frz, frzAll, wipeS, backS, getS, setS, mkSlot_f]
    conv => lhs; whnf
    rw [q_between b (by omega) l h w.1.1 w.1.2.1 w.1.2.2 d (by omega)]
    try simp only [frz, frzAll, wipeS, backS, getS, setS, mkSlot_f]
    kernel_rfl
  | share p q t ih =>
    intro d st w hd
    obtain ⟨d, rfl⟩ : ∃ m, d = m + 1 := ⟨d - 1, by omega⟩
    simp only [tdp] at hd
    have b := (pay_ok x ms day hx rx t w.2).1
    have k4 := kb_4 (t := t) (by omega)
    have e : runP TT d 8 [fr (payT x ms day t), .tup [.int p, .int q]] st = .ok (fr (timesF (payT x ms day t) (p, q))) st := q_times b (fr_bd w.1) (by omega) d (by omega) st
    rw [st_run (D := D37) rfl rfl]
    have e0 : newEnv D37.nl [tenc (.share p q t), fr x, .tup ms, .int day] = [.val (tenc (.share p q t)), .val (fr x), .val (.tup ms), .val (.int day), .no, .no, .no, .no] := rfl
    rw [e0]
    conv => lhs; whnf
    rw [w_share_loss]
    try simp only [frz, frzAll, wipeS, backS, getS, setS, mkSlot_f]
    conv => lhs; whnf
    rw [w_share_fixed]
    try simp only [frz, frzAll, wipeS, backS, getS, setS, mkSlot_f]
    conv => lhs; whnf
    rw [w_share_when]
    try simp only [frz, frzAll, wipeS, backS, getS, setS, mkSlot_f]
    conv => lhs; whnf
    rw [q_within _ d (by omega)]
    try simp only [frz, frzAll, wipeS, backS, getS, setS, mkSlot_f]
    conv => lhs; whnf
    rw [nox (ih d _ w.2 (by omega))]
    try simp only [frz, frzAll, wipeS, backS, getS, setS, mkSlot_f]
    conv => lhs; whnf
    rw [w_share_layer]
    try simp only [frz, frzAll, wipeS, backS, getS, setS, mkSlot_f]
    conv => lhs; whnf
    rw [w_share_share]
    try simp only [frz, frzAll, wipeS, backS, getS, setS, mkSlot_f]
    conv => lhs; whnf
    rw [e]
    try simp only [frz, frzAll, wipeS, backS, getS, setS, mkSlot_f]
    kernel_rfl
  | cond c t ih =>
    intro d st w hd
    obtain ⟨d, rfl⟩ : ∃ m, d = m + 1 := ⟨d - 1, by omega⟩
    simp only [tdp] at hd
    have hc := q_holds ms hm day c d st (by have := w.1.2; omega)
    show _ = Res.ok (fr (if hold ms day c then payT x ms day t else (0, 1))) st
    rw [st_run (D := D37) rfl rfl]
    have e0 : newEnv D37.nl [tenc (.cond c t), fr x, .tup ms, .int day] = [.val (tenc (.cond c t)), .val (fr x), .val (.tup ms), .val (.int day), .no, .no, .no, .no] := rfl
    rw [e0]
    conv => lhs; whnf
    rw [w_when_loss]
    try simp only [frz, frzAll, wipeS, backS, getS, setS, mkSlot_f]
    conv => lhs; whnf
    rw [w_when_fixed]
    try simp only [frz, frzAll, wipeS, backS, getS, setS, mkSlot_f]
    conv => lhs; whnf
    rw [w_when_when]
    try simp only [frz, frzAll, wipeS, backS, getS, setS, mkSlot_f]
    conv => lhs; whnf
    rw [hc]
    try simp only [frz, frzAll, wipeS, backS, getS, setS, mkSlot_f]
    cases hold ms day c with
    | false => kernel_rfl
    | true =>
      conv => lhs; whnf
      rw [q_within _ d (by omega)]
      try simp only [frz, frzAll, wipeS, backS, getS, setS, mkSlot_f]
      conv => lhs; whnf
      rw [nox (ih d _ w.2 (by omega))]
      try simp only [frz, frzAll, wipeS, backS, getS, setS, mkSlot_f]
      conv => lhs; whnf
      rw [w_when_layer]
      try simp only [frz, frzAll, wipeS, backS, getS, setS, mkSlot_f]
      conv => lhs; whnf
      rw [w_when_share]
      try simp only [frz, frzAll, wipeS, backS, getS, setS, mkSlot_f]
      conv => lhs; whnf
      rw [w_when_when]
      try simp only [frz, frzAll, wipeS, backS, getS, setS, mkSlot_f]
      kernel_rfl
  | both t u ih ih2 =>
    intro d st w hd
    obtain ⟨d, rfl⟩ : ∃ m, d = m + 1 := ⟨d - 1, by omega⟩
    simp only [tdp] at hd
    have b := (pay_ok x ms day hx rx t w.1).1
    have b2 := (pay_ok x ms day hx rx u w.2).1
    have k4 := kb_4 (t := t) (by omega)
    have k5 := kb_4 (t := u) (by omega)
    rw [st_run (D := D37) rfl rfl]
    have e0 : newEnv D37.nl [tenc (.both t u), fr x, .tup ms, .int day] = [.val (tenc (.both t u)), .val (fr x), .val (.tup ms), .val (.int day), .no, .no, .no, .no] := rfl
    rw [e0]
    conv => lhs; whnf
    rw [w_both_loss]
    try simp only [frz, frzAll, wipeS, backS, getS, setS, mkSlot_f]
    conv => lhs; whnf
    rw [w_both_fixed]
    try simp only [frz, frzAll, wipeS, backS, getS, setS, mkSlot_f]
    conv => lhs; whnf
    rw [w_both_when]
    try simp only [frz, frzAll, wipeS, backS, getS, setS, mkSlot_f]
    conv => lhs; whnf
    rw [q_within _ d (by omega)]
    try simp only [frz, frzAll, wipeS, backS, getS, setS, mkSlot_f]
    conv => lhs; whnf
    rw [nox (ih d _ w.1 (by omega))]
    try simp only [frz, frzAll, wipeS, backS, getS, setS, mkSlot_f]
    conv => lhs; whnf
    rw [nox (ih2 d _ w.2 (by omega))]
    try simp only [frz, frzAll, wipeS, backS, getS, setS, mkSlot_f]
    conv => lhs; whnf
    rw [w_both_layer]
    try simp only [frz, frzAll, wipeS, backS, getS, setS, mkSlot_f]
    conv => lhs; whnf
    rw [w_both_share]
    try simp only [frz, frzAll, wipeS, backS, getS, setS, mkSlot_f]
    conv => lhs; whnf
    rw [w_both_when]
    try simp only [frz, frzAll, wipeS, backS, getS, setS, mkSlot_f]
    conv => lhs; whnf
    rw [w_both_both]
    try simp only [frz, frzAll, wipeS, backS, getS, setS, mkSlot_f]
    conv => lhs; whnf
    rw [q_plus b b2 (by omega) d (by omega)]
    try simp only [frz, frzAll, wipeS, backS, getS, setS, mkSlot_f]
    kernel_rfl
  | rest t u ih ih2 =>
    intro d st w hd
    obtain ⟨d, rfl⟩ : ∃ m, d = m + 1 := ⟨d - 1, by omega⟩
    simp only [tdp] at hd
    have b := (pay_ok x ms day hx rx t w.1).1
    have b2 := (pay_ok x ms day hx rx u w.2).1
    have k4 := kb_4 (t := t) (by omega)
    have k5 := kb_4 (t := u) (by omega)
    rw [st_run (D := D37) rfl rfl]
    have e0 : newEnv D37.nl [tenc (.rest t u), fr x, .tup ms, .int day] = [.val (tenc (.rest t u)), .val (fr x), .val (.tup ms), .val (.int day), .no, .no, .no, .no] := rfl
    rw [e0]
    conv => lhs; whnf
    rw [w_rest_loss]
    try simp only [frz, frzAll, wipeS, backS, getS, setS, mkSlot_f]
    conv => lhs; whnf
    rw [w_rest_fixed]
    try simp only [frz, frzAll, wipeS, backS, getS, setS, mkSlot_f]
    conv => lhs; whnf
    rw [w_rest_when]
    try simp only [frz, frzAll, wipeS, backS, getS, setS, mkSlot_f]
    conv => lhs; whnf
    rw [q_within _ d (by omega)]
    try simp only [frz, frzAll, wipeS, backS, getS, setS, mkSlot_f]
    conv => lhs; whnf
    rw [nox (ih d _ w.1 (by omega))]
    try simp only [frz, frzAll, wipeS, backS, getS, setS, mkSlot_f]
    conv => lhs; whnf
    rw [nox (ih2 d _ w.2 (by omega))]
    try simp only [frz, frzAll, wipeS, backS, getS, setS, mkSlot_f]
    conv => lhs; whnf
    rw [w_rest_layer]
    try simp only [frz, frzAll, wipeS, backS, getS, setS, mkSlot_f]
    conv => lhs; whnf
    rw [w_rest_share]
    try simp only [frz, frzAll, wipeS, backS, getS, setS, mkSlot_f]
    conv => lhs; whnf
    rw [w_rest_when]
    try simp only [frz, frzAll, wipeS, backS, getS, setS, mkSlot_f]
    conv => lhs; whnf
    rw [w_rest_both]
    try simp only [frz, frzAll, wipeS, backS, getS, setS, mkSlot_f]
    conv => lhs; whnf
    rw [w_rest_rest]
    try simp only [frz, frzAll, wipeS, backS, getS, setS, mkSlot_f]
    conv => lhs; whnf
    rw [q_less b b2 (by omega) d (by omega)]
    try simp only [frz, frzAll, wipeS, backS, getS, setS, mkSlot_f]
    conv => lhs; whnf
    rw [q_notbelow _ d (by omega)]
    try simp only [frz, frzAll, wipeS, backS, getS, setS, mkSlot_f]
    kernel_rfl
  | least t u ih ih2 =>
    intro d st w hd
    obtain ⟨d, rfl⟩ : ∃ m, d = m + 1 := ⟨d - 1, by omega⟩
    simp only [tdp] at hd
    have b := (pay_ok x ms day hx rx t w.1).1
    have b2 := (pay_ok x ms day hx rx u w.2).1
    have k4 := kb_4 (t := t) (by omega)
    have k5 := kb_4 (t := u) (by omega)
    show _ = Res.ok (fr (if ltF (payT x ms day t) (payT x ms day u) then payT x ms day t else payT x ms day u)) st
    rw [st_run (D := D37) rfl rfl]
    have e0 : newEnv D37.nl [tenc (.least t u), fr x, .tup ms, .int day] = [.val (tenc (.least t u)), .val (fr x), .val (.tup ms), .val (.int day), .no, .no, .no, .no] := rfl
    rw [e0]
    conv => lhs; whnf
    rw [w_least_loss]
    try simp only [frz, frzAll, wipeS, backS, getS, setS, mkSlot_f]
    conv => lhs; whnf
    rw [w_least_fixed]
    try simp only [frz, frzAll, wipeS, backS, getS, setS, mkSlot_f]
    conv => lhs; whnf
    rw [w_least_when]
    try simp only [frz, frzAll, wipeS, backS, getS, setS, mkSlot_f]
    conv => lhs; whnf
    rw [q_within _ d (by omega)]
    try simp only [frz, frzAll, wipeS, backS, getS, setS, mkSlot_f]
    conv => lhs; whnf
    rw [nox (ih d _ w.1 (by omega))]
    try simp only [frz, frzAll, wipeS, backS, getS, setS, mkSlot_f]
    conv => lhs; whnf
    rw [nox (ih2 d _ w.2 (by omega))]
    try simp only [frz, frzAll, wipeS, backS, getS, setS, mkSlot_f]
    conv => lhs; whnf
    rw [w_least_layer]
    try simp only [frz, frzAll, wipeS, backS, getS, setS, mkSlot_f]
    conv => lhs; whnf
    rw [w_least_share]
    try simp only [frz, frzAll, wipeS, backS, getS, setS, mkSlot_f]
    conv => lhs; whnf
    rw [w_least_when]
    try simp only [frz, frzAll, wipeS, backS, getS, setS, mkSlot_f]
    conv => lhs; whnf
    rw [w_least_both]
    try simp only [frz, frzAll, wipeS, backS, getS, setS, mkSlot_f]
    conv => lhs; whnf
    rw [w_least_rest]
    try simp only [frz, frzAll, wipeS, backS, getS, setS, mkSlot_f]
    conv => lhs; whnf
    rw [q_isless b b2 (by omega) d (by omega)]
    try simp only [frz, frzAll, wipeS, backS, getS, setS, mkSlot_f]
    conv => lhs; whnf
    rw [w_least_least]
    try simp only [frz, frzAll, wipeS, backS, getS, setS, mkSlot_f]
    cases ltF (payT x ms day t) (payT x ms day u) <;> kernel_rfl
  | most t u ih ih2 =>
    intro d st w hd
    obtain ⟨d, rfl⟩ : ∃ m, d = m + 1 := ⟨d - 1, by omega⟩
    simp only [tdp] at hd
    have b := (pay_ok x ms day hx rx t w.1).1
    have b2 := (pay_ok x ms day hx rx u w.2).1
    have k4 := kb_4 (t := t) (by omega)
    have k5 := kb_4 (t := u) (by omega)
    show _ = Res.ok (fr (if ltF (payT x ms day t) (payT x ms day u) then payT x ms day u else payT x ms day t)) st
    rw [st_run (D := D37) rfl rfl]
    have e0 : newEnv D37.nl [tenc (.most t u), fr x, .tup ms, .int day] = [.val (tenc (.most t u)), .val (fr x), .val (.tup ms), .val (.int day), .no, .no, .no, .no] := rfl
    rw [e0]
    conv => lhs; whnf
    rw [w_most_loss]
    try simp only [frz, frzAll, wipeS, backS, getS, setS, mkSlot_f]
    conv => lhs; whnf
    rw [w_most_fixed]
    try simp only [frz, frzAll, wipeS, backS, getS, setS, mkSlot_f]
    conv => lhs; whnf
    rw [w_most_when]
    try simp only [frz, frzAll, wipeS, backS, getS, setS, mkSlot_f]
    conv => lhs; whnf
    rw [q_within _ d (by omega)]
    try simp only [frz, frzAll, wipeS, backS, getS, setS, mkSlot_f]
    conv => lhs; whnf
    rw [nox (ih d _ w.1 (by omega))]
    try simp only [frz, frzAll, wipeS, backS, getS, setS, mkSlot_f]
    conv => lhs; whnf
    rw [nox (ih2 d _ w.2 (by omega))]
    try simp only [frz, frzAll, wipeS, backS, getS, setS, mkSlot_f]
    conv => lhs; whnf
    rw [w_most_layer]
    try simp only [frz, frzAll, wipeS, backS, getS, setS, mkSlot_f]
    conv => lhs; whnf
    rw [w_most_share]
    try simp only [frz, frzAll, wipeS, backS, getS, setS, mkSlot_f]
    conv => lhs; whnf
    rw [w_most_when]
    try simp only [frz, frzAll, wipeS, backS, getS, setS, mkSlot_f]
    conv => lhs; whnf
    rw [w_most_both]
    try simp only [frz, frzAll, wipeS, backS, getS, setS, mkSlot_f]
    conv => lhs; whnf
    rw [w_most_rest]
    try simp only [frz, frzAll, wipeS, backS, getS, setS, mkSlot_f]
    conv => lhs; whnf
    rw [q_isless b b2 (by omega) d (by omega)]
    try simp only [frz, frzAll, wipeS, backS, getS, setS, mkSlot_f]
    conv => lhs; whnf
    rw [w_most_least]
    try simp only [frz, frzAll, wipeS, backS, getS, setS, mkSlot_f]
    cases ltF (payT x ms day t) (payT x ms day u) <;> kernel_rfl
end Cv.K02

set_option Elab.async false
set_option linter.all false
set_option maxRecDepth 100000
set_option maxHeartbeats 8000000
namespace Cv.K02
open PySem
theorem q_lpays (x : Fr) (ms : List PV) (day : Int) (hx : Bd 40 x) (rx : Red x) (hm : datL 60 ms = true) : ∀ (t : Trm) (d : Nat) (st : Sto), twf t → tdp t + 8 < d ∧ tdp t ≤ 4 → runP TT d 42 [tenc t, fr x, .tup ms, .int day] st = .ok (fr (payT x ms day t)) st := by
  intro t
  induction t with
  | loss | fixed =>
    intro d st w hd
    obtain ⟨d, rfl⟩ : ∃ m, d = m + 1 := ⟨d - 1, by omega⟩
    simp only [tdp] at hd
    kernel_rfl
  | layer l h t ih =>
    intro d st w hd
    obtain ⟨d, rfl⟩ : ∃ m, d = m + 1 := ⟨d - 1, by omega⟩
    simp only [tdp] at hd
    have b := (pay_ok x ms day hx rx t w.2).1
    have k4 := kb_4 (t := t) (by omega)
    rw [st_run (D := D58) rfl rfl]
    have e0 : newEnv D58.nl [tenc (.layer l h t), fr x, .tup ms, .int day] = [.val (tenc (.layer l h t)), .val (fr x), .val (.tup ms), .val (.int day), .no, .no, .no] := rfl
    rw [e0]
    conv => lhs; whnf
    rw [w_layer_loss]
    try simp only [frz, frzAll, wipeS, backS, getS, setS, mkSlot_f]
    conv => lhs; whnf
    rw [w_layer_fixed]
    try simp only [frz, frzAll, wipeS, backS, getS, setS, mkSlot_f]
    conv => lhs; whnf
    rw [w_layer_when]
    try simp only [frz, frzAll, wipeS, backS, getS, setS, mkSlot_f]
    conv => lhs; whnf
    rw [q_inner _ d (by omega)]
    try simp only [frz, frzAll, wipeS, backS, getS, setS, mkSlot_f]
    conv => lhs; whnf
    rw [nox (ih d _ w.2 (by omega))]
    try simp only [frz, frzAll, wipeS, backS, getS, setS, mkSlot_f]
    conv => lhs; whnf
    rw [w_layer_layer]
    try simp only [frz, frzAll, wipeS, backS, getS, setS, mkSlot_f]
    conv => lhs; whnf
    rw [q_lbetween b (by omega) l h w.1.1 w.1.2.1 w.1.2.2 d (by omega)]
    try simp only [frz, frzAll, wipeS, backS, getS, setS, mkSlot_f]
    kernel_rfl
  | share p q t ih =>
    intro d st w hd
    obtain ⟨d, rfl⟩ : ∃ m, d = m + 1 := ⟨d - 1, by omega⟩
    simp only [tdp] at hd
    have b := (pay_ok x ms day hx rx t w.2).1
    have k4 := kb_4 (t := t) (by omega)
    have fb := fr_bd w.1
    have dl := den_lt b fb
    rw [st_run (D := D58) rfl rfl]
    have e0 : newEnv D58.nl [tenc (.share p q t), fr x, .tup ms, .int day] = [.val (tenc (.share p q t)), .val (fr x), .val (.tup ms), .val (.int day), .no, .no, .no] := rfl
    rw [e0]
    conv => lhs; whnf
    rw [w_share_loss]
    try simp only [frz, frzAll, wipeS, backS, getS, setS, mkSlot_f]
    conv => lhs; whnf
    rw [w_share_fixed]
    try simp only [frz, frzAll, wipeS, backS, getS, setS, mkSlot_f]
    conv => lhs; whnf
    rw [w_share_when]
    try simp only [frz, frzAll, wipeS, backS, getS, setS, mkSlot_f]
    conv => lhs; whnf
    rw [q_inner _ d (by omega)]
    try simp only [frz, frzAll, wipeS, backS, getS, setS, mkSlot_f]
    conv => lhs; whnf
    rw [nox (ih d _ w.2 (by omega))]
    try simp only [frz, frzAll, wipeS, backS, getS, setS, mkSlot_f]
    conv => lhs; whnf
    rw [w_share_layer]
    try simp only [frz, frzAll, wipeS, backS, getS, setS, mkSlot_f]
    conv => lhs; whnf
    rw [w_share_share]
    try simp only [frz, frzAll, wipeS, backS, getS, setS, mkSlot_f]
    conv => lhs; whnf
    rw [mul_int (mulOk_of b.1 fb.1 (by omega))]
    try simp only [frz, frzAll, wipeS, backS, getS, setS, mkSlot_f]
    conv => lhs; whnf
    rw [mul_int (mulOk_of (bd2 b) (bd2 fb) (by omega))]
    try simp only [frz, frzAll, wipeS, backS, getS, setS, mkSlot_f]
    conv => lhs; whnf
    rw [q_lawlow ((payT x ms day t).1 * p) ((payT x ms day t).2 * q) (kb t + 40) dl.1 dl.2 (by omega) d (by omega)]
    try simp only [frz, frzAll, wipeS, backS, getS, setS, mkSlot_f]
    kernel_rfl
  | cond c t ih =>
    intro d st w hd
    obtain ⟨d, rfl⟩ : ∃ m, d = m + 1 := ⟨d - 1, by omega⟩
    simp only [tdp] at hd
    have hc := q_lholds ms hm day c d st (by have := w.1.2; omega)
    show _ = Res.ok (fr (if hold ms day c then payT x ms day t else (0, 1))) st
    rw [st_run (D := D58) rfl rfl]
    have e0 : newEnv D58.nl [tenc (.cond c t), fr x, .tup ms, .int day] = [.val (tenc (.cond c t)), .val (fr x), .val (.tup ms), .val (.int day), .no, .no, .no] := rfl
    rw [e0]
    conv => lhs; whnf
    rw [w_when_loss]
    try simp only [frz, frzAll, wipeS, backS, getS, setS, mkSlot_f]
    conv => lhs; whnf
    rw [w_when_fixed]
    try simp only [frz, frzAll, wipeS, backS, getS, setS, mkSlot_f]
    conv => lhs; whnf
    rw [w_when_when]
    try simp only [frz, frzAll, wipeS, backS, getS, setS, mkSlot_f]
    conv => lhs; whnf
    rw [hc]
    try simp only [frz, frzAll, wipeS, backS, getS, setS, mkSlot_f]
    cases hold ms day c with
    | false => kernel_rfl
    | true =>
      conv => lhs; whnf
      rw [ih d _ w.2 (by omega)]
      try simp only [frz, frzAll, wipeS, backS, getS, setS, mkSlot_f]
      kernel_rfl
  | both t u ih ih2 =>
    intro d st w hd
    obtain ⟨d, rfl⟩ : ∃ m, d = m + 1 := ⟨d - 1, by omega⟩
    simp only [tdp] at hd
    have b := (pay_ok x ms day hx rx t w.1).1
    have b2 := (pay_ok x ms day hx rx u w.2).1
    have k4 := kb_4 (t := t) (by omega)
    have k5 := kb_4 (t := u) (by omega)
    rw [st_run (D := D58) rfl rfl]
    have e0 : newEnv D58.nl [tenc (.both t u), fr x, .tup ms, .int day] = [.val (tenc (.both t u)), .val (fr x), .val (.tup ms), .val (.int day), .no, .no, .no] := rfl
    rw [e0]
    conv => lhs; whnf
    rw [w_both_loss]
    try simp only [frz, frzAll, wipeS, backS, getS, setS, mkSlot_f]
    conv => lhs; whnf
    rw [w_both_fixed]
    try simp only [frz, frzAll, wipeS, backS, getS, setS, mkSlot_f]
    conv => lhs; whnf
    rw [w_both_when]
    try simp only [frz, frzAll, wipeS, backS, getS, setS, mkSlot_f]
    conv => lhs; whnf
    rw [q_inner _ d (by omega)]
    try simp only [frz, frzAll, wipeS, backS, getS, setS, mkSlot_f]
    conv => lhs; whnf
    rw [nox (ih d _ w.1 (by omega))]
    try simp only [frz, frzAll, wipeS, backS, getS, setS, mkSlot_f]
    conv => lhs; whnf
    rw [nox (ih2 d _ w.2 (by omega))]
    try simp only [frz, frzAll, wipeS, backS, getS, setS, mkSlot_f]
    conv => lhs; whnf
    rw [w_both_layer]
    try simp only [frz, frzAll, wipeS, backS, getS, setS, mkSlot_f]
    conv => lhs; whnf
    rw [w_both_share]
    try simp only [frz, frzAll, wipeS, backS, getS, setS, mkSlot_f]
    conv => lhs; whnf
    rw [w_both_both]
    try simp only [frz, frzAll, wipeS, backS, getS, setS, mkSlot_f]
    conv => lhs; whnf
    rw [q_lplus b b2 (by omega) d (by omega)]
    try simp only [frz, frzAll, wipeS, backS, getS, setS, mkSlot_f]
    kernel_rfl
  | rest t u ih ih2 =>
    intro d st w hd
    obtain ⟨d, rfl⟩ : ∃ m, d = m + 1 := ⟨d - 1, by omega⟩
    simp only [tdp] at hd
    have b := (pay_ok x ms day hx rx t w.1).1
    have b2 := (pay_ok x ms day hx rx u w.2).1
    have k4 := kb_4 (t := t) (by omega)
    have k5 := kb_4 (t := u) (by omega)
    have lb := less_bd b b2
    have lr := less_red b b2
    have k6 : kb t + kb u + 1 ≤ 1400 := kb_4 (t := .rest t u) (by show max (tdp t) (tdp u) + 1 ≤ 4; omega)
    have e : runP TT d 39 [fr (lessF (payT x ms day t) (payT x ms day u)), .int 0, .non] st = .ok (fr (posF (lessF (payT x ms day t) (payT x ms day u)))) st := by
      have := q_lbetween lb (by omega) 0 none (by decide) (by decide) (fun z hz => by cases hz) d (by omega) st
      rw [btw_rest lr] at this
      exact this
    rw [st_run (D := D58) rfl rfl]
    have e0 : newEnv D58.nl [tenc (.rest t u), fr x, .tup ms, .int day] = [.val (tenc (.rest t u)), .val (fr x), .val (.tup ms), .val (.int day), .no, .no, .no] := rfl
    rw [e0]
    conv => lhs; whnf
    rw [w_rest_loss]
    try simp only [frz, frzAll, wipeS, backS, getS, setS, mkSlot_f]
    conv => lhs; whnf
    rw [w_rest_fixed]
    try simp only [frz, frzAll, wipeS, backS, getS, setS, mkSlot_f]
    conv => lhs; whnf
    rw [w_rest_when]
    try simp only [frz, frzAll, wipeS, backS, getS, setS, mkSlot_f]
    conv => lhs; whnf
    rw [q_inner _ d (by omega)]
    try simp only [frz, frzAll, wipeS, backS, getS, setS, mkSlot_f]
    conv => lhs; whnf
    rw [nox (ih d _ w.1 (by omega))]
    try simp only [frz, frzAll, wipeS, backS, getS, setS, mkSlot_f]
    conv => lhs; whnf
    rw [nox (ih2 d _ w.2 (by omega))]
    try simp only [frz, frzAll, wipeS, backS, getS, setS, mkSlot_f]
    conv => lhs; whnf
    rw [w_rest_layer]
    try simp only [frz, frzAll, wipeS, backS, getS, setS, mkSlot_f]
    conv => lhs; whnf
    rw [w_rest_share]
    try simp only [frz, frzAll, wipeS, backS, getS, setS, mkSlot_f]
    conv => lhs; whnf
    rw [w_rest_both]
    try simp only [frz, frzAll, wipeS, backS, getS, setS, mkSlot_f]
    conv => lhs; whnf
    rw [w_rest_rest]
    try simp only [frz, frzAll, wipeS, backS, getS, setS, mkSlot_f]
    conv => lhs; whnf
    rw [q_lless b b2 (by omega) d (by omega)]
    try simp only [frz, frzAll, wipeS, backS, getS, setS, mkSlot_f]
    conv => lhs; whnf
    rw [e]
    try simp only [frz, frzAll, wipeS, backS, getS, setS, mkSlot_f]
    kernel_rfl
  | least t u ih ih2 =>
    intro d st w hd
    obtain ⟨d, rfl⟩ : ∃ m, d = m + 1 := ⟨d - 1, by omega⟩
    simp only [tdp] at hd
    have b := (pay_ok x ms day hx rx t w.1).1
    have b2 := (pay_ok x ms day hx rx u w.2).1
    have k4 := kb_4 (t := t) (by omega)
    have k5 := kb_4 (t := u) (by omega)
    show _ = Res.ok (fr (if ltF (payT x ms day t) (payT x ms day u) then payT x ms day t else payT x ms day u)) st
    rw [st_run (D := D58) rfl rfl]
    have e0 : newEnv D58.nl [tenc (.least t u), fr x, .tup ms, .int day] = [.val (tenc (.least t u)), .val (fr x), .val (.tup ms), .val (.int day), .no, .no, .no] := rfl
    rw [e0]
    conv => lhs; whnf
    rw [w_least_loss]
    try simp only [frz, frzAll, wipeS, backS, getS, setS, mkSlot_f]
    conv => lhs; whnf
    rw [w_least_fixed]
    try simp only [frz, frzAll, wipeS, backS, getS, setS, mkSlot_f]
    conv => lhs; whnf
    rw [w_least_when]
    try simp only [frz, frzAll, wipeS, backS, getS, setS, mkSlot_f]
    conv => lhs; whnf
    rw [q_inner _ d (by omega)]
    try simp only [frz, frzAll, wipeS, backS, getS, setS, mkSlot_f]
    conv => lhs; whnf
    rw [nox (ih d _ w.1 (by omega))]
    try simp only [frz, frzAll, wipeS, backS, getS, setS, mkSlot_f]
    conv => lhs; whnf
    rw [nox (ih2 d _ w.2 (by omega))]
    try simp only [frz, frzAll, wipeS, backS, getS, setS, mkSlot_f]
    conv => lhs; whnf
    rw [w_least_layer]
    try simp only [frz, frzAll, wipeS, backS, getS, setS, mkSlot_f]
    conv => lhs; whnf
    rw [w_least_share]
    try simp only [frz, frzAll, wipeS, backS, getS, setS, mkSlot_f]
    conv => lhs; whnf
    rw [w_least_both]
    try simp only [frz, frzAll, wipeS, backS, getS, setS, mkSlot_f]
    conv => lhs; whnf
    rw [w_least_rest]
    try simp only [frz, frzAll, wipeS, backS, getS, setS, mkSlot_f]
    conv => lhs; whnf
    rw [q_under b b2 (by omega) d (by omega)]
    try simp only [frz, frzAll, wipeS, backS, getS, setS, mkSlot_f]
    conv => lhs; whnf
    rw [w_least_least]
    try simp only [frz, frzAll, wipeS, backS, getS, setS, mkSlot_f]
    cases ltF (payT x ms day t) (payT x ms day u) <;> kernel_rfl
  | most t u ih ih2 =>
    intro d st w hd
    obtain ⟨d, rfl⟩ : ∃ m, d = m + 1 := ⟨d - 1, by omega⟩
    simp only [tdp] at hd
    have b := (pay_ok x ms day hx rx t w.1).1
    have b2 := (pay_ok x ms day hx rx u w.2).1
    have k4 := kb_4 (t := t) (by omega)
    have k5 := kb_4 (t := u) (by omega)
    show _ = Res.ok (fr (if ltF (payT x ms day t) (payT x ms day u) then payT x ms day u else payT x ms day t)) st
    rw [st_run (D := D58) rfl rfl]
    have e0 : newEnv D58.nl [tenc (.most t u), fr x, .tup ms, .int day] = [.val (tenc (.most t u)), .val (fr x), .val (.tup ms), .val (.int day), .no, .no, .no] := rfl
    rw [e0]
    conv => lhs; whnf
    rw [w_most_loss]
    try simp only [frz, frzAll, wipeS, backS, getS, setS, mkSlot_f]
    conv => lhs; whnf
    rw [w_most_fixed]
    try simp only [frz, frzAll, wipeS, backS, getS, setS, mkSlot_f]
    conv => lhs; whnf
    rw [w_most_when]
    try simp only [frz, frzAll, wipeS, backS, getS, setS, mkSlot_f]
    conv => lhs; whnf
    rw [q_inner _ d (by omega)]
    try simp only [frz, frzAll, wipeS, backS, getS, setS, mkSlot_f]
    conv => lhs; whnf
    rw [nox (ih d _ w.1 (by omega))]
    try simp only [frz, frzAll, wipeS, backS, getS, setS, mkSlot_f]
    conv => lhs; whnf
    rw [nox (ih2 d _ w.2 (by omega))]
    try simp only [frz, frzAll, wipeS, backS, getS, setS, mkSlot_f]
    conv => lhs; whnf
    rw [w_most_layer]
    try simp only [frz, frzAll, wipeS, backS, getS, setS, mkSlot_f]
    conv => lhs; whnf
    rw [w_most_share]
    try simp only [frz, frzAll, wipeS, backS, getS, setS, mkSlot_f]
    conv => lhs; whnf
    rw [w_most_both]
    try simp only [frz, frzAll, wipeS, backS, getS, setS, mkSlot_f]
    conv => lhs; whnf
    rw [w_most_rest]
    try simp only [frz, frzAll, wipeS, backS, getS, setS, mkSlot_f]
    conv => lhs; whnf
    rw [q_under b b2 (by omega) d (by omega)]
    try simp only [frz, frzAll, wipeS, backS, getS, setS, mkSlot_f]
    conv => lhs; whnf
    rw [w_most_least]
    try simp only [frz, frzAll, wipeS, backS, getS, setS, mkSlot_f]
    cases ltF (payT x ms day t) (payT x ms day u) <;> kernel_rfl
end Cv.K02

set_option Elab.async false
set_option linter.all false
set_option maxRecDepth 100000
set_option maxHeartbeats 8000000
namespace Cv.K02
open PySem
theorem z_loss : biP (.dget [("loss", .int 1), ("fixed", .int 2), ("layer", .int 4), ("share", .int 4), ("when", .int 3), ("both", .int 3), ("rest", .int 3), ("least", .int 3), ("most", .int 3)]) [.str "loss", .int 0] = some (.int 1) := by kernel_rfl
theorem v_loss_loss : cmpP .eq (.str "loss") (.str "loss") = some true := by kernel_rfl
theorem v_loss_fixed : cmpP .eq (.str "loss") (.str "fixed") = some false := by kernel_rfl
theorem v_loss_layer : cmpP .eq (.str "loss") (.str "layer") = some false := by kernel_rfl
theorem v_loss_share : cmpP .eq (.str "loss") (.str "share") = some false := by kernel_rfl
theorem v_loss_when : cmpP .eq (.str "loss") (.str "when") = some false := by kernel_rfl
theorem z_fixed : biP (.dget [("loss", .int 1), ("fixed", .int 2), ("layer", .int 4), ("share", .int 4), ("when", .int 3), ("both", .int 3), ("rest", .int 3), ("least", .int 3), ("most", .int 3)]) [.str "fixed", .int 0] = some (.int 2) := by kernel_rfl
theorem v_fixed_loss : cmpP .eq (.str "fixed") (.str "loss") = some false := by kernel_rfl
theorem v_fixed_fixed : cmpP .eq (.str "fixed") (.str "fixed") = some true := by kernel_rfl
theorem v_fixed_layer : cmpP .eq (.str "fixed") (.str "layer") = some false := by kernel_rfl
theorem v_fixed_share : cmpP .eq (.str "fixed") (.str "share") = some false := by kernel_rfl
theorem v_fixed_when : cmpP .eq (.str "fixed") (.str "when") = some false := by kernel_rfl
theorem z_layer : biP (.dget [("loss", .int 1), ("fixed", .int 2), ("layer", .int 4), ("share", .int 4), ("when", .int 3), ("both", .int 3), ("rest", .int 3), ("least", .int 3), ("most", .int 3)]) [.str "layer", .int 0] = some (.int 4) := by kernel_rfl
theorem v_layer_loss : cmpP .eq (.str "layer") (.str "loss") = some false := by kernel_rfl
theorem v_layer_fixed : cmpP .eq (.str "layer") (.str "fixed") = some false := by kernel_rfl
theorem v_layer_layer : cmpP .eq (.str "layer") (.str "layer") = some true := by kernel_rfl
theorem v_layer_share : cmpP .eq (.str "layer") (.str "share") = some false := by kernel_rfl
theorem v_layer_when : cmpP .eq (.str "layer") (.str "when") = some false := by kernel_rfl
theorem z_share : biP (.dget [("loss", .int 1), ("fixed", .int 2), ("layer", .int 4), ("share", .int 4), ("when", .int 3), ("both", .int 3), ("rest", .int 3), ("least", .int 3), ("most", .int 3)]) [.str "share", .int 0] = some (.int 4) := by kernel_rfl
theorem v_share_loss : cmpP .eq (.str "share") (.str "loss") = some false := by kernel_rfl
theorem v_share_fixed : cmpP .eq (.str "share") (.str "fixed") = some false := by kernel_rfl
theorem v_share_layer : cmpP .eq (.str "share") (.str "layer") = some false := by kernel_rfl
theorem v_share_share : cmpP .eq (.str "share") (.str "share") = some true := by kernel_rfl
theorem v_share_when : cmpP .eq (.str "share") (.str "when") = some false := by kernel_rfl
theorem z_when : biP (.dget [("loss", .int 1), ("fixed", .int 2), ("layer", .int 4), ("share", .int 4), ("when", .int 3), ("both", .int 3), ("rest", .int 3), ("least", .int 3), ("most", .int 3)]) [.str "when", .int 0] = some (.int 3) := by kernel_rfl
theorem v_when_loss : cmpP .eq (.str "when") (.str "loss") = some false := by kernel_rfl
theorem v_when_fixed : cmpP .eq (.str "when") (.str "fixed") = some false := by kernel_rfl
theorem v_when_layer : cmpP .eq (.str "when") (.str "layer") = some false := by kernel_rfl
theorem v_when_share : cmpP .eq (.str "when") (.str "share") = some false := by kernel_rfl
theorem v_when_when : cmpP .eq (.str "when") (.str "when") = some true := by kernel_rfl
theorem z_both : biP (.dget [("loss", .int 1), ("fixed", .int 2), ("layer", .int 4), ("share", .int 4), ("when", .int 3), ("both", .int 3), ("rest", .int 3), ("least", .int 3), ("most", .int 3)]) [.str "both", .int 0] = some (.int 3) := by kernel_rfl
theorem v_both_loss : cmpP .eq (.str "both") (.str "loss") = some false := by kernel_rfl
theorem v_both_fixed : cmpP .eq (.str "both") (.str "fixed") = some false := by kernel_rfl
theorem v_both_layer : cmpP .eq (.str "both") (.str "layer") = some false := by kernel_rfl
theorem v_both_share : cmpP .eq (.str "both") (.str "share") = some false := by kernel_rfl
theorem v_both_when : cmpP .eq (.str "both") (.str "when") = some false := by kernel_rfl
theorem z_rest : biP (.dget [("loss", .int 1), ("fixed", .int 2), ("layer", .int 4), ("share", .int 4), ("when", .int 3), ("both", .int 3), ("rest", .int 3), ("least", .int 3), ("most", .int 3)]) [.str "rest", .int 0] = some (.int 3) := by kernel_rfl
theorem v_rest_loss : cmpP .eq (.str "rest") (.str "loss") = some false := by kernel_rfl
theorem v_rest_fixed : cmpP .eq (.str "rest") (.str "fixed") = some false := by kernel_rfl
theorem v_rest_layer : cmpP .eq (.str "rest") (.str "layer") = some false := by kernel_rfl
theorem v_rest_share : cmpP .eq (.str "rest") (.str "share") = some false := by kernel_rfl
theorem v_rest_when : cmpP .eq (.str "rest") (.str "when") = some false := by kernel_rfl
theorem z_least : biP (.dget [("loss", .int 1), ("fixed", .int 2), ("layer", .int 4), ("share", .int 4), ("when", .int 3), ("both", .int 3), ("rest", .int 3), ("least", .int 3), ("most", .int 3)]) [.str "least", .int 0] = some (.int 3) := by kernel_rfl
theorem v_least_loss : cmpP .eq (.str "least") (.str "loss") = some false := by kernel_rfl
theorem v_least_fixed : cmpP .eq (.str "least") (.str "fixed") = some false := by kernel_rfl
theorem v_least_layer : cmpP .eq (.str "least") (.str "layer") = some false := by kernel_rfl
theorem v_least_share : cmpP .eq (.str "least") (.str "share") = some false := by kernel_rfl
theorem v_least_when : cmpP .eq (.str "least") (.str "when") = some false := by kernel_rfl
theorem z_most : biP (.dget [("loss", .int 1), ("fixed", .int 2), ("layer", .int 4), ("share", .int 4), ("when", .int 3), ("both", .int 3), ("rest", .int 3), ("least", .int 3), ("most", .int 3)]) [.str "most", .int 0] = some (.int 3) := by kernel_rfl
theorem v_most_loss : cmpP .eq (.str "most") (.str "loss") = some false := by kernel_rfl
theorem v_most_fixed : cmpP .eq (.str "most") (.str "fixed") = some false := by kernel_rfl
theorem v_most_layer : cmpP .eq (.str "most") (.str "layer") = some false := by kernel_rfl
theorem v_most_share : cmpP .eq (.str "most") (.str "share") = some false := by kernel_rfl
theorem v_most_when : cmpP .eq (.str "most") (.str "when") = some false := by kernel_rfl
theorem in_1 (w y : PV) (ws : List PV) (d : Nat) (st : Sto) : True := trivial
theorem limB (z : PV) (l : Int) (zo : noOb z = true) (d : Nat) (hd : 1 < d) (st : Sto) : runP TT d 16 [z, .int l] st = .ok (.bl (isNon z || isNum z l 1000000000)) st := by
  obtain ⟨d, rfl⟩ : ∃ m, d = m + 1 := ⟨d - 1, by omega⟩
  have q := Q_in (d := d) (st := st) (v := z) (lo := l) (hi := 1000000000) (by omega) zo
  cases z with
  | non => kernel_rfl
  | ob k => cases zo
  | _ =>
    conv => lhs; whnf
    rw [q]
    kernel_rfl
def shareB (y z : PV) : Bool := match z with
  | .int b => isNum (.int b) 1 100 && isNum y 0 b
  | _ => false
theorem q_share (y z : PV) (yo : noOb y = true) (zo : noOb z = true) (d : Nat) (hd : 1 < d) (st : Sto) : runP TT d 17 [y, z] st = .ok (.bl (shareB y z)) st := by
  obtain ⟨d, rfl⟩ : ∃ m, d = m + 1 := ⟨d - 1, by omega⟩
  conv => lhs; whnf
  rw [Q_in (d := d) (by omega) zo]
  cases z with
  | int b =>
    show _ = Res.ok (.bl (isNum (.int b) 1 100 && isNum y 0 b)) st
    cases isNum (.int b) 1 100
    · kernel_rfl
    · conv => lhs; whnf
      rw [Q_in (d := d) (by omega) yo]
      kernel_rfl
  | ob k => cases zo
  | _ => kernel_rfl
theorem wi_layer (y z u : PV) (d : Nat) (st : Sto) : runP TT (d + 1) 20 [.tup [.str "layer", y, z, u]] st = .ok (.tup [u]) st := by kernel_rfl
theorem wi_share (y z u : PV) (d : Nat) (st : Sto) : runP TT (d + 1) 20 [.tup [.str "share", y, z, u]] st = .ok (.tup [u]) st := by kernel_rfl
theorem wi_when (y z : PV) (d : Nat) (st : Sto) : runP TT (d + 1) 20 [.tup [.str "when", y, z]] st = .ok (.tup [z]) st := by kernel_rfl
theorem wi_both (y z : PV) (d : Nat) (st : Sto) : runP TT (d + 1) 20 [.tup [.str "both", y, z]] st = .ok (.tup [y, z]) st := by kernel_rfl
theorem wi_rest (y z : PV) (d : Nat) (st : Sto) : runP TT (d + 1) 20 [.tup [.str "rest", y, z]] st = .ok (.tup [y, z]) st := by kernel_rfl
theorem wi_least (y z : PV) (d : Nat) (st : Sto) : runP TT (d + 1) 20 [.tup [.str "least", y, z]] st = .ok (.tup [y, z]) st := by kernel_rfl
theorem wi_most (y z : PV) (d : Nat) (st : Sto) : runP TT (d + 1) 20 [.tup [.str "most", y, z]] st = .ok (.tup [y, z]) st := by kernel_rfl
theorem t_loss (n : Int) (d : Nat) (hd : 8 < d) (st : Sto) : runP TT d 19 [.tup [.str "loss"], .int n] st = .ok (.bl true) st := by
  obtain ⟨d, rfl⟩ : ∃ m, d = m + 2 := ⟨d - 2, by omega⟩
  kernel_rfl
theorem t_fixed (y : PV) (yo : noOb y = true) (n : Int) (d : Nat) (hd : 8 < d) (st : Sto) : runP TT d 19 [.tup [.str "fixed", y], .int n] st = .ok (.bl (isNum y 0 1000000000)) st := by
  obtain ⟨d, rfl⟩ : ∃ m, d = m + 2 := ⟨d - 2, by omega⟩
  have e0 : runP TT (d + 2) 19 [.tup [.str "fixed", y], .int n] st = exs (tailC 2 b33) (runP TT (d + 1)) [.val (.tup [.str "fixed", y]), .val (.int n), .val (.str "fixed"), .no] st (fun _ st => .ok .non st) (fun _ _ => .fail) := by kernel_rfl
  rw [e0]
  clear e0
  try rw [show d + 2 - 1 = d + 1 from rfl] at *
  generalize hD : d + 1 = D at *
  have hd : 7 < D := by omega
  conv => lhs; whnf
  rw [v_fixed_fixed]
  try simp only [frz, frzAll, wipeS, backS, getS, setS, mkSlot_f]
  conv => lhs; whnf
  rw [Q_in (d := D) (by omega) yo]
  try simp only [frz, frzAll, wipeS, backS, getS, setS, mkSlot_f]
  kernel_rfl
theorem t_layer (y z u : PV) (yo : noOb y = true) (zo : noOb z = true) (r : PV → Bool) (n : Int) (hn : 0 < n) (d : Nat) (hd : 8 < d) (st : Sto) (ru : ∀ st, runP TT (d - 1) 19 [u, .int (n - 1)] st = .ok (.bl (r u)) st) : runP TT d 19 [.tup [.str "layer", y, z, u], .int n] st = .ok (.bl (match y with
    | .int l => isNum (.int l) 0 1000000000 && ((isNon z || isNum z l 1000000000) && r u)
    | _ => false)) st := by
  obtain ⟨d, rfl⟩ : ∃ m, d = m + 2 := ⟨d - 2, by omega⟩
  have e0 : runP TT (d + 2) 19 [.tup [.str "layer", y, z, u], .int n] st = exs (tailC 3 b33) (runP TT (d + 1)) [.val (.tup [.str "layer", y, z, u]), .val (.int n), .val (.str "layer"), .no] st (fun _ st => .ok .non st) (fun _ _ => .fail) := by kernel_rfl
  rw [e0]
  clear e0
  try rw [show d + 2 - 1 = d + 1 from rfl] at *
  generalize hD : d + 1 = D at *
  have hd : 7 < D := by omega
  have hp : decide (0 < n) = true := decide_eq_true hn
  have hw := fun st => wi_layer y z u d st
  simp only [hD] at hw
  conv => lhs; whnf
  rw [v_layer_layer]
  try simp only [frz, frzAll, wipeS, backS, getS, setS, mkSlot_f]
  conv => lhs; whnf
  rw [Q_in (d := D) (by omega) yo]
  try simp only [frz, frzAll, wipeS, backS, getS, setS, mkSlot_f]
  cases y with
  | int l =>
    dsimp only
    cases isNum (.int l) 0 1000000000 with
    | false => kernel_rfl
    | true =>
      conv => lhs; whnf
      rw [limB z l zo D (by omega)]
      try simp only [frz, frzAll, wipeS, backS, getS, setS, mkSlot_f]
      cases isNon z || isNum z l 1000000000 with
      | false => kernel_rfl
      | true =>
        conv => lhs; whnf
        rw [v_layer_share]
        try simp only [frz, frzAll, wipeS, backS, getS, setS, mkSlot_f]
        conv => lhs; whnf
        rw [v_layer_when]
        try simp only [frz, frzAll, wipeS, backS, getS, setS, mkSlot_f]
        conv => lhs; whnf
        rw [hp]
        try simp only [frz, frzAll, wipeS, backS, getS, setS, mkSlot_f]
        conv => lhs; whnf
        rw [hw]
        try simp only [frz, frzAll, wipeS, backS, getS, setS, mkSlot_f]
        conv => lhs; whnf
        rw [nox (ru _)]
        try simp only [frz, frzAll, wipeS, backS, getS, setS, mkSlot_f]
        refine Eq.trans ?_ (bl_and _ st)
        kernel_rfl
  | ob k => cases yo
  | _ => kernel_rfl
theorem t_share (y z u : PV) (yo : noOb y = true) (zo : noOb z = true) (r : PV → Bool) (n : Int) (hn : 0 < n) (d : Nat) (hd : 8 < d) (st : Sto) (ru : ∀ st, runP TT (d - 1) 19 [u, .int (n - 1)] st = .ok (.bl (r u)) st) : runP TT d 19 [.tup [.str "share", y, z, u], .int n] st = .ok (.bl (shareB y z && r u)) st := by
  obtain ⟨d, rfl⟩ : ∃ m, d = m + 2 := ⟨d - 2, by omega⟩
  have e0 : runP TT (d + 2) 19 [.tup [.str "share", y, z, u], .int n] st = exs (tailC 4 b33) (runP TT (d + 1)) [.val (.tup [.str "share", y, z, u]), .val (.int n), .val (.str "share"), .no] st (fun _ st => .ok .non st) (fun _ _ => .fail) := by kernel_rfl
  rw [e0]
  clear e0
  try rw [show d + 2 - 1 = d + 1 from rfl] at *
  generalize hD : d + 1 = D at *
  have hd : 7 < D := by omega
  have hp : decide (0 < n) = true := decide_eq_true hn
  have hw := fun st => wi_share y z u d st
  simp only [hD] at hw
  conv => lhs; whnf
  rw [v_share_share]
  try simp only [frz, frzAll, wipeS, backS, getS, setS, mkSlot_f]
  conv => lhs; whnf
  rw [q_share y z yo zo D (by omega)]
  try simp only [frz, frzAll, wipeS, backS, getS, setS, mkSlot_f]
  cases shareB y z with
  | false => kernel_rfl
  | true =>
    conv => lhs; whnf
    rw [v_share_when]
    try simp only [frz, frzAll, wipeS, backS, getS, setS, mkSlot_f]
    conv => lhs; whnf
    rw [hp]
    try simp only [frz, frzAll, wipeS, backS, getS, setS, mkSlot_f]
    conv => lhs; whnf
    rw [hw]
    try simp only [frz, frzAll, wipeS, backS, getS, setS, mkSlot_f]
    conv => lhs; whnf
    rw [nox (ru _)]
    try simp only [frz, frzAll, wipeS, backS, getS, setS, mkSlot_f]
    refine Eq.trans ?_ (bl_and _ st)
    kernel_rfl
theorem t_when (y z : PV) (m : Nat) (gy : gd m y = true) (hm : m ≤ 60) (r : PV → Bool) (n : Int) (hn : 0 < n) (d : Nat) (hd : 9 < d) (st : Sto) (rz : ∀ st, runP TT (d - 1) 19 [z, .int (n - 1)] st = .ok (.bl (r z)) st) : runP TT d 19 [.tup [.str "when", y, z], .int n] st = .ok (.bl (Cv.K02.cond 5 y && r z)) st := by
  obtain ⟨d, rfl⟩ : ∃ m, d = m + 2 := ⟨d - 2, by omega⟩
  have e0 : runP TT (d + 2) 19 [.tup [.str "when", y, z], .int n] st = exs (tailC 5 b33) (runP TT (d + 1)) [.val (.tup [.str "when", y, z]), .val (.int n), .val (.str "when"), .no] st (fun _ st => .ok .non st) (fun _ _ => .fail) := by kernel_rfl
  rw [e0]
  clear e0
  try rw [show d + 2 - 1 = d + 1 from rfl] at *
  generalize hD : d + 1 = D at *
  have hd : 7 < D := by omega
  have hp : decide (0 < n) = true := decide_eq_true hn
  have hw := fun st => wi_when y z d st
  simp only [hD] at hw
  conv => lhs; whnf
  rw [v_when_when]
  try simp only [frz, frzAll, wipeS, backS, getS, setS, mkSlot_f]
  conv => lhs; whnf
  rw [Q_condition m y gy hm D (by omega)]
  try simp only [frz, frzAll, wipeS, backS, getS, setS, mkSlot_f]
  cases Cv.K02.cond 5 y with
  | false => kernel_rfl
  | true =>
    conv => lhs; whnf
    rw [hp]
    try simp only [frz, frzAll, wipeS, backS, getS, setS, mkSlot_f]
    conv => lhs; whnf
    rw [hw]
    try simp only [frz, frzAll, wipeS, backS, getS, setS, mkSlot_f]
    conv => lhs; whnf
    rw [nox (rz _)]
    try simp only [frz, frzAll, wipeS, backS, getS, setS, mkSlot_f]
    refine Eq.trans ?_ (bl_and _ st)
    kernel_rfl
theorem t_both (y z : PV) (r : PV → Bool) (n : Int) (hn : 0 < n) (d : Nat) (hd : 8 < d) (st : Sto) (ry : ∀ st, runP TT (d - 1) 19 [y, .int (n - 1)] st = .ok (.bl (r y)) st) (rz : ∀ st, runP TT (d - 1) 19 [z, .int (n - 1)] st = .ok (.bl (r z)) st) : runP TT d 19 [.tup [.str "both", y, z], .int n] st = .ok (.bl (r y && r z)) st := by
  obtain ⟨d, rfl⟩ : ∃ m, d = m + 2 := ⟨d - 2, by omega⟩
  have e0 : runP TT (d + 2) 19 [.tup [.str "both", y, z], .int n] st = exs (tailC 6 b33) (runP TT (d + 1)) [.val (.tup [.str "both", y, z]), .val (.int n), .val (.str "both"), .no] st (fun _ st => .ok .non st) (fun _ _ => .fail) := by kernel_rfl
  rw [e0]
  clear e0
  try rw [show d + 2 - 1 = d + 1 from rfl] at *
  generalize hD : d + 1 = D at *
  have hd : 7 < D := by omega
  have hp : decide (0 < n) = true := decide_eq_true hn
  have hw := fun st => wi_both y z d st
  simp only [hD] at hw
  conv => lhs; whnf
  rw [hp]
  try simp only [frz, frzAll, wipeS, backS, getS, setS, mkSlot_f]
  conv => lhs; whnf
  rw [hw]
  try simp only [frz, frzAll, wipeS, backS, getS, setS, mkSlot_f]
  conv => lhs; whnf
  rw [nox (ry _)]
  try simp only [frz, frzAll, wipeS, backS, getS, setS, mkSlot_f]
  conv => lhs; whnf
  rw [nox (rz _)]
  try simp only [frz, frzAll, wipeS, backS, getS, setS, mkSlot_f]
  refine Eq.trans ?_ (bl_and2 _ _ st)
  kernel_rfl
theorem t_rest (y z : PV) (r : PV → Bool) (n : Int) (hn : 0 < n) (d : Nat) (hd : 8 < d) (st : Sto) (ry : ∀ st, runP TT (d - 1) 19 [y, .int (n - 1)] st = .ok (.bl (r y)) st) (rz : ∀ st, runP TT (d - 1) 19 [z, .int (n - 1)] st = .ok (.bl (r z)) st) : runP TT d 19 [.tup [.str "rest", y, z], .int n] st = .ok (.bl (r y && r z)) st := by
  obtain ⟨d, rfl⟩ : ∃ m, d = m + 2 := ⟨d - 2, by omega⟩
  have e0 : runP TT (d + 2) 19 [.tup [.str "rest", y, z], .int n] st = exs (tailC 6 b33) (runP TT (d + 1)) [.val (.tup [.str "rest", y, z]), .val (.int n), .val (.str "rest"), .no] st (fun _ st => .ok .non st) (fun _ _ => .fail) := by kernel_rfl
  rw [e0]
  clear e0
  try rw [show d + 2 - 1 = d + 1 from rfl] at *
  generalize hD : d + 1 = D at *
  have hd : 7 < D := by omega
  have hp : decide (0 < n) = true := decide_eq_true hn
  have hw := fun st => wi_rest y z d st
  simp only [hD] at hw
  conv => lhs; whnf
  rw [hp]
  try simp only [frz, frzAll, wipeS, backS, getS, setS, mkSlot_f]
  conv => lhs; whnf
  rw [hw]
  try simp only [frz, frzAll, wipeS, backS, getS, setS, mkSlot_f]
  conv => lhs; whnf
  rw [nox (ry _)]
  try simp only [frz, frzAll, wipeS, backS, getS, setS, mkSlot_f]
  conv => lhs; whnf
  rw [nox (rz _)]
  try simp only [frz, frzAll, wipeS, backS, getS, setS, mkSlot_f]
  refine Eq.trans ?_ (bl_and2 _ _ st)
  kernel_rfl
theorem t_least (y z : PV) (r : PV → Bool) (n : Int) (hn : 0 < n) (d : Nat) (hd : 8 < d) (st : Sto) (ry : ∀ st, runP TT (d - 1) 19 [y, .int (n - 1)] st = .ok (.bl (r y)) st) (rz : ∀ st, runP TT (d - 1) 19 [z, .int (n - 1)] st = .ok (.bl (r z)) st) : runP TT d 19 [.tup [.str "least", y, z], .int n] st = .ok (.bl (r y && r z)) st := by
  obtain ⟨d, rfl⟩ : ∃ m, d = m + 2 := ⟨d - 2, by omega⟩
  have e0 : runP TT (d + 2) 19 [.tup [.str "least", y, z], .int n] st = exs (tailC 6 b33) (runP TT (d + 1)) [.val (.tup [.str "least", y, z]), .val (.int n), .val (.str "least"), .no] st (fun _ st => .ok .non st) (fun _ _ => .fail) := by kernel_rfl
  rw [e0]
  clear e0
  try rw [show d + 2 - 1 = d + 1 from rfl] at *
  generalize hD : d + 1 = D at *
  have hd : 7 < D := by omega
  have hp : decide (0 < n) = true := decide_eq_true hn
  have hw := fun st => wi_least y z d st
  simp only [hD] at hw
  conv => lhs; whnf
  rw [hp]
  try simp only [frz, frzAll, wipeS, backS, getS, setS, mkSlot_f]
  conv => lhs; whnf
  rw [hw]
  try simp only [frz, frzAll, wipeS, backS, getS, setS, mkSlot_f]
  conv => lhs; whnf
  rw [nox (ry _)]
  try simp only [frz, frzAll, wipeS, backS, getS, setS, mkSlot_f]
  conv => lhs; whnf
  rw [nox (rz _)]
  try simp only [frz, frzAll, wipeS, backS, getS, setS, mkSlot_f]
  refine Eq.trans ?_ (bl_and2 _ _ st)
  kernel_rfl
theorem t_most (y z : PV) (r : PV → Bool) (n : Int) (hn : 0 < n) (d : Nat) (hd : 8 < d) (st : Sto) (ry : ∀ st, runP TT (d - 1) 19 [y, .int (n - 1)] st = .ok (.bl (r y)) st) (rz : ∀ st, runP TT (d - 1) 19 [z, .int (n - 1)] st = .ok (.bl (r z)) st) : runP TT d 19 [.tup [.str "most", y, z], .int n] st = .ok (.bl (r y && r z)) st := by
  obtain ⟨d, rfl⟩ : ∃ m, d = m + 2 := ⟨d - 2, by omega⟩
  have e0 : runP TT (d + 2) 19 [.tup [.str "most", y, z], .int n] st = exs (tailC 6 b33) (runP TT (d + 1)) [.val (.tup [.str "most", y, z]), .val (.int n), .val (.str "most"), .no] st (fun _ st => .ok .non st) (fun _ _ => .fail) := by kernel_rfl
  rw [e0]
  clear e0
  try rw [show d + 2 - 1 = d + 1 from rfl] at *
  generalize hD : d + 1 = D at *
  have hd : 7 < D := by omega
  have hp : decide (0 < n) = true := decide_eq_true hn
  have hw := fun st => wi_most y z d st
  simp only [hD] at hw
  conv => lhs; whnf
  rw [hp]
  try simp only [frz, frzAll, wipeS, backS, getS, setS, mkSlot_f]
  conv => lhs; whnf
  rw [hw]
  try simp only [frz, frzAll, wipeS, backS, getS, setS, mkSlot_f]
  conv => lhs; whnf
  rw [nox (ry _)]
  try simp only [frz, frzAll, wipeS, backS, getS, setS, mkSlot_f]
  conv => lhs; whnf
  rw [nox (rz _)]
  try simp only [frz, frzAll, wipeS, backS, getS, setS, mkSlot_f]
  refine Eq.trans ?_ (bl_and2 _ _ st)
  kernel_rfl
end Cv.K02

set_option Elab.async false
set_option linter.all false
set_option maxRecDepth 100000
set_option maxHeartbeats 8000000
namespace Cv.K02
open PySem
def Bt : Nat → Nat
  | 0 => 100
  | n + 1 => 3 * Bt n
theorem Bt_pos : ∀ n, 100 ≤ Bt n
  | 0 => Nat.le_refl _
  | n + 1 => by have := Bt_pos n; show 100 ≤ 3 * Bt n; omega
def isPair : PV → Bool
  | .tup [.int a, .int b] => (decide (1 ≤ b) && decide (b ≤ 100)) && (decide (0 ≤ a) && decide (a ≤ b))
  | _ => false
theorem isPair_ok {v : PV} (h : isPair v = true) : ∃ a b : Int, v = .tup [.int a, .int b] ∧ (1 ≤ b ∧ b ≤ 100 ∧ 0 ≤ a ∧ a ≤ b) := by
  unfold isPair at h
  split at h
  · rename_i a b
    simp only [Bool.and_eq_true, decide_eq_true_eq] at h
    exact ⟨a, b, rfl, h.1.1, h.1.2, h.2.1, h.2.2⟩
  · cases h
abbrev lows : List PV := [.int 0, .int 0, .int 2, .int 5, .int 10]
abbrev fixs : List PV := [.int 0, .int 0, .int 3, .int 7, .int 20]
abbrev prs : List PV := [.tup [.int 1, .int 2], .tup [.int 1, .int 3], .tup [.int 2, .int 3], .tup [.int 0, .int 1], .tup [.int 1, .int 1], .tup [.int 3, .int 4], .tup [.int 50, .int 100]]
abbrev nms : List PV := [.str "both", .str "rest", .str "least", .str "most"]
theorem high_ok {low : Int} {w : PV} (h0 : 0 ≤ low) (h1 : low ≤ 10) (h : w ∈ ([.non, .int low, .int (low + 1), .int (low + 4), .int (low + 10)] : List PV)) : ∃ o : Option Int, w = optI o ∧ ∀ z, o = some z → low ≤ z ∧ z ≤ 1000000000 := by
  simp only [List.mem_cons, List.not_mem_nil, or_false] at h
  rcases h with rfl | rfl | rfl | rfl | rfl
  · exact ⟨none, rfl, fun z hz => by cases hz⟩
  · exact ⟨some low, rfl, fun z hz => by cases hz; omega⟩
  · exact ⟨some (low + 1), rfl, fun z hz => by cases hz; omega⟩
  · exact ⟨some (low + 4), rfl, fun z hz => by cases hz; omega⟩
  · exact ⟨some (low + 10), rfl, fun z hz => by cases hz; omega⟩
theorem q_term : ∀ (n : Nat) (z : Int) (hz : z = n) (dn k d : Nat) (hd : n + 8 ≤ d) (st : Sto) (h : Dice dn k st) (hk : k + Bt n ≤ 1000000),
    ∃ (t : Trm) (st' : Sto), runP TT d 40 [.ob dn, .int z] st = .ok (tenc t) st' ∧ twf t ∧ tdp t ≤ n ∧ Dice dn (k + Bt n) st' ∧ st'.length = st.length := by
  intro n
  induction n with
  | zero =>
    intro z hz dn k d hd st h hk
    obtain ⟨d, rfl⟩ : ∃ k, d = k + 1 := ⟨d - 1, by omega⟩
    rw [st_run (D := D56) rfl rfl]
    have en : newEnv D56.nl [.ob dn, .int z] = [.val (.ob dn), .val (.int z), .no, .no, .no, .no, .no] := rfl
    rw [en]
    have b4 := Bt_pos 0
    have e0 : decide (0 < z) = false := decide_eq_false (by omega)
    obtain ⟨i, st1, e1, i0, i1, h1, l1⟩ := Q_roll (d := d) (by omega) h (t := 3) (by omega) (by omega) (by omega)
    obtain rfl | rfl | rfl : i = 0 ∨ i = 1 ∨ i = 2 := by omega
    · refine ⟨.loss, st1, ?_, trivial, Nat.zero_le _, dice_mono h1 (by omega), l1⟩
      conv => lhs; whnf
      rw [e0]
      try simp only [frz, frzAll, wipeS, backS, getS, setS, mkSlot_f]
      conv => lhs; whnf
      rw [e1]
      try simp only [frz, frzAll, wipeS, backS, getS, setS, mkSlot_f]
      kernel_rfl
    · refine ⟨.loss, st1, ?_, trivial, Nat.zero_le _, dice_mono h1 (by omega), l1⟩
      conv => lhs; whnf
      rw [e0]
      try simp only [frz, frzAll, wipeS, backS, getS, setS, mkSlot_f]
      conv => lhs; whnf
      rw [e1]
      try simp only [frz, frzAll, wipeS, backS, getS, setS, mkSlot_f]
      kernel_rfl
    · obtain ⟨w', st2, e2, m2, h2, l2⟩ := Q_pick (d := d) (by omega) h1 fixs (by decide) (by decide) (by omega)
      obtain ⟨q, rfl, q0, q1⟩ := isNum_int (List.all_eq_true.mp (show fixs.all (fun x => isNum x 0 1000000000) = true by decide) _ m2)
      refine ⟨.fixed q, st2, ?_, ⟨q0, q1⟩, Nat.zero_le _, dice_mono h2 (by omega), by omega⟩
      conv => lhs; whnf
      rw [e0]
      try simp only [frz, frzAll, wipeS, backS, getS, setS, mkSlot_f]
      conv => lhs; whnf
      rw [e1]
      try simp only [frz, frzAll, wipeS, backS, getS, setS, mkSlot_f]
      conv => lhs; whnf
      rw [e2]
      try simp only [frz, frzAll, wipeS, backS, getS, setS, mkSlot_f]
      kernel_rfl
  | succ n ih =>
    intro z hz dn k d hd st h hk
    obtain ⟨d, rfl⟩ : ∃ k, d = k + 1 := ⟨d - 1, by omega⟩
    rw [st_run (D := D56) rfl rfl]
    have en : newEnv D56.nl [.ob dn, .int z] = [.val (.ob dn), .val (.int z), .no, .no, .no, .no, .no] := rfl
    rw [en]
    have b4 := Bt_pos n
    have bn : Bt (n + 1) = 3 * Bt n := rfl
    have e0 : decide (0 < z) = true := decide_eq_true (by omega)
    obtain ⟨i, st1, e1, i0, i1, h1, l1⟩ := Q_roll (d := d) (by omega) h (t := 10) (by omega) (by omega) (by omega)
    obtain rfl | rfl | rfl | rfl | rfl | rfl | rfl | rfl | rfl | rfl : i = 0 ∨ i = 1 ∨ i = 2 ∨ i = 3 ∨ i = 4 ∨ i = 5 ∨ i = 6 ∨ i = 7 ∨ i = 8 ∨ i = 9 := by omega
    · refine ⟨.loss, st1, ?_, trivial, Nat.zero_le _, dice_mono h1 (by omega), l1⟩
      conv => lhs; whnf
      rw [e0]
      try simp only [frz, frzAll, wipeS, backS, getS, setS, mkSlot_f]
      conv => lhs; whnf
      rw [e1]
      try simp only [frz, frzAll, wipeS, backS, getS, setS, mkSlot_f]
      kernel_rfl
    · refine ⟨.loss, st1, ?_, trivial, Nat.zero_le _, dice_mono h1 (by omega), l1⟩
      conv => lhs; whnf
      rw [e0]
      try simp only [frz, frzAll, wipeS, backS, getS, setS, mkSlot_f]
      conv => lhs; whnf
      rw [e1]
      try simp only [frz, frzAll, wipeS, backS, getS, setS, mkSlot_f]
      kernel_rfl
    · obtain ⟨w', st2, e2, m2, h2, l2⟩ := Q_pick (d := d) (by omega) h1 fixs (by decide) (by decide) (by omega)
      obtain ⟨q, rfl, q0, q1⟩ := isNum_int (List.all_eq_true.mp (show fixs.all (fun x => isNum x 0 1000000000) = true by decide) _ m2)
      refine ⟨.fixed q, st2, ?_, ⟨q0, q1⟩, Nat.zero_le _, dice_mono h2 (by omega), by omega⟩
      conv => lhs; whnf
      rw [e0]
      try simp only [frz, frzAll, wipeS, backS, getS, setS, mkSlot_f]
      conv => lhs; whnf
      rw [e1]
      try simp only [frz, frzAll, wipeS, backS, getS, setS, mkSlot_f]
      conv => lhs; whnf
      rw [e2]
      try simp only [frz, frzAll, wipeS, backS, getS, setS, mkSlot_f]
      kernel_rfl
    · obtain ⟨w', st2, e2, m2, h2, l2⟩ := Q_pick (d := d) (by omega) h1 lows (by decide) (by decide) (by omega)
      obtain ⟨low, rfl, q0, q1⟩ := isNum_int (List.all_eq_true.mp (show lows.all (fun x => isNum x 0 10) = true by decide) _ m2)
      obtain ⟨w3, st3, e3, m3, h3, l3⟩ := Q_pick (d := d) (by omega) h2 [.non, .int low, .int (low + 1), .int (low + 4), .int (low + 10)] (by simp) (by simp) (by omega)
      obtain ⟨ho, rfl, hh⟩ := high_ok q0 q1 m3
      obtain ⟨t, st4, e4, w4, d4, h4, l4⟩ := ih (z - 1) (by omega) dn (k + 1 + 1 + 1) d (by omega) st3 h3 (by omega)
      refine ⟨.layer low ho t, st4, ?_, ⟨⟨q0, by omega, hh⟩, w4⟩, Nat.succ_le_succ d4, dice_mono h4 (by omega), by omega⟩
      conv => lhs; whnf
      rw [e0]
      try simp only [frz, frzAll, wipeS, backS, getS, setS, mkSlot_f]
      conv => lhs; whnf
      rw [e1]
      try simp only [frz, frzAll, wipeS, backS, getS, setS, mkSlot_f]
      conv => lhs; whnf
      rw [e2]
      try simp only [frz, frzAll, wipeS, backS, getS, setS, mkSlot_f]
      conv => lhs; whnf
      rw [e3]
      try simp only [frz, frzAll, wipeS, backS, getS, setS, mkSlot_f]
      conv => lhs; whnf
      rw [e4]
      try simp only [frz, frzAll, wipeS, backS, getS, setS, mkSlot_f]
      kernel_rfl
    · obtain ⟨w', st2, e2, m2, h2, l2⟩ := Q_pick (d := d) (by omega) h1 lows (by decide) (by decide) (by omega)
      obtain ⟨low, rfl, q0, q1⟩ := isNum_int (List.all_eq_true.mp (show lows.all (fun x => isNum x 0 10) = true by decide) _ m2)
      obtain ⟨w3, st3, e3, m3, h3, l3⟩ := Q_pick (d := d) (by omega) h2 [.non, .int low, .int (low + 1), .int (low + 4), .int (low + 10)] (by simp) (by simp) (by omega)
      obtain ⟨ho, rfl, hh⟩ := high_ok q0 q1 m3
      obtain ⟨t, st4, e4, w4, d4, h4, l4⟩ := ih (z - 1) (by omega) dn (k + 1 + 1 + 1) d (by omega) st3 h3 (by omega)
      refine ⟨.layer low ho t, st4, ?_, ⟨⟨q0, by omega, hh⟩, w4⟩, Nat.succ_le_succ d4, dice_mono h4 (by omega), by omega⟩
      conv => lhs; whnf
      rw [e0]
      try simp only [frz, frzAll, wipeS, backS, getS, setS, mkSlot_f]
      conv => lhs; whnf
      rw [e1]
      try simp only [frz, frzAll, wipeS, backS, getS, setS, mkSlot_f]
      conv => lhs; whnf
      rw [e2]
      try simp only [frz, frzAll, wipeS, backS, getS, setS, mkSlot_f]
      conv => lhs; whnf
      rw [e3]
      try simp only [frz, frzAll, wipeS, backS, getS, setS, mkSlot_f]
      conv => lhs; whnf
      rw [e4]
      try simp only [frz, frzAll, wipeS, backS, getS, setS, mkSlot_f]
      kernel_rfl
    · obtain ⟨w', st2, e2, m2, h2, l2⟩ := Q_pick (d := d) (by omega) h1 prs (by decide) (by decide) (by omega)
      obtain ⟨a, b, rfl, hab⟩ := isPair_ok (List.all_eq_true.mp (show prs.all isPair = true by decide) _ m2)
      obtain ⟨t, st4, e4, w4, d4, h4, l4⟩ := ih (z - 1) (by omega) dn (k + 1 + 1) d (by omega) st2 h2 (by omega)
      refine ⟨.share a b t, st4, ?_, ⟨hab, w4⟩, Nat.succ_le_succ d4, dice_mono h4 (by omega), by omega⟩
      conv => lhs; whnf
      rw [e0]
      try simp only [frz, frzAll, wipeS, backS, getS, setS, mkSlot_f]
      conv => lhs; whnf
      rw [e1]
      try simp only [frz, frzAll, wipeS, backS, getS, setS, mkSlot_f]
      conv => lhs; whnf
      rw [e2]
      try simp only [frz, frzAll, wipeS, backS, getS, setS, mkSlot_f]
      conv => lhs; whnf
      rw [e4]
      try simp only [frz, frzAll, wipeS, backS, getS, setS, mkSlot_f]
      kernel_rfl
    · obtain ⟨c, st2, e2, w2, d2, h2, l2⟩ := q_cnd 1 1 rfl dn (k + 1) d (by omega) st1 h1 (by show k + 1 + 12 ≤ 1000000; omega)
      obtain ⟨t, st4, e4, w4, d4, h4, l4⟩ := ih (z - 1) (by omega) dn (k + 1 + Bc 1) d (by omega) st2 h2 (by show k + 1 + 12 + Bt n ≤ 1000000; omega)
      refine ⟨.cond c t, st4, ?_, ⟨⟨w2, by omega⟩, w4⟩, Nat.succ_le_succ d4, dice_mono h4 (by show k + 1 + 12 + Bt n ≤ k + Bt (n + 1); omega), by omega⟩
      conv => lhs; whnf
      rw [e0]
      try simp only [frz, frzAll, wipeS, backS, getS, setS, mkSlot_f]
      conv => lhs; whnf
      rw [e1]
      try simp only [frz, frzAll, wipeS, backS, getS, setS, mkSlot_f]
      conv => lhs; whnf
      rw [e2]
      try simp only [frz, frzAll, wipeS, backS, getS, setS, mkSlot_f]
      conv => lhs; whnf
      rw [e4]
      try simp only [frz, frzAll, wipeS, backS, getS, setS, mkSlot_f]
      kernel_rfl
    · obtain ⟨w', st2, e2, m2, h2, l2⟩ := Q_pick (d := d) (by omega) h1 nms (by decide) (by decide) (by omega)
      obtain ⟨t, st4, e4, w4, d4, h4, l4⟩ := ih (z - 1) (by omega) dn (k + 1 + 1) d (by omega) st2 h2 (by omega)
      obtain ⟨u, st5, e5, w5, d5, h5, l5⟩ := ih (z - 1) (by omega) dn (k + 1 + 1 + Bt n) d (by omega) st4 h4 (by omega)
      have run : exs D56.body (runP TT d) [.val (.ob dn), .val (.int z), .no, .no, .no, .no, .no] st (fun _ st => .ok .non st) (fun _ _ => .fail) = .ok (.tup [w', tenc t, tenc u]) st5 := by
        conv => lhs; whnf
        rw [e0]
        try simp only [frz, frzAll, wipeS, backS, getS, setS, mkSlot_f]
        conv => lhs; whnf
        rw [e1]
        try simp only [frz, frzAll, wipeS, backS, getS, setS, mkSlot_f]
        conv => lhs; whnf
        rw [e2]
        try simp only [frz, frzAll, wipeS, backS, getS, setS, mkSlot_f]
        conv => lhs; whnf
        rw [e4]
        try simp only [frz, frzAll, wipeS, backS, getS, setS, mkSlot_f]
        conv => lhs; whnf
        rw [e5]
        try simp only [frz, frzAll, wipeS, backS, getS, setS, mkSlot_f]
        kernel_rfl
      simp only [nms, List.mem_cons, List.not_mem_nil, or_false] at m2
      have dm : max (tdp t) (tdp u) + 1 ≤ n + 1 := by omega
      rcases m2 with rfl | rfl | rfl | rfl
      · exact ⟨.both t u, st5, run, ⟨w4, w5⟩, dm, dice_mono h5 (by omega), by omega⟩
      · exact ⟨.rest t u, st5, run, ⟨w4, w5⟩, dm, dice_mono h5 (by omega), by omega⟩
      · exact ⟨.least t u, st5, run, ⟨w4, w5⟩, dm, dice_mono h5 (by omega), by omega⟩
      · exact ⟨.most t u, st5, run, ⟨w4, w5⟩, dm, dice_mono h5 (by omega), by omega⟩
    · obtain ⟨w', st2, e2, m2, h2, l2⟩ := Q_pick (d := d) (by omega) h1 nms (by decide) (by decide) (by omega)
      obtain ⟨t, st4, e4, w4, d4, h4, l4⟩ := ih (z - 1) (by omega) dn (k + 1 + 1) d (by omega) st2 h2 (by omega)
      obtain ⟨u, st5, e5, w5, d5, h5, l5⟩ := ih (z - 1) (by omega) dn (k + 1 + 1 + Bt n) d (by omega) st4 h4 (by omega)
      have run : exs D56.body (runP TT d) [.val (.ob dn), .val (.int z), .no, .no, .no, .no, .no] st (fun _ st => .ok .non st) (fun _ _ => .fail) = .ok (.tup [w', tenc t, tenc u]) st5 := by
        conv => lhs; whnf
        rw [e0]
        try simp only [frz, frzAll, wipeS, backS, getS, setS, mkSlot_f]
        conv => lhs; whnf
        rw [e1]
        try simp only [frz, frzAll, wipeS, backS, getS, setS, mkSlot_f]
        conv => lhs; whnf
        rw [e2]
        try simp only [frz, frzAll, wipeS, backS, getS, setS, mkSlot_f]
        conv => lhs; whnf
        rw [e4]
        try simp only [frz, frzAll, wipeS, backS, getS, setS, mkSlot_f]
        conv => lhs; whnf
        rw [e5]
        try simp only [frz, frzAll, wipeS, backS, getS, setS, mkSlot_f]
        kernel_rfl
      simp only [nms, List.mem_cons, List.not_mem_nil, or_false] at m2
      have dm : max (tdp t) (tdp u) + 1 ≤ n + 1 := by omega
      rcases m2 with rfl | rfl | rfl | rfl
      · exact ⟨.both t u, st5, run, ⟨w4, w5⟩, dm, dice_mono h5 (by omega), by omega⟩
      · exact ⟨.rest t u, st5, run, ⟨w4, w5⟩, dm, dice_mono h5 (by omega), by omega⟩
      · exact ⟨.least t u, st5, run, ⟨w4, w5⟩, dm, dice_mono h5 (by omega), by omega⟩
      · exact ⟨.most t u, st5, run, ⟨w4, w5⟩, dm, dice_mono h5 (by omega), by omega⟩
    · obtain ⟨w', st2, e2, m2, h2, l2⟩ := Q_pick (d := d) (by omega) h1 nms (by decide) (by decide) (by omega)
      obtain ⟨t, st4, e4, w4, d4, h4, l4⟩ := ih (z - 1) (by omega) dn (k + 1 + 1) d (by omega) st2 h2 (by omega)
      obtain ⟨u, st5, e5, w5, d5, h5, l5⟩ := ih (z - 1) (by omega) dn (k + 1 + 1 + Bt n) d (by omega) st4 h4 (by omega)
      have run : exs D56.body (runP TT d) [.val (.ob dn), .val (.int z), .no, .no, .no, .no, .no] st (fun _ st => .ok .non st) (fun _ _ => .fail) = .ok (.tup [w', tenc t, tenc u]) st5 := by
        conv => lhs; whnf
        rw [e0]
        try simp only [frz, frzAll, wipeS, backS, getS, setS, mkSlot_f]
        conv => lhs; whnf
        rw [e1]
        try simp only [frz, frzAll, wipeS, backS, getS, setS, mkSlot_f]
        conv => lhs; whnf
        rw [e2]
        try simp only [frz, frzAll, wipeS, backS, getS, setS, mkSlot_f]
        conv => lhs; whnf
        rw [e4]
        try simp only [frz, frzAll, wipeS, backS, getS, setS, mkSlot_f]
        conv => lhs; whnf
        rw [e5]
        try simp only [frz, frzAll, wipeS, backS, getS, setS, mkSlot_f]
        kernel_rfl
      simp only [nms, List.mem_cons, List.not_mem_nil, or_false] at m2
      have dm : max (tdp t) (tdp u) + 1 ≤ n + 1 := by omega
      rcases m2 with rfl | rfl | rfl | rfl
      · exact ⟨.both t u, st5, run, ⟨w4, w5⟩, dm, dice_mono h5 (by omega), by omega⟩
      · exact ⟨.rest t u, st5, run, ⟨w4, w5⟩, dm, dice_mono h5 (by omega), by omega⟩
      · exact ⟨.least t u, st5, run, ⟨w4, w5⟩, dm, dice_mono h5 (by omega), by omega⟩
      · exact ⟨.most t u, st5, run, ⟨w4, w5⟩, dm, dice_mono h5 (by omega), by omega⟩
end Cv.K02

set_option Elab.async false
set_option linter.all false
set_option maxRecDepth 100000
set_option maxHeartbeats 8000000
namespace Cv.K02
open PySem
/-! terms are terms; what is not; plain terms -/
theorem limB_opt (h : Option Int) (l : Int) (hh : ∀ z, h = some z → l ≤ z ∧ z ≤ 1000000000) : (isNon (optI h) || isNum (optI h) l 1000000000) = true := by
  cases h with
  | none => rfl
  | some z =>
    obtain ⟨a, b⟩ := hh z rfl
    show (false || (decide (l ≤ z) && decide (z ≤ 1000000000))) = true
    rw [decide_eq_true a, decide_eq_true b]; rfl
theorem share_ok {a b : Int} (h : 1 ≤ b ∧ b ≤ 100 ∧ 0 ≤ a ∧ a ≤ b) : shareB (.int a) (.int b) = true := by
  show ((decide (1 ≤ b) && decide (b ≤ 100)) && (decide (0 ≤ a) && decide (a ≤ b))) = true
  rw [decide_eq_true h.1, decide_eq_true h.2.1, decide_eq_true h.2.2.1, decide_eq_true h.2.2.2]; rfl
theorem num_ok {n lo hi : Int} (h : lo ≤ n ∧ n ≤ hi) : isNum (.int n) lo hi = true := by
  show (decide (lo ≤ n) && decide (n ≤ hi)) = true
  rw [decide_eq_true h.1, decide_eq_true h.2]; rfl
theorem opt_noOb (h : Option Int) : noOb (optI h) = true := by cases h <;> rfl
theorem q_termof : ∀ (t : Trm) (n : Int) (d : Nat) (st : Sto), twf t → (tdp t : Int) ≤ n → tdp t + 10 < d → runP TT d 19 [tenc t, .int n] st = .ok (.bl true) st := by
  intro t
  induction t with
  | loss => intro n d st w hn hd; simp only [tdp] at hn hd; exact t_loss n d (by omega) st
  | fixed q => intro n d st w hn hd; simp only [tdp] at hn hd; exact (t_fixed (.int q) rfl n d (by omega) st).trans (by rw [num_ok w])
  | layer l h t ih =>
    intro n d st w hn hd
    simp only [tdp] at hn hd
    refine (t_layer (.int l) (optI h) (tenc t) rfl (opt_noOb h) (fun _ => true) n (by omega) d (by omega) st (fun st => ih (n - 1) (d - 1) st w.2 (by omega) (by omega))).trans ?_
    show Res.ok (.bl (isNum (.int l) 0 1000000000 && ((isNon (optI h) || isNum (optI h) l 1000000000) && true))) st = _
    rw [num_ok ⟨w.1.1, w.1.2.1⟩, limB_opt h l w.1.2.2]; rfl
  | share a b t ih =>
    intro n d st w hn hd
    simp only [tdp] at hn hd
    refine (t_share (.int a) (.int b) (tenc t) rfl rfl (fun _ => true) n (by omega) d (by omega) st (fun st => ih (n - 1) (d - 1) st w.2 (by omega) (by omega))).trans ?_
    rw [share_ok w.1]; rfl
  | cond c t ih =>
    intro n d st w hn hd
    simp only [tdp] at hn hd
    refine (t_when (enc c) (tenc t) (dp c + 1) (gd_enc c _ (by omega)) (by have := w.1.2; omega) (fun _ => true) n (by omega) d (by omega) st (fun st => ih (n - 1) (d - 1) st w.2 (by omega) (by omega))).trans ?_
    rw [cond_enc c 5 w.1.1 w.1.2]; rfl
  | both t u ih ih2 =>
    intro n d st w hn hd
    simp only [tdp] at hn hd
    exact t_both (tenc t) (tenc u) (fun _ => true) n (by omega) d (by omega) st (fun st => ih (n - 1) (d - 1) st w.1 (by omega) (by omega)) (fun st => ih2 (n - 1) (d - 1) st w.2 (by omega) (by omega))
  | rest t u ih ih2 =>
    intro n d st w hn hd
    simp only [tdp] at hn hd
    exact t_rest (tenc t) (tenc u) (fun _ => true) n (by omega) d (by omega) st (fun st => ih (n - 1) (d - 1) st w.1 (by omega) (by omega)) (fun st => ih2 (n - 1) (d - 1) st w.2 (by omega) (by omega))
  | least t u ih ih2 =>
    intro n d st w hn hd
    simp only [tdp] at hn hd
    exact t_least (tenc t) (tenc u) (fun _ => true) n (by omega) d (by omega) st (fun st => ih (n - 1) (d - 1) st w.1 (by omega) (by omega)) (fun st => ih2 (n - 1) (d - 1) st w.2 (by omega) (by omega))
  | most t u ih ih2 =>
    intro n d st w hn hd
    simp only [tdp] at hn hd
    exact t_most (tenc t) (tenc u) (fun _ => true) n (by omega) d (by omega) st (fun st => ih (n - 1) (d - 1) st w.1 (by omega) (by omega)) (fun st => ih2 (n - 1) (d - 1) st w.2 (by omega) (by omega))
theorem tsz_lt : ∀ t, tsz t + 1 ≤ 2 ^ (tdp t + 1)
  | .loss => by decide
  | .fixed _ => by show 1 + 1 ≤ 2 ^ 1; decide
  | .layer _ _ t => by have := tsz_lt t; show tsz t + 1 + 1 ≤ 2 ^ (tdp t + 1 + 1); rw [Nat.pow_succ]; omega
  | .share _ _ t => by have := tsz_lt t; show tsz t + 1 + 1 ≤ 2 ^ (tdp t + 1 + 1); rw [Nat.pow_succ]; omega
  | .cond _ t => by have := tsz_lt t; show tsz t + 1 + 1 ≤ 2 ^ (tdp t + 1 + 1); rw [Nat.pow_succ]; omega
  | .both t u => by
    have := tsz_lt t; have := tsz_lt u; have := p2 (tdp t + 1) (max (tdp t) (tdp u) + 1) (by omega); have := p2 (tdp u + 1) (max (tdp t) (tdp u) + 1) (by omega)
    show tsz t + tsz u + 1 + 1 ≤ 2 ^ (max (tdp t) (tdp u) + 1 + 1); rw [Nat.pow_succ]; omega
  | .rest t u => by
    have := tsz_lt t; have := tsz_lt u; have := p2 (tdp t + 1) (max (tdp t) (tdp u) + 1) (by omega); have := p2 (tdp u + 1) (max (tdp t) (tdp u) + 1) (by omega)
    show tsz t + tsz u + 1 + 1 ≤ 2 ^ (max (tdp t) (tdp u) + 1 + 1); rw [Nat.pow_succ]; omega
  | .least t u => by
    have := tsz_lt t; have := tsz_lt u; have := p2 (tdp t + 1) (max (tdp t) (tdp u) + 1) (by omega); have := p2 (tdp u + 1) (max (tdp t) (tdp u) + 1) (by omega)
    show tsz t + tsz u + 1 + 1 ≤ 2 ^ (max (tdp t) (tdp u) + 1 + 1); rw [Nat.pow_succ]; omega
  | .most t u => by
    have := tsz_lt t; have := tsz_lt u; have := p2 (tdp t + 1) (max (tdp t) (tdp u) + 1) (by omega); have := p2 (tdp u + 1) (max (tdp t) (tdp u) + 1) (by omega)
    show tsz t + tsz u + 1 + 1 ≤ 2 ^ (max (tdp t) (tdp u) + 1 + 1); rw [Nat.pow_succ]; omega
theorem sz_15 {t : Trm} (h : tdp t ≤ 3) : tsz t ≤ 15 := by
  have := tsz_lt t
  have := p2 (tdp t + 1) 4 (by omega)
  omega
theorem q_isterm (t : Trm) (w : twf t) (h : tdp t ≤ 3) (d : Nat) (hd : 20 < d) (st : Sto) : runP TT d 18 [tenc t] st = .ok (.bl true) st := by
  obtain ⟨d, rfl⟩ : ∃ m, d = m + 1 := ⟨d - 1, by omega⟩
  have s15 := sz_15 h
  have e : decide (((tsz t : Nat) : Int) ≤ 25) = true := decide_eq_true (by omega)
  conv => lhs; whnf
  rw [q_termof t 6 d st w (by omega) (by omega)]
  conv => lhs; whnf
  rw [q_size t d st (by omega)]
  show Res.ok (.bl (decide (((tsz t : Nat) : Int) ≤ 25))) st = _
  rw [e]
theorem q_demand_term (t : Trm) (w : twf t) (h : tdp t ≤ 3) (s : Str) (d : Nat) (hd : 21 < d) (st : Sto) : runP TT d 22 [tenc t, .str s] st = .ok .non st := by
  obtain ⟨d, rfl⟩ : ∃ m, d = m + 1 := ⟨d - 1, by omega⟩
  conv => lhs; whnf
  rw [q_isterm t w h d (by omega)]
  conv => lhs; whnf
  rw [q_demand s d (by omega)]
  kernel_rfl
theorem q_howmany (t : Trm) (w : twf t) (h : tdp t ≤ 3) (d : Nat) (hd : 22 < d) (st : Sto) : runP TT d 25 [tenc t] st = .ok (.int (tsz t : Nat)) st := by
  obtain ⟨d, rfl⟩ : ∃ m, d = m + 1 := ⟨d - 1, by omega⟩
  conv => lhs; whnf
  rw [q_demand_term t w h _ d (by omega)]
  conv => lhs; whnf
  rw [q_size t d st (by omega)]
  kernel_rfl
theorem q_isplain (t : Trm) (w : twf t) (h : tdp t ≤ 3) (d : Nat) (hd : 22 < d) (st : Sto) : runP TT d 26 [tenc t] st = .ok (.bl (plainT t)) st := by
  obtain ⟨d, rfl⟩ : ∃ m, d = m + 1 := ⟨d - 1, by omega⟩
  conv => lhs; whnf
  rw [q_demand_term t w h _ d (by omega)]
  conv => lhs; whnf
  rw [q_plain t d st (by omega)]
  kernel_rfl
end Cv.K02

set_option Elab.async false
set_option linter.all false
set_option maxRecDepth 100000
set_option maxHeartbeats 8000000
namespace Cv.K02
open PySem
theorem lowLe {p c : Int} {u x : Fr} (h : p ≤ u.1 * c) (hc : 0 < c) (hu : 0 < u.2) (hx : 0 < x.2) (l : LeF u x) : LeF (low p (u.2 * c)) x := by
  refine le_low (Int.mul_pos hu hc) ?_
  have l' : u.1 * x.2 ≤ x.1 * u.2 := l
  have h1 : p * x.2 ≤ u.1 * c * x.2 := Int.mul_le_mul_of_nonneg_right h (by omega)
  have h2 : u.1 * x.2 * c ≤ x.1 * u.2 * c := Int.mul_le_mul_of_nonneg_right l' (by omega)
  have e1 : u.1 * c * x.2 = u.1 * x.2 * c := by rw [Int.mul_assoc, Int.mul_comm c, ← Int.mul_assoc]
  have e2 : x.1 * (u.2 * c) = x.1 * u.2 * c := (Int.mul_assoc _ _ _).symm
  omega
def NonN (x : Fr) : Prop := 0 ≤ x.1
theorem low_nn {p q : Int} (hp : 0 ≤ p) : NonN (low p q) := Int.ediv_nonneg hp (Int.natCast_nonneg _)
theorem pos_nn (x : Fr) : NonN (posF x) := by
  unfold posF
  split
  · show 0 ≤ x.1; omega
  · show (0 : Int) ≤ 0; omega
theorem zero_le' {x : Fr} (h : NonN x) : LeF (0, 1) x := by
  show 0 * x.2 ≤ x.1 * 1
  have h' : 0 ≤ x.1 := h
  omega
theorem pos_le {u x : Fr} (h : LeF u x) (hx : NonN x) : LeF (posF u) x := by
  unfold posF
  split
  · exact h
  · exact zero_le' hx
theorem less_le {u v x : Fr} (hv : 0 < v.2) (hv1 : 0 ≤ v.1) (hu : 0 < u.2) (hx : 0 < x.2) (l : LeF u x) : LeF (lessF u v) x := by
  have k : 0 ≤ v.1 * u.2 := Int.mul_nonneg hv1 (by omega)
  have e : (-v.1) * u.2 = -(v.1 * u.2) := Int.neg_mul _ _
  have le : u.1 * v.2 + (-v.1) * u.2 ≤ u.1 * v.2 := by rw [e]; omega
  exact lowLe le hv hu hx l
theorem le_trans' {a b c : Fr} (hb : 0 < b.2) (ha : 0 < a.2) (hc : 0 < c.2) (h1 : LeF a b) (h2 : LeF b c) : LeF a c := by
  have h1' : a.1 * b.2 ≤ b.1 * a.2 := h1
  have h2' : b.1 * c.2 ≤ c.1 * b.2 := h2
  show a.1 * c.2 ≤ c.1 * a.2
  have k1 : a.1 * b.2 * c.2 ≤ b.1 * a.2 * c.2 := Int.mul_le_mul_of_nonneg_right h1' (by omega)
  have k2 : b.1 * c.2 * a.2 ≤ c.1 * b.2 * a.2 := Int.mul_le_mul_of_nonneg_right h2' (by omega)
  have e1 : a.1 * b.2 * c.2 = a.1 * c.2 * b.2 := by rw [Int.mul_assoc, Int.mul_comm b.2, ← Int.mul_assoc]
  have e2 : b.1 * a.2 * c.2 = b.1 * c.2 * a.2 := by rw [Int.mul_assoc, Int.mul_comm a.2, ← Int.mul_assoc]
  have e3 : c.1 * b.2 * a.2 = c.1 * a.2 * b.2 := by rw [Int.mul_assoc, Int.mul_comm b.2, ← Int.mul_assoc]
  exact Int.le_of_mul_le_mul_right (by omega : a.1 * c.2 * b.2 ≤ c.1 * a.2 * b.2) hb
theorem plain_le (x : Fr) (ms : List PV) (day : Int) (hx : Bd 40 x) (rx : Red x) (nx : NonN x) : ∀ t : Trm, twf t → plainT t = true → NonN (payT x ms day t) ∧ LeF (payT x ms day t) x := by
  intro t
  induction t with
  | loss => intro _ _; exact ⟨nx, Int.le_refl _⟩
  | fixed n => intro _ p; cases p
  | both t u => intro _ p; cases p
  | layer l h t ih =>
    intro w p
    obtain ⟨n1, l1⟩ := ih w.2 p
    have b := (pay_ok x ms day hx rx t w.2).1
    have bl : Bd 40 (l, 1) := int_bd w.1.1 (by rw [p40]; have := w.1.2.1; omega) (by decide)
    have pl : LeF (posF (lessF (payT x ms day t) (l, 1))) x := pos_le (less_le bl.2.1 w.1.1 b.2.1 hx.2.1 l1) nx
    have pb := pos_bd (less_bd b bl) (by omega)
    cases h with
    | none => exact ⟨pos_nn _, pl⟩
    | some z =>
      have hz := w.1.2.2 z rfl
      show NonN (if _ then _ else _) ∧ LeF (if _ then _ else _) x
      by_cases c : ltF (posF (lessF (payT x ms day t) (l, 1))) (z - l, 1) = true
      · rw [if_pos c]; exact ⟨pos_nn _, pl⟩
      · rw [if_neg c]
        refine ⟨by show 0 ≤ z - l; omega, le_trans' pb.2.1 (by show (0 : Int) < 1; decide) hx.2.1 ?_ pl⟩
        show (z - l) * _ ≤ _ * 1
        have c' : ¬ (posF (lessF (payT x ms day t) (l, 1))).1 * 1 < (z - l) * (posF (lessF (payT x ms day t) (l, 1))).2 := fun q => c (decide_eq_true q)
        omega
  | share a b t ih =>
    intro w p
    obtain ⟨n1, l1⟩ := ih w.2 p
    have bd := (pay_ok x ms day hx rx t w.2).1
    have n1' : 0 ≤ (payT x ms day t).1 := n1
    refine ⟨low_nn (Int.mul_nonneg n1' w.1.2.2.1), ?_⟩
    exact lowLe (c := b) (Int.mul_le_mul_of_nonneg_left w.1.2.2.2 n1') (by have := w.1.1; omega) bd.2.1 hx.2.1 l1
  | cond c t ih =>
    intro w p
    obtain ⟨n1, l1⟩ := ih w.2 p
    show NonN (if _ then _ else _) ∧ LeF (if _ then _ else _) x
    split
    · exact ⟨n1, l1⟩
    · exact ⟨Int.le_refl _, zero_le' nx⟩
  | rest t u ih ih2 =>
    intro w p
    have p' : (plainT t && plainT u) = true := p
    rw [Bool.and_eq_true] at p'
    obtain ⟨n1, l1⟩ := ih w.1 p'.1
    obtain ⟨n2, l2⟩ := ih2 w.2 p'.2
    have b := (pay_ok x ms day hx rx t w.1).1
    have b2 := (pay_ok x ms day hx rx u w.2).1
    exact ⟨pos_nn _, pos_le (less_le b2.2.1 n2 b.2.1 hx.2.1 l1) nx⟩
  | least t u ih ih2 =>
    intro w p
    have p' : (plainT t && plainT u) = true := p
    rw [Bool.and_eq_true] at p'
    show NonN (if _ then _ else _) ∧ LeF (if _ then _ else _) x
    split
    · exact ih w.1 p'.1
    · exact ih2 w.2 p'.2
  | most t u ih ih2 =>
    intro w p
    have p' : (plainT t && plainT u) = true := p
    rw [Bool.and_eq_true] at p'
    show NonN (if _ then _ else _) ∧ LeF (if _ then _ else _) x
    split
    · exact ih2 w.2 p'.2
    · exact ih w.1 p'.1
theorem not_under {x y : Fr} (h : LeF y x) : ltF x y = false := by
  have h' : y.1 * x.2 ≤ x.1 * y.2 := h
  exact decide_eq_false (by omega)
/-- cases of any size -/
theorem Q_rollW {d n k : Nat} {t : Int} {st : Sto} (hd : 0 < d) (h : Dice n k st) (ht : 0 < t) (ht2 : t < 2 ^ 60) (hk : k ≤ 1000000) : ∃ (i : Int) (st' : Sto), runP TT d 29 [.ob n, .int t] st = .ok (.int i) st' ∧ 0 ≤ i ∧ i < t ∧ Dice n (k + 1) st' ∧ st'.length = st.length := by
  obtain ⟨d, rfl⟩ : ∃ k, d = k + 1 := ⟨d - 1, by omega⟩
  have l := log_of (nat_lt ht ht2)
  exact q_roll n k t ht hk h (by omega)
theorem q_mkcaseW (dn k d : Nat) (hd : 3 ≤ d) (most : Int) (m0 : 0 ≤ most) (m1 : most ≤ 1000000000) (st : Sto) (h : Dice dn k st) (hk : k + 3 ≤ 1000000) :
    ∃ (a b : Int) (ms : List PV) (st' : Sto), runP TT d 34 [.ob dn, .int most] st = .ok (.tup [.int a, .tup ms, .int b]) st' ∧ 0 ≤ a ∧ a ≤ 1000000000 ∧ 0 ≤ b ∧ b ≤ 999 ∧ msOk (.tup ms) = true ∧ Dice dn (k + 3) st' ∧ st'.length = st.length := by
  obtain ⟨d, rfl⟩ : ∃ k, d = k + 1 := ⟨d - 1, by omega⟩
  have p60 : (2 : Int) ^ 60 = 1152921504606846976 := by decide
  obtain ⟨i, st1, e1, i0, i1, h1, l1⟩ := Q_rollW (d := d) (by omega) h (t := most + 1) (by omega) (by rw [p60]; omega) (by omega)
  obtain ⟨m, st2, e2, m1, h2, l2⟩ := Q_pick (d := d) (by omega) h1 marksV (by decide) (by decide) (by omega)
  obtain ⟨b', st3, e3, b1, h3, l3⟩ := Q_pick (d := d) (by omega) h2 [.int 0, .int 4, .int 5, .int 9, .int 10, .int 11, .int 15, .int 20, .int 21, .int 500, .int 998, .int 999] (by decide) (by decide) (by omega)
  obtain ⟨b, rfl, b2, b3⟩ := isNum_int (List.all_eq_true.mp (show ([.int 0, .int 4, .int 5, .int 9, .int 10, .int 11, .int 15, .int 20, .int 21, .int 500, .int 998, .int 999] : List PV).all (fun x => isNum x 0 999) = true by decide) _ b1)
  have mo := marks_ok m m1
  cases m with
  | tup ms =>
    refine ⟨i, b, ms, st3, ?_, i0, by omega, b2, b3, mo, h3, by omega⟩
    conv => lhs; whnf
    rw [e1]
    conv => lhs; whnf
    rw [Q_law_marks (by omega)]
    conv => lhs; whnf
    rw [e2]
    conv => lhs; whnf
    rw [e3]
    kernel_rfl
  | _ => cases mo
end Cv.K02

set_option Elab.async false
set_option linter.all false
set_option maxRecDepth 100000
set_option maxHeartbeats 8000000
namespace Cv.K02
open PySem
theorem case_W {a b : Int} {ms : List PV} (a0 : 0 ≤ a) (a1 : a ≤ 1000000000) (b0 : 0 ≤ b) (b1 : b ≤ 999) (mo : msOk (.tup ms) = true) :
    caseB (.tup [.int a, .tup ms, .int b]) = true ∧ datL 60 ms = true ∧ gd 4 (.tup [.int a, .tup ms, .int b]) = true := by
  have mo' : ((((datL 60 ms && rise (.tup ms)) && gd 3 (.tup ms)) && decide (ms.length ≤ 4)) && ms.all (fun y => isNum y 0 3)) = true := mo
  simp only [Bool.and_eq_true, decide_eq_true_eq] at mo'
  obtain ⟨⟨⟨⟨h1, h2⟩, h3⟩, h4⟩, h5⟩ := mo'
  refine ⟨?_, h1, ?_⟩
  · show ((decide (0 ≤ a) && decide (a ≤ 1000000000)) && (rise (.tup ms) && (decide (0 ≤ b) && decide (b ≤ 999)))) = true
    simp only [Bool.and_eq_true, decide_eq_true_eq]
    exact ⟨⟨a0, a1⟩, h2, b0, b1⟩
  · show (decide (3 ≤ 100) && (true && (gd 3 (.tup ms) && (true && true)))) = true
    rw [h3]; rfl
theorem q_pays (t : Trm) (w : twf t) (h : tdp t ≤ 3) {a b : Int} {ms : List PV} (a0 : 0 ≤ a) (a1 : a ≤ 1000000000) (b0 : 0 ≤ b) (b1 : b ≤ 999) (mo : msOk (.tup ms) = true) (d : Nat) (hd : 23 < d) (st : Sto) :
    runP TT d 24 [tenc t, .tup [.int a, .tup ms, .int b]] st = .ok (fr (payT (a, 1) ms b t)) st := by
  obtain ⟨d, rfl⟩ : ∃ m, d = m + 1 := ⟨d - 1, by omega⟩
  obtain ⟨cb, dm, gc⟩ := case_W a0 a1 b0 b1 mo
  have ba : Bd 40 (a, 1) := int_bd a0 (by rw [p40]; omega) (by decide)
  have e : runP TT d 23 [tenc t, .tup [.int a, .int 1], .tup ms, .int b] st = .ok (fr (payT (a, 1) ms b t)) st := q_paid (a, 1) ms b ba (Nat.gcd_one_right _) dm t d st w (by omega)
  conv => lhs; whnf
  rw [q_demand_term t w h _ d (by omega)]
  conv => lhs; whnf
  rw [q_case 4 _ gc d (by omega), cb]
  conv => lhs; whnf
  rw [q_demand _ d (by omega)]
  conv => lhs; whnf
  rw [e]
  kernel_rfl
theorem q_lin (t : Trm) (w : twf t) (h : tdp t ≤ 3) {a b : Int} {ms : List PV} (a0 : 0 ≤ a) (a1 : a ≤ 1000000000) (b0 : 0 ≤ b) (b1 : b ≤ 999) (mo : msOk (.tup ms) = true) (d : Nat) (hd : 23 < d) (st : Sto) :
    runP TT d 43 [tenc t, .tup [.int a, .tup ms, .int b]] st = .ok (fr (payT (a, 1) ms b t)) st := by
  obtain ⟨d, rfl⟩ : ∃ m, d = m + 1 := ⟨d - 1, by omega⟩
  obtain ⟨cb, dm, gc⟩ := case_W a0 a1 b0 b1 mo
  have ba : Bd 40 (a, 1) := int_bd a0 (by rw [p40]; omega) (by decide)
  have e : runP TT d 42 [tenc t, .tup [.int a, .int 1], .tup ms, .int b] st = .ok (fr (payT (a, 1) ms b t)) st := q_lpays (a, 1) ms b ba (Nat.gcd_one_right _) dm t d st w (by omega)
  conv => lhs; whnf
  rw [e]
  kernel_rfl
def Bad (p : PV) : Prop := p = .non ∨ p = .str "loss" ∨ p = .int (-1) ∨ p = .tup [] ∨ p = .bl true
def rT : PV → Bool
  | .tup (.str _ :: _) => true
  | _ => false
theorem rT_t (t : Trm) : rT (tenc t) = true := by cases t <;> rfl
theorem rT_b {p : PV} (h : Bad p) : rT p = false := by rcases h with rfl | rfl | rfl | rfl | rfl <;> rfl
theorem bad_noOb {p : PV} (h : Bad p) : noOb p = true := by rcases h with rfl | rfl | rfl | rfl | rfl <;> rfl
theorem bad_num {p : PV} (h : Bad p) {lo hi : Int} (l0 : 0 ≤ lo) : isNum p lo hi = false := by
  rcases h with rfl | rfl | rfl | rfl | rfl
  · rfl
  · rfl
  · show (decide (lo ≤ -1) && _) = false
    rw [decide_eq_false (by omega : ¬ lo ≤ -1), Bool.false_and]
  · rfl
  · rfl
theorem bad_cond {p : PV} (h : Bad p) : Cv.K02.cond 5 p = false := by rcases h with rfl | rfl | rfl | rfl | rfl <;> kernel_rfl
theorem bad_gd {p : PV} (h : Bad p) : gd 1 p = true := by rcases h with rfl | rfl | rfl | rfl | rfl <;> kernel_rfl
theorem bad_share {p : PV} (h : Bad p) (a : Int) : shareB (.int a) p = false := by rcases h with rfl | rfl | rfl | rfl | rfl <;> rfl
theorem bad_termof {p : PV} (h : Bad p) (n : Int) (d : Nat) (hd : 2 < d) (st : Sto) : runP TT d 19 [p, .int n] st = .ok (.bl (rT p)) st := by
  obtain ⟨d, rfl⟩ : ∃ m, d = m + 2 := ⟨d - 2, by omega⟩
  rcases h with rfl | rfl | rfl | rfl | rfl <;> kernel_rfl
theorem is_false {v : PV} {d : Nat} (hd : 0 < d) (h : ∀ st, runP TT (d - 1) 19 [v, .int 6] st = .ok (.bl false) st) (st : Sto) : runP TT d 18 [v] st = .ok (.bl false) st := by
  obtain ⟨d, rfl⟩ : ∃ m, d = m + 1 := ⟨d - 1, by omega⟩
  rw [Nat.add_sub_cancel] at h
  conv => lhs; whnf
  rw [h]
  kernel_rfl
theorem rw_ok {d : Nat} {n : Int} {b b' : Bool} {v : PV} {st : Sto} (h : runP TT d 19 [v, .int n] st = .ok (.bl b) st) (e : b = b') : runP TT d 19 [v, .int n] st = .ok (.bl b') st := e ▸ h
theorem tr {t : Trm} (w : twf t) (h : tdp t ≤ 3) (d : Nat) (hd : 20 < d) (st : Sto) : runP TT d 19 [tenc t, .int (6 - 1)] st = .ok (.bl (rT (tenc t))) st := by
  rw [rT_t]; exact q_termof t 5 d st w (by omega) (by omega)
theorem br {p : PV} (hp : Bad p) (d : Nat) (hd : 20 < d) (st : Sto) : runP TT d 19 [p, .int (6 - 1)] st = .ok (.bl (rT p)) st := bad_termof hp _ d (by omega) st
theorem head_bad {p : PV} (hp : Bad p) (q : List PV) (hq : 1 ≤ q.length ∧ q.length ≤ 3) (d : Nat) (hd : 3 < d) (st : Sto) : runP TT d 18 [.tup (p :: q)] st = .ok (.bl false) st := by
  obtain ⟨d, rfl⟩ : ∃ m, d = m + 3 := ⟨d - 3, by omega⟩
  match q, hq with
  | [y], _ => rcases hp with rfl | rfl | rfl | rfl | rfl <;> kernel_rfl
  | [y, z], _ => rcases hp with rfl | rfl | rfl | rfl | rfl <;> kernel_rfl
  | [y, z, u], _ => rcases hp with rfl | rfl | rfl | rfl | rfl <;> kernel_rfl
  | [], h => simp at h
  | _ :: _ :: _ :: _ :: _, h => simp at h
theorem head_bad1 {p : PV} (hp : p = .non ∨ p = .int (-1) ∨ p = .tup [] ∨ p = .bl true) (d : Nat) (hd : 3 < d) (st : Sto) : runP TT d 18 [.tup [p]] st = .ok (.bl false) st := by
  obtain ⟨d, rfl⟩ : ∃ m, d = m + 3 := ⟨d - 3, by omega⟩
  rcases hp with rfl | rfl | rfl | rfl <;> kernel_rfl
theorem ch_fixed_1 {p : PV} (hp : Bad p) (d : Nat) (hd : 22 < d) (st : Sto) : runP TT d 18 [.tup [.str "fixed", p]] st = .ok (.bl false) st :=
  is_false (by omega) (fun st => rw_ok (t_fixed p (bad_noOb hp) 6 (d - 1) (by omega) st) (bad_num hp (by decide))) st
theorem ch_layer_1 {p : PV} (hp : Bad p) (h : Option Int) (t : Trm) (w : twf t) (h3 : tdp t ≤ 3) (d : Nat) (hd : 22 < d) (st : Sto) : runP TT d 18 [.tup [.str "layer", p, optI h, tenc t]] st = .ok (.bl false) st := by
  refine is_false (by omega) (fun st => rw_ok (t_layer p (optI h) (tenc t) (bad_noOb hp) (opt_noOb h) rT 6 (by decide) (d - 1) (by omega) st (fun st => tr w h3 (d - 1 - 1) (by omega) st)) ?_) st
  rcases hp with rfl | rfl | rfl | rfl | rfl <;> rfl
theorem ch_layer_2 {p : PV} (hp : Bad p) (hn : p ≠ .non) (l : Int) (l0 : 0 ≤ l) (t : Trm) (w : twf t) (h3 : tdp t ≤ 3) (d : Nat) (hd : 22 < d) (st : Sto) : runP TT d 18 [.tup [.str "layer", .int l, p, tenc t]] st = .ok (.bl false) st := by
  refine is_false (by omega) (fun st => rw_ok (t_layer (.int l) p (tenc t) rfl (bad_noOb hp) rT 6 (by decide) (d - 1) (by omega) st (fun st => tr w h3 (d - 1 - 1) (by omega) st)) ?_) st
  show (isNum (.int l) 0 1000000000 && ((isNon p || isNum p l 1000000000) && rT (tenc t))) = false
  have e : isNon p = false := by rcases hp with rfl | rfl | rfl | rfl | rfl <;> first | rfl | exact absurd rfl hn
  rw [e, bad_num hp l0, Bool.false_or, Bool.false_and, Bool.and_false]
theorem ch_layer_3 {p : PV} (hp : Bad p) (l : Int) (h : Option Int) (d : Nat) (hd : 22 < d) (st : Sto) : runP TT d 18 [.tup [.str "layer", .int l, optI h, p]] st = .ok (.bl false) st := by
  refine is_false (by omega) (fun st => rw_ok (t_layer (.int l) (optI h) p rfl (opt_noOb h) rT 6 (by decide) (d - 1) (by omega) st (fun st => br hp (d - 1 - 1) (by omega) st)) ?_) st
  show (isNum (.int l) 0 1000000000 && ((isNon (optI h) || isNum (optI h) l 1000000000) && rT p)) = false
  rw [rT_b hp, Bool.and_false, Bool.and_false]
theorem ch_share_1 {p : PV} (hp : Bad p) (b : Int) (t : Trm) (w : twf t) (h3 : tdp t ≤ 3) (d : Nat) (hd : 22 < d) (st : Sto) : runP TT d 18 [.tup [.str "share", p, .int b, tenc t]] st = .ok (.bl false) st := by
  refine is_false (by omega) (fun st => rw_ok (t_share p (.int b) (tenc t) (bad_noOb hp) rfl rT 6 (by decide) (d - 1) (by omega) st (fun st => tr w h3 (d - 1 - 1) (by omega) st)) ?_) st
  show ((isNum (.int b) 1 100 && isNum p 0 b) && rT (tenc t)) = false
  rw [bad_num hp (by decide), Bool.and_false, Bool.false_and]
theorem ch_share_2 {p : PV} (hp : Bad p) (a : Int) (t : Trm) (w : twf t) (h3 : tdp t ≤ 3) (d : Nat) (hd : 22 < d) (st : Sto) : runP TT d 18 [.tup [.str "share", .int a, p, tenc t]] st = .ok (.bl false) st := by
  refine is_false (by omega) (fun st => rw_ok (t_share (.int a) p (tenc t) rfl (bad_noOb hp) rT 6 (by decide) (d - 1) (by omega) st (fun st => tr w h3 (d - 1 - 1) (by omega) st)) ?_) st
  rw [bad_share hp, Bool.false_and]
theorem ch_share_3 {p : PV} (hp : Bad p) (a b : Int) (d : Nat) (hd : 22 < d) (st : Sto) : runP TT d 18 [.tup [.str "share", .int a, .int b, p]] st = .ok (.bl false) st := by
  refine is_false (by omega) (fun st => rw_ok (t_share (.int a) (.int b) p rfl rfl rT 6 (by decide) (d - 1) (by omega) st (fun st => br hp (d - 1 - 1) (by omega) st)) ?_) st
  rw [rT_b hp, Bool.and_false]
theorem ch_when_1 {p : PV} (hp : Bad p) (t : Trm) (w : twf t) (h3 : tdp t ≤ 3) (d : Nat) (hd : 22 < d) (st : Sto) : runP TT d 18 [.tup [.str "when", p, tenc t]] st = .ok (.bl false) st := by
  refine is_false (by omega) (fun st => rw_ok (t_when p (tenc t) 1 (bad_gd hp) (by decide) rT 6 (by decide) (d - 1) (by omega) st (fun st => tr w h3 (d - 1 - 1) (by omega) st)) ?_) st
  rw [bad_cond hp, Bool.false_and]
theorem ch_when_2 {p : PV} (hp : Bad p) (c : Cnd) (h5 : dp c ≤ 5) (d : Nat) (hd : 22 < d) (st : Sto) : runP TT d 18 [.tup [.str "when", enc c, p]] st = .ok (.bl false) st := by
  refine is_false (by omega) (fun st => rw_ok (t_when (enc c) p (dp c + 1) (gd_enc c _ (by omega)) (by omega) rT 6 (by decide) (d - 1) (by omega) st (fun st => br hp (d - 1 - 1) (by omega) st)) ?_) st
  rw [rT_b hp, Bool.and_false]
theorem ch_both_1 {p : PV} (hp : Bad p) (u : Trm) (w : twf u) (h3 : tdp u ≤ 3) (d : Nat) (hd : 22 < d) (st : Sto) : runP TT d 18 [.tup [.str "both", p, tenc u]] st = .ok (.bl false) st := by
  refine is_false (by omega) (fun st => rw_ok (t_both p (tenc u) rT 6 (by decide) (d - 1) (by omega) st (fun st => br hp (d - 1 - 1) (by omega) st) (fun st => tr w h3 (d - 1 - 1) (by omega) st)) ?_) st
  rw [rT_b hp, Bool.false_and]
theorem ch_both_2 {p : PV} (hp : Bad p) (u : Trm) (w : twf u) (h3 : tdp u ≤ 3) (d : Nat) (hd : 22 < d) (st : Sto) : runP TT d 18 [.tup [.str "both", tenc u, p]] st = .ok (.bl false) st := by
  refine is_false (by omega) (fun st => rw_ok (t_both (tenc u) p rT 6 (by decide) (d - 1) (by omega) st (fun st => tr w h3 (d - 1 - 1) (by omega) st) (fun st => br hp (d - 1 - 1) (by omega) st)) ?_) st
  rw [rT_b hp, Bool.and_false]
theorem ch_rest_1 {p : PV} (hp : Bad p) (u : Trm) (w : twf u) (h3 : tdp u ≤ 3) (d : Nat) (hd : 22 < d) (st : Sto) : runP TT d 18 [.tup [.str "rest", p, tenc u]] st = .ok (.bl false) st := by
  refine is_false (by omega) (fun st => rw_ok (t_rest p (tenc u) rT 6 (by decide) (d - 1) (by omega) st (fun st => br hp (d - 1 - 1) (by omega) st) (fun st => tr w h3 (d - 1 - 1) (by omega) st)) ?_) st
  rw [rT_b hp, Bool.false_and]
theorem ch_rest_2 {p : PV} (hp : Bad p) (u : Trm) (w : twf u) (h3 : tdp u ≤ 3) (d : Nat) (hd : 22 < d) (st : Sto) : runP TT d 18 [.tup [.str "rest", tenc u, p]] st = .ok (.bl false) st := by
  refine is_false (by omega) (fun st => rw_ok (t_rest (tenc u) p rT 6 (by decide) (d - 1) (by omega) st (fun st => tr w h3 (d - 1 - 1) (by omega) st) (fun st => br hp (d - 1 - 1) (by omega) st)) ?_) st
  rw [rT_b hp, Bool.and_false]
theorem ch_least_1 {p : PV} (hp : Bad p) (u : Trm) (w : twf u) (h3 : tdp u ≤ 3) (d : Nat) (hd : 22 < d) (st : Sto) : runP TT d 18 [.tup [.str "least", p, tenc u]] st = .ok (.bl false) st := by
  refine is_false (by omega) (fun st => rw_ok (t_least p (tenc u) rT 6 (by decide) (d - 1) (by omega) st (fun st => br hp (d - 1 - 1) (by omega) st) (fun st => tr w h3 (d - 1 - 1) (by omega) st)) ?_) st
  rw [rT_b hp, Bool.false_and]
theorem ch_least_2 {p : PV} (hp : Bad p) (u : Trm) (w : twf u) (h3 : tdp u ≤ 3) (d : Nat) (hd : 22 < d) (st : Sto) : runP TT d 18 [.tup [.str "least", tenc u, p]] st = .ok (.bl false) st := by
  refine is_false (by omega) (fun st => rw_ok (t_least (tenc u) p rT 6 (by decide) (d - 1) (by omega) st (fun st => tr w h3 (d - 1 - 1) (by omega) st) (fun st => br hp (d - 1 - 1) (by omega) st)) ?_) st
  rw [rT_b hp, Bool.and_false]
theorem ch_most_1 {p : PV} (hp : Bad p) (u : Trm) (w : twf u) (h3 : tdp u ≤ 3) (d : Nat) (hd : 22 < d) (st : Sto) : runP TT d 18 [.tup [.str "most", p, tenc u]] st = .ok (.bl false) st := by
  refine is_false (by omega) (fun st => rw_ok (t_most p (tenc u) rT 6 (by decide) (d - 1) (by omega) st (fun st => br hp (d - 1 - 1) (by omega) st) (fun st => tr w h3 (d - 1 - 1) (by omega) st)) ?_) st
  rw [rT_b hp, Bool.false_and]
theorem ch_most_2 {p : PV} (hp : Bad p) (u : Trm) (w : twf u) (h3 : tdp u ≤ 3) (d : Nat) (hd : 22 < d) (st : Sto) : runP TT d 18 [.tup [.str "most", tenc u, p]] st = .ok (.bl false) st := by
  refine is_false (by omega) (fun st => rw_ok (t_most (tenc u) p rT 6 (by decide) (d - 1) (by omega) st (fun st => tr w h3 (d - 1 - 1) (by omega) st) (fun st => br hp (d - 1 - 1) (by omega) st)) ?_) st
  rw [rT_b hp, Bool.and_false]
def cellsT (t : Trm) : List PV := match tenc t with
  | .tup xs => xs
  | _ => []
theorem cellsT_ok (t : Trm) : tenc t = .tup (cellsT t) := by cases t <;> rfl
theorem short_no (t : Trm) (d : Nat) (hd : 4 < d) (st : Sto) : runP TT d 18 [.tup (cellsT t).dropLast] st = .ok (.bl false) st := by
  obtain ⟨d, rfl⟩ : ∃ m, d = m + 3 := ⟨d - 3, by omega⟩
  cases t <;> kernel_rfl
theorem list_no (t : Trm) (d : Nat) (hd : 4 < d) (st : Sto) : runP TT d 18 [.lst (cellsT t)] st = .ok (.bl false) st := by
  obtain ⟨d, rfl⟩ : ∃ m, d = m + 3 := ⟨d - 3, by omega⟩
  cases t <;> kernel_rfl
end Cv.K02

set_option Elab.async false
set_option linter.all false
set_option maxRecDepth 100000
set_option maxHeartbeats 8000000
namespace Cv.K02
open PySem
def bodyL : Cs := match b62 with
  | .seq (.for_ _ _ b) _ => b
  | _ => .skip
def word : Trm → PV
  | .loss => .str "loss"
  | .fixed _ => .str "fixed"
  | .layer .. => .str "layer"
  | .share .. => .str "share"
  | .cond .. => .str "when"
  | .both .. => .str "both"
  | .rest .. => .str "rest"
  | .least .. => .str "least"
  | .most .. => .str "most"
def badT : Trm → Bool
  | .fixed _ => true
  | .both _ _ => true
  | _ => false
def badW : PV → Bool
  | .str s => decide (s = "fixed") || decide (s = "both")
  | _ => false
theorem badW_t (u : Trm) : badW (word u) = badT u := by cases u <;> kernel_rfl
def NO (s : Slt) : Prop := s = .no ∨ ∃ v, s = .val v
theorem plain_unf (u : Trm) : (!plainT u) = (badT u || (kidsT u).any fun x => !plainT x) := by
  cases u <;> simp [plainT, badT, kidsT]
def szL (l : List Trm) : Nat := (l.map tsz).sum
theorem tsz_unf (u : Trm) : tsz u = szL (kidsT u) + 1 := by
  cases u <;> simp [tsz, szL, kidsT] <;> omega
theorem szL_app (a b : List Trm) : szL (a ++ b) = szL a + szL b := by simp [szL]
theorem names_ok (t : Trm) (sc j dn s4 s5 s6 s7 s8 s9 s10 s11 : Slt) (h11 : NO s11) (d : Nat) (hd : 0 < d) (st : Sto) (kk kc : Kn) :
    exs (headC 1 (tailC 2 bodyL)) (runP TT d) [sc, j, dn, .val (tenc t), s4, s5, s6, s7, s8, s9, s10, s11, .no] st kk kc = kk [sc, j, dn, .val (tenc t), .own ((t :: kidsT t).map word), .val (.lst ([t].map tenc)), s6, s7, s8, s9, s10, s11, .no] st := by
  obtain ⟨d, rfl⟩ : ∃ m, d = m + 1 := ⟨d - 1, by omega⟩
  have go : ∀ u : Trm, (∃ s r, tenc u = .tup (.str s :: r) ∧ word u = .str s) := fun u => by cases u <;> exact ⟨_, _, rfl, rfl⟩
  rcases h11 with rfl | ⟨v, rfl⟩
  all_goals
    cases t with
    | loss => kernel_rfl
    | fixed n => kernel_rfl
    | layer l h t => cases t <;> kernel_rfl
    | share a b t => cases t <;> kernel_rfl
    | cond c t => cases t <;> kernel_rfl
    | both t u => cases t <;> cases u <;> kernel_rfl
    | rest t u => cases t <;> cases u <;> kernel_rfl
    | least t u => cases t <;> cases u <;> kernel_rfl
    | most t u => cases t <;> cases u <;> kernel_rfl
end Cv.K02

set_option Elab.async false
set_option linter.all false
set_option maxRecDepth 100000
set_option maxHeartbeats 8000000
namespace Cv.K02
open PySem
def forB : Cs := headC 0 (tailC 4 bodyL)
def B5 : Cs := match forB with
  | .for_ _ _ b => b
  | _ => .skip
theorem ixw (u : Trm) (st : Sto) : ixS st (.val (tenc u)) (.int 0) = some (word u) := by cases u <;> rfl
theorem cut1 (x : PV) (r : List PV) : cutP (x :: r) (some 1) none = r := by
  unfold cutP cutAt
  simp [List.take_of_length_le]
theorem turn_ok (u : Trm) (rest us : List Trm) (hr : rest.length ≤ 100) (hu : us.length ≤ 100) (sc j dn s3 s6 s7 s8 s9 s10 s11 : Slt) (d : Nat) (hd : 0 < d) (st : Sto) (kn kc : Kn) :
    exs B5 (runP TT d) [sc, j, dn, s3, .own (us.map word), .val (.lst ((u :: rest).map tenc)), s6, s7, s8, s9, s10, s11, .no] st kn kc
      = kn [sc, j, dn, s3, .own (us.map word ++ [word u]), .val (.lst (rest.map tenc ++ (kidsT u).map tenc)), s6, s7, s8, s9, s10, .val (tenc u), .no] st := by
  have lk : (kidsT u).length ≤ 2 := by cases u <;> simp [kidsT]
  have hc := cut1 (tenc u) (rest.map tenc)
  rw [← List.map_cons] at hc
  have hat : atP ((u :: rest).map tenc) 0 = some (tenc u) := by
    rw [List.map_cons]
    exact at_ok (xs := tenc u :: rest.map tenc) (i := 0) (by simp)
  have hl : 0 < ((u :: rest).map tenc).length := by simp
  generalize (u :: rest).map tenc = xs at *
  have hb : Nat.blt (us.map word).length lineP = true := by rw [Nat.blt_eq, List.length_map]; exact Nat.lt_of_le_of_lt hu (by decide)
  generalize us.map word = ns at *
  have e0 : decide ((0 : Int) < (xs.length : Int)) = true := decide_eq_true (by omega)
  have ix5 : ∀ st, ixS st (.val (.lst xs)) (.int 0) = some (tenc u) := fun st => hat
  have ix11 := ixw u
  have ap : ∀ s6, appS (word u) [sc, j, dn, s3, .own ns, .val (.lst xs), s6, s7, s8, s9, s10, .val (tenc u), .no] 4 = some [sc, j, dn, s3, .own (ns ++ [word u]), .val (.lst xs), s6, s7, s8, s9, s10, .val (tenc u), .no] := fun s6 => by
    show cnd (Nat.blt ns.length lineP) (some _) none = _
    rw [hb]; rfl
  conv => lhs; whnf
  try simp only [frz, frzAll, wipeS, backS, getS, setS, mkSlot_f]
  rw [e0]
  try simp only [frz, frzAll, wipeS, backS, getS, setS, mkSlot_f]
  conv => lhs; whnf
  try simp only [frz, frzAll, wipeS, backS, getS, setS, mkSlot_f]
  rw [ix5]
  try simp only [frz, frzAll, wipeS, backS, getS, setS, mkSlot_f]
  conv => lhs; whnf
  try simp only [frz, frzAll, wipeS, backS, getS, setS, mkSlot_f]
  rw [ix11]
  try simp only [frz, frzAll, wipeS, backS, getS, setS, mkSlot_f]
  conv => lhs; whnf
  try simp only [frz, frzAll, wipeS, backS, getS, setS, mkSlot_f]
  rw [ap]
  try simp only [frz, frzAll, wipeS, backS, getS, setS, mkSlot_f]
  conv => lhs; whnf
  try simp only [frz, frzAll, wipeS, backS, getS, setS, mkSlot_f]
  rw [q_inner u d hd]
  try simp only [frz, frzAll, wipeS, backS, getS, setS, mkSlot_f]
  conv => lhs; whnf
  try simp only [frz, frzAll, wipeS, backS, getS, setS, mkSlot_f]
  rw [add_lst (by rw [hc, List.length_map, List.length_map]; omega), hc]
  try simp only [frz, frzAll, wipeS, backS, getS, setS, mkSlot_f]
  rfl
theorem turn_no (sc j dn s3 s4 s6 s7 s8 s9 s10 s11 : Slt) (F : Cl) (st : Sto) (kn kc : Kn) :
    exs B5 F [sc, j, dn, s3, s4, .val (.lst []), s6, s7, s8, s9, s10, s11, .no] st kn kc = kn [sc, j, dn, s3, s4, .val (.lst []), s6, s7, s8, s9, s10, s11, .no] st := by
  kernel_rfl
/-- all of a term's names are met -/
def IB (t : Trm) (sc j dn s7 s8 s9 s10 : Slt) (st0 : Sto) (n : Nat) (ρ : Evn) (st : Sto) : Prop :=
  ∃ (us left : List Trm) (s6 s11 : Slt), ρ = [sc, j, dn, .val (tenc t), .own (us.map word), .val (.lst (left.map tenc)), s6, s7, s8, s9, s10, s11, .no] ∧ st = st0 ∧ NO s11 ∧
    (us.any badT || left.any fun x => !plainT x) = !plainT t ∧ (left = [] ∨ szL left + n ≤ 15) ∧ us.length ≤ 3 + n
theorem bfs_ok (t : Trm) (h3 : tdp t ≤ 3) (sc j dn s6 s7 s8 s9 s10 s11 : Slt) (h11 : NO s11) (d : Nat) (hd : 0 < d) (st : Sto) (kn kc : Kn) (Q : PV → Sto → Prop)
    (hk : ∀ (us : List Trm) (s5 s6 s11 : Slt), NO s11 → us.length ≤ 40 → us.any badT = (!plainT t) → Ends (kn [sc, j, dn, .val (tenc t), .own (us.map word), s5, s6, s7, s8, s9, s10, s11, .no] st) Q) :
    Ends (exs forB (runP TT d) [sc, j, dn, .val (tenc t), .own ((t :: kidsT t).map word), .val (.lst ([t].map tenc)), s6, s7, s8, s9, s10, s11, .no] st kn kc) Q := by
  have e : exs forB (runP TT d) [sc, j, dn, .val (tenc t), .own ((t :: kidsT t).map word), .val (.lst ([t].map tenc)), s6, s7, s8, s9, s10, s11, .no] st kn kc = forGo (.n 6) (exs B5 (runP TT d)) (upto 0 30) [sc, j, dn, .val (tenc t), .own ((t :: kidsT t).map word), .val (.lst ([t].map tenc)), s6, s7, s8, s9, s10, s11, .no] st kn := by kernel_rfl
  rw [e]
  have s15 := sz_15 h3
  have lk : (kidsT t).length ≤ 2 := by cases t <;> simp [kidsT]
  refine forR (IB t sc j dn s7 s8 s9 s10 st) _ 0 _ _ _ ⟨t :: kidsT t, [t], s6, s11, rfl, rfl, h11, ?_, ?_, ?_⟩ ?_ ?_
  · have pu := plain_unf t
    have kb : ((kidsT t).any badT = true → plainT t = false) := by
      cases t <;> simp [kidsT, plainT] <;> (try rename_i a b; cases a <;> simp [badT, plainT]) <;> (try (cases b <;> simp [badT, plainT])) <;> (try (rename_i x y z; cases z <;> simp [badT, plainT])) <;> (try (rename_i x y; cases y <;> simp [badT, plainT]))
    simp only [List.any_cons, List.any_nil, Bool.or_false]
    cases hp : plainT t with
    | false => simp
    | true =>
      rw [hp] at pu
      have b1 : badT t = false := by cases h : badT t <;> simp_all
      have b2 : (kidsT t).any badT = false := by
        cases h : (kidsT t).any badT with
        | false => rfl
        | true => rw [kb h] at hp; cases hp
      rw [b1, b2]; rfl
  · right; show ([t].map tsz).sum + 0 ≤ 15; simp; omega
  · simp; omega
  · intro n x ρ st1 hx ⟨us, left, s6, s11, eρ, est, hno, inv, hs, hu⟩
    subst eρ est
    have hn : n < 30 := (upto_getM 30 0 n x hx).2
    refine ⟨_, rfl, fun kn kc hk _ => ?_⟩
    cases left with
    | nil =>
      show Ends (exs B5 (runP TT d) [sc, j, dn, .val (tenc t), .own (us.map word), .val (.lst []), .val x, s7, s8, s9, s10, s11, .no] st1 kn kc) _
      rw [turn_no]
      exact hk _ _ ⟨us, [], .val x, s11, rfl, rfl, hno, inv, .inl rfl, by omega⟩
    | cons u rest =>
      have hs' : szL (u :: rest) + (0 + n) ≤ 15 := by
        rcases hs with h | h
        · cases h
        · exact h
      have e2 : szL (u :: rest) = tsz u + szL rest := by simp [szL]
      have eu := tsz_unf u
      have lr : rest.length ≤ szL rest := by
        have : ∀ l : List Trm, l.length ≤ szL l := fun l => by
          induction l with
          | nil => simp
          | cons a l ih => have := tsz_unf a; simp [szL] at *; omega
        exact this rest
      show Ends (exs B5 (runP TT d) [sc, j, dn, .val (tenc t), .own (us.map word), .val (.lst ((u :: rest).map tenc)), .val x, s7, s8, s9, s10, s11, .no] st1 kn kc) _
      rw [turn_ok u rest us (by omega) (by omega) _ _ _ _ _ _ _ _ _ _ d hd]
      refine hk _ _ ⟨us ++ [u], rest ++ kidsT u, .val x, .val (tenc u), by simp, rfl, .inr ⟨_, rfl⟩, ?_, ?_, by simp; omega⟩
      · rw [← inv]
        simp only [List.any_append, List.any_cons, List.any_nil, Bool.or_false]
        rw [plain_unf u]
        cases us.any badT <;> cases badT u <;> cases rest.any (fun x => !plainT x) <;> cases (kidsT u).any (fun x => !plainT x) <;> rfl
      · right; rw [szL_app]; omega
  · intro ρ st1 ⟨us, left, s6, s11, eρ, est, hno, inv, hs, hu⟩
    subst eρ est
    rw [upto_lenM] at hs hu
    have l0 : left = [] := by
      rcases hs with h | h
      · exact h
      · omega
    subst l0
    refine hk us _ s6 s11 hno (by omega) ?_
    simpa using inv
end Cv.K02

set_option Elab.async false
set_option linter.all false
set_option maxRecDepth 100000
set_option maxHeartbeats 8000000
namespace Cv.K02
open PySem
theorem Ends_eq {r r' : Res} {Q : PV → Sto → Prop} (e : r = r') (h : Ends r' Q) : Ends r Q := e ▸ h
theorem in_bad (u : Trm) : cmpP .inn (word u) (.tup [.str "fixed", .str "both"]) = some (badW (word u)) := by cases u <;> kernel_rfl
theorem names_check (t : Trm) (w : twf t) (h3 : tdp t ≤ 3) (us : List Trm) (hu : us.length ≤ 40) (inv : us.any badT = !plainT t) (sc j dn s5 s6 s7 s8 s9 s10 s11 : Slt) (d : Nat) (hd : 30 < d) (st : Sto) (kn kc : Kn) (Q : PV → Sto → Prop)
    (hk : Ends (kn [sc, j, dn, .val (tenc t), .val (.lst (us.map word)), s5, s6, s7, s8, s9, s10, s11, .no] st) Q) :
    Ends (exs (headC 0 (tailC 5 bodyL)) (runP TT d) [sc, j, dn, .val (tenc t), .own (us.map word), s5, s6, s7, s8, s9, s10, s11, .no] st kn kc) Q := by
  have ae : (us.map word).any badW = !plainT t := by
    rw [List.any_map, ← inv]
    congr 1; funext u; exact badW_t u
  have hw : ∀ x ∈ us.map word, ∃ u, x = word u := fun x hx => by
    obtain ⟨u, _, rfl⟩ := List.mem_map.mp hx
    exact ⟨u, rfl⟩
  have hl : (us.map word).length ≤ 40 := by rw [List.length_map]; exact hu
  generalize us.map word = ns at *
  conv => arg 1; whnf
  try simp only [frz, frzAll, wipeS, backS, getS, setS, mkSlot_f]
  rw [q_isplain t w h3 d (by omega)]
  try simp only [frz, frzAll, wipeS, backS, getS, setS, mkSlot_f]
  conv => arg 1; whnf
  try simp only [frz, frzAll, wipeS, backS, getS, setS, mkSlot_f]
  refine Ends_eq (lcGo_pure (i := 12) (fun x => .bl (badW x)) [sc, j, dn, .val (tenc t), .val (.lst ns), s5, s6, s7, s8, s9, s10, s11, .no] ns .no st _ (fun _ _ _ _ => rfl) ?_) ?_
  · intro x hx st k
    obtain ⟨u, rfl⟩ := hw x hx
    conv => lhs; whnf
    rw [in_bad u]
    rfl
  have ft : fits (ns.map fun x => PV.bl (badW x)).length = true := fits_10k (by rw [List.length_map]; omega)
  conv => arg 1; whnf
  try simp only [frz, frzAll, wipeS, backS, getS, setS, mkSlot_f]
  rw [ft]
  conv => arg 1; whnf
  try simp only [frz, frzAll, wipeS, backS, getS, setS, mkSlot_f]
  rw [biP_any, ae]
  cases plainT t with
  | false =>
    conv => arg 1; whnf
    exact hk
  | true =>
    conv => arg 1; whnf
    exact hk
def for7 : Cs := headC 0 (tailC 6 bodyL)
def B7 : Cs := match for7 with
  | .for_ _ _ b => b
  | _ => .skip
theorem fr_eq (x : Fr) : eqP (fr x) (fr x) = true := by
  show ((x.1 == x.1) && ((x.2 == x.2) && true)) = true
  simp
abbrev mosts : List PV := [.int 6, .int 30, .int ((10 : Int) ^ Int.toNat 9)]
theorem turn7 (t : Trm) (w : twf t) (h3 : tdp t ≤ 3) (n k : Nat) (hk6 : k + 4 ≤ 1000000) (sc j s4 s5 s6 s7 s8 s9 s10 s11 : Slt) (d : Nat) (hd : 30 < d) (st : Sto) (hD : Dice n k st) (kn kc : Kn) (Q : PV → Sto → Prop)
    (hk : ∀ s10 s11 st, NO s11 → Dice n (k + 4) st → Ends (kn [sc, j, .val (.ob n), .val (tenc t), s4, s5, s6, s7, s8, s9, s10, s11, .no] st) Q) :
    Ends (exs B7 (runP TT d) [sc, j, .val (.ob n), .val (tenc t), s4, s5, s6, s7, s8, s9, s10, s11, .no] st kn kc) Q := by
  obtain ⟨m', st1, e1, m1, h1, l1⟩ := Q_pick (d := d) (by omega) hD mosts (by decide) (by decide) (by omega)
  obtain ⟨most, rfl, q0, q1⟩ := isNum_int (List.all_eq_true.mp (show mosts.all (fun x => isNum x 0 1000000000) = true by decide +kernel) _ m1)
  obtain ⟨a, b, ms, st2, e2, a0, a1, b0, b1, mo, h2, l2⟩ := q_mkcaseW n (k + 1) d (by omega) most q0 q1 st1 h1 (by omega)
  obtain ⟨cb, dm, gc⟩ := case_W a0 a1 b0 b1 mo
  have ba : Bd 40 (a, 1) := int_bd a0 (by rw [p40]; omega) (by decide)
  have ra : Red (a, 1) := Nat.gcd_one_right _
  have po := pay_ok (a, 1) ms b ba ra t w
  have k4 := kb_4 (t := t) (by omega)
  have eu : runP TT d 38 [.tup [.int a, .int 1], fr (payT (a, 1) ms b t)] st2 = .ok (.bl (ltF (a, 1) (payT (a, 1) ms b t))) st2 := q_under ba po.1 (by omega) d (by omega) st2
  conv => arg 1; whnf
  try simp only [frz, frzAll, wipeS, backS, getS, setS, mkSlot_f]
  rw [e1]
  try simp only [frz, frzAll, wipeS, backS, getS, setS, mkSlot_f]
  conv => arg 1; whnf
  try simp only [frz, frzAll, wipeS, backS, getS, setS, mkSlot_f]
  rw [e2]
  try simp only [frz, frzAll, wipeS, backS, getS, setS, mkSlot_f]
  conv => arg 1; whnf
  try simp only [frz, frzAll, wipeS, backS, getS, setS, mkSlot_f]
  rw [q_pays t w h3 a0 a1 b0 b1 mo d (by omega)]
  try simp only [frz, frzAll, wipeS, backS, getS, setS, mkSlot_f]
  conv => arg 1; whnf
  try simp only [frz, frzAll, wipeS, backS, getS, setS, mkSlot_f]
  rw [q_lin t w h3 a0 a1 b0 b1 mo d (by omega)]
  try simp only [frz, frzAll, wipeS, backS, getS, setS, mkSlot_f]
  have fin := hk (.val (.tup [.int a, .tup ms, .int b])) (.val (fr (payT (a, 1) ms b t))) st2 (.inr ⟨_, rfl⟩) (dice_mono h2 (by omega))
  generalize hy : payT (a, 1) ms b t = y at *
  conv => arg 1; whnf
  try simp only [frz, frzAll, wipeS, backS, getS, setS, mkSlot_f]
  rw [fr_eq]
  try simp only [frz, frzAll, wipeS, backS, getS, setS, mkSlot_f]
  conv => arg 1; whnf
  try simp only [frz, frzAll, wipeS, backS, getS, setS, mkSlot_f]
  rw [q_isplain t w h3 d (by omega)]
  try simp only [frz, frzAll, wipeS, backS, getS, setS, mkSlot_f]
  cases hp : plainT t with
  | false =>
    conv => arg 1; whnf
    exact fin
  | true =>
    have pl := (plain_le (a, 1) ms b ba ra a0 t w hp).2
    rw [hy] at pl
    conv => arg 1; whnf
    try simp only [frz, frzAll, wipeS, backS, getS, setS, mkSlot_f]
    rw [eu, not_under pl]
    try simp only [frz, frzAll, wipeS, backS, getS, setS, mkSlot_f]
    conv => arg 1; whnf
    exact fin
theorem turns7 (t : Trm) (w : twf t) (h3 : tdp t ≤ 3) (n : Nat) (sc j s4 s5 s6 s7 s8 s9 s10 s11 : Slt) (h11 : NO s11) (d : Nat) (hd : 30 < d) (st : Sto) (hD : Dice n 10000 st) (kn kc : Kn) (Q : PV → Sto → Prop)
    (hk : ∀ s6 s10 s11 st, NO s11 → Dice n 20000 st → Ends (kn [sc, j, .val (.ob n), .val (tenc t), s4, s5, s6, s7, s8, s9, s10, s11, .no] st) Q) :
    Ends (exs for7 (runP TT d) [sc, j, .val (.ob n), .val (tenc t), s4, s5, s6, s7, s8, s9, s10, s11, .no] st kn kc) Q := by
  have e : exs for7 (runP TT d) [sc, j, .val (.ob n), .val (tenc t), s4, s5, s6, s7, s8, s9, s10, s11, .no] st kn kc = forGo (.n 6) (exs B7 (runP TT d)) (upto 0 6) [sc, j, .val (.ob n), .val (tenc t), s4, s5, s6, s7, s8, s9, s10, s11, .no] st kn := by kernel_rfl
  rw [e]
  refine forR (fun m ρ st => ∃ s6 s10 s11, ρ = [sc, j, .val (.ob n), .val (tenc t), s4, s5, s6, s7, s8, s9, s10, s11, .no] ∧ NO s11 ∧ Dice n (10000 + 4 * m) st) _ 0 _ _ _ ⟨_, _, _, rfl, h11, hD⟩ ?_ ?_
  · intro m x ρ st1 hx ⟨s6, s10, s11, eρ, hno, hd1⟩
    subst eρ
    have hm : m < 6 := (upto_getM 6 0 m x hx).2
    refine ⟨_, rfl, fun kn kc hk _ => ?_⟩
    exact turn7 t w h3 n (10000 + 4 * (0 + m)) (by omega) sc j s4 s5 (.val x) s7 s8 s9 s10 s11 d hd st1 hd1 kn kc _ (fun s10 s11 st h1 h2 => hk _ _ ⟨_, _, _, rfl, h1, by rw [show 10000 + 4 * (0 + m + 1) = 10000 + 4 * (0 + m) + 4 by omega]; exact h2⟩)
  · intro ρ st1 ⟨s6, s10, s11, eρ, hno, hd1⟩
    subst eρ
    rw [upto_lenM] at hd1
    exact hk _ _ _ _ hno (dice_mono hd1 (by omega))
end Cv.K02

set_option Elab.async false
set_option linter.all false
set_option maxRecDepth 100000
set_option maxHeartbeats 8000000
namespace Cv.K02
open PySem
abbrev ps : List PV := [.non, .str "loss", .int (-1), .tup [], .bl true]
/-- the end of a turn, when the changed term is told -/
theorem last_ok (t : Trm) (d : Nat) (hd : 30 < d) (g : Bool) (ch : PV) (st : Sto) (e : runP TT d 18 [ch] st = .ok (.bl g) st) (sc j dn s4 s5 s6 s7 s10 s11 : Slt) (kn kc : Kn) (Q : PV → Sto → Prop)
    (hk : Ends (kn [sc, j, dn, .val (tenc t), s4, s5, s6, s7, .val ch, .val (.bl g), s10, s11, .no] st) Q) :
    Ends (exs (tailC 10 bodyL) (runP TT d) [sc, j, dn, .val (tenc t), s4, s5, s6, s7, .val ch, .val (.bl g), s10, s11, .no] st kn kc) Q := by
  have e1 := short_no t d (by omega) st
  have e2 := list_no t d (by omega) st
  have em : ∀ xs : List PV, cutP xs none (some (-1)) = xs.dropLast := fun xs => by
    unfold cutP cutAt
    rcases Nat.eq_zero_or_pos xs.length with z | z
    · have : xs = [] := List.eq_nil_of_length_eq_zero z
      subst this; rfl
    · have : ((-1 : Int) + (xs.length : Int)).toNat = xs.length - 1 := by omega
      simp [this, List.dropLast_eq_take]
  rw [cellsT_ok t] at hk ⊢
  generalize cellsT t = xs at *
  conv => arg 1; whnf
  try simp only [frz, frzAll, wipeS, backS, getS, setS, mkSlot_f]
  rw [e]
  try simp only [frz, frzAll, wipeS, backS, getS, setS, mkSlot_f]
  cases g
  all_goals
    conv => arg 1; whnf
    try simp only [frz, frzAll, wipeS, backS, getS, setS, mkSlot_f]
    rw [em, e1]
    try simp only [frz, frzAll, wipeS, backS, getS, setS, mkSlot_f]
    conv => arg 1; whnf
    try simp only [frz, frzAll, wipeS, backS, getS, setS, mkSlot_f]
    rw [e2]
    try simp only [frz, frzAll, wipeS, backS, getS, setS, mkSlot_f]
    conv => arg 1; whnf
    exact hk
theorem tl_loss (w : twf (Trm.loss)) (h3 : tdp (Trm.loss) ≤ 3) (n : Nat) (sc j s4 s5 s6 s7 s8 s9 s10 s11 : Slt) (h11 : NO s11) (d : Nat) (hd : 30 < d) (st : Sto) (hD : Dice n 20000 st) (kn kc : Kn) (Q : PV → Sto → Prop)
    (hk : ∀ s7 s8 s9 st, Ends (kn [sc, j, .val (.ob n), .val (tenc (Trm.loss)), s4, s5, s6, s7, s8, s9, s10, s11, .no] st) Q) :
    Ends (exs (tailC 7 bodyL) (runP TT d) [sc, j, .val (.ob n), .val (tenc (Trm.loss)), s4, s5, s6, s7, s8, s9, s10, s11, .no] st kn kc) Q := by
  obtain ⟨i, st1, e1, i0, i1, h1, l1⟩ := Q_roll (d := d) (by omega) hD (t := (([.str "loss"] : List PV).length : Int)) (by simp) (by simp) (by omega)
  have i2 : i < 1 := by simpa using i1
  obtain ⟨p, st2, e2, m2, h2, l2⟩ := Q_pick (d := d) (by omega) h1 ps (by decide) (by decide) (by omega)
  conv => arg 1; whnf
  try simp only [frz, frzAll, wipeS, backS, getS, setS, mkSlot_f]
  rw [e1]
  try simp only [frz, frzAll, wipeS, backS, getS, setS, mkSlot_f]
  simp only [ps, List.mem_cons, List.not_mem_nil, or_false] at m2
  obtain rfl : i = 0 := by omega
  · conv => arg 1; whnf
    try simp only [frz, frzAll, wipeS, backS, getS, setS, mkSlot_f]
    rw [e2]
    rcases m2 with rfl | rfl | rfl | rfl | rfl
    · refine Ends_eq (r' := exs (tailC 10 bodyL) (runP TT d) [sc, j, .val (.ob n), .val (tenc (Trm.loss)), s4, s5, s6, .val (.int 0), .val (.tup [.non]), .val (.bl false), s10, s11, .no] st2 kn kc) (by kernel_rfl) ?_
      exact last_ok (Trm.loss) d hd false _ st2 (head_bad1 (by simp) d (by omega) _) _ _ _ _ _ _ _ _ _ _ _ _ (hk _ _ _ _)
    · refine Ends_eq (r' := exs (tailC 10 bodyL) (runP TT d) [sc, j, .val (.ob n), .val (tenc (Trm.loss)), s4, s5, s6, .val (.int 0), .val (.tup [.str "loss"]), .val (.bl true), s10, s11, .no] st2 kn kc) (by kernel_rfl) ?_
      exact last_ok (Trm.loss) d hd true _ st2 (q_isterm .loss trivial (by decide) d (by omega) _) _ _ _ _ _ _ _ _ _ _ _ _ (hk _ _ _ _)
    · refine Ends_eq (r' := exs (tailC 10 bodyL) (runP TT d) [sc, j, .val (.ob n), .val (tenc (Trm.loss)), s4, s5, s6, .val (.int 0), .val (.tup [.int (-1)]), .val (.bl false), s10, s11, .no] st2 kn kc) (by kernel_rfl) ?_
      exact last_ok (Trm.loss) d hd false _ st2 (head_bad1 (by simp) d (by omega) _) _ _ _ _ _ _ _ _ _ _ _ _ (hk _ _ _ _)
    · refine Ends_eq (r' := exs (tailC 10 bodyL) (runP TT d) [sc, j, .val (.ob n), .val (tenc (Trm.loss)), s4, s5, s6, .val (.int 0), .val (.tup [.tup []]), .val (.bl false), s10, s11, .no] st2 kn kc) (by kernel_rfl) ?_
      exact last_ok (Trm.loss) d hd false _ st2 (head_bad1 (by simp) d (by omega) _) _ _ _ _ _ _ _ _ _ _ _ _ (hk _ _ _ _)
    · refine Ends_eq (r' := exs (tailC 10 bodyL) (runP TT d) [sc, j, .val (.ob n), .val (tenc (Trm.loss)), s4, s5, s6, .val (.int 0), .val (.tup [.bl true]), .val (.bl false), s10, s11, .no] st2 kn kc) (by kernel_rfl) ?_
      exact last_ok (Trm.loss) d hd false _ st2 (head_bad1 (by simp) d (by omega) _) _ _ _ _ _ _ _ _ _ _ _ _ (hk _ _ _ _)
theorem tl_fixed (q : Int) (w : twf (Trm.fixed q)) (h3 : tdp (Trm.fixed q) ≤ 3) (n : Nat) (sc j s4 s5 s6 s7 s8 s9 s10 s11 : Slt) (h11 : NO s11) (d : Nat) (hd : 30 < d) (st : Sto) (hD : Dice n 20000 st) (kn kc : Kn) (Q : PV → Sto → Prop)
    (hk : ∀ s7 s8 s9 st, Ends (kn [sc, j, .val (.ob n), .val (tenc (Trm.fixed q)), s4, s5, s6, s7, s8, s9, s10, s11, .no] st) Q) :
    Ends (exs (tailC 7 bodyL) (runP TT d) [sc, j, .val (.ob n), .val (tenc (Trm.fixed q)), s4, s5, s6, s7, s8, s9, s10, s11, .no] st kn kc) Q := by
  obtain ⟨i, st1, e1, i0, i1, h1, l1⟩ := Q_roll (d := d) (by omega) hD (t := (([.str "fixed", .int q] : List PV).length : Int)) (by simp) (by simp) (by omega)
  have i2 : i < 2 := by simpa using i1
  obtain ⟨p, st2, e2, m2, h2, l2⟩ := Q_pick (d := d) (by omega) h1 ps (by decide) (by decide) (by omega)
  conv => arg 1; whnf
  try simp only [frz, frzAll, wipeS, backS, getS, setS, mkSlot_f]
  rw [e1]
  try simp only [frz, frzAll, wipeS, backS, getS, setS, mkSlot_f]
  simp only [ps, List.mem_cons, List.not_mem_nil, or_false] at m2
  obtain rfl | rfl : i = 0 ∨ i = 1 := by omega
  · conv => arg 1; whnf
    try simp only [frz, frzAll, wipeS, backS, getS, setS, mkSlot_f]
    rw [e2]
    rcases m2 with rfl | rfl | rfl | rfl | rfl
    · refine Ends_eq (r' := exs (tailC 10 bodyL) (runP TT d) [sc, j, .val (.ob n), .val (tenc (Trm.fixed q)), s4, s5, s6, .val (.int 0), .val (.tup [.non, .int q]), .val (.bl false), s10, s11, .no] st2 kn kc) (by kernel_rfl) ?_
      exact last_ok (Trm.fixed q) d hd false _ st2 (head_bad (by simp [Bad]) _ (by simp) d (by omega) _) _ _ _ _ _ _ _ _ _ _ _ _ (hk _ _ _ _)
    · refine Ends_eq (r' := exs (tailC 10 bodyL) (runP TT d) [sc, j, .val (.ob n), .val (tenc (Trm.fixed q)), s4, s5, s6, .val (.int 0), .val (.tup [.str "loss", .int q]), .val (.bl false), s10, s11, .no] st2 kn kc) (by kernel_rfl) ?_
      exact last_ok (Trm.fixed q) d hd false _ st2 (head_bad (by simp [Bad]) _ (by simp) d (by omega) _) _ _ _ _ _ _ _ _ _ _ _ _ (hk _ _ _ _)
    · refine Ends_eq (r' := exs (tailC 10 bodyL) (runP TT d) [sc, j, .val (.ob n), .val (tenc (Trm.fixed q)), s4, s5, s6, .val (.int 0), .val (.tup [.int (-1), .int q]), .val (.bl false), s10, s11, .no] st2 kn kc) (by kernel_rfl) ?_
      exact last_ok (Trm.fixed q) d hd false _ st2 (head_bad (by simp [Bad]) _ (by simp) d (by omega) _) _ _ _ _ _ _ _ _ _ _ _ _ (hk _ _ _ _)
    · refine Ends_eq (r' := exs (tailC 10 bodyL) (runP TT d) [sc, j, .val (.ob n), .val (tenc (Trm.fixed q)), s4, s5, s6, .val (.int 0), .val (.tup [.tup [], .int q]), .val (.bl false), s10, s11, .no] st2 kn kc) (by kernel_rfl) ?_
      exact last_ok (Trm.fixed q) d hd false _ st2 (head_bad (by simp [Bad]) _ (by simp) d (by omega) _) _ _ _ _ _ _ _ _ _ _ _ _ (hk _ _ _ _)
    · refine Ends_eq (r' := exs (tailC 10 bodyL) (runP TT d) [sc, j, .val (.ob n), .val (tenc (Trm.fixed q)), s4, s5, s6, .val (.int 0), .val (.tup [.bl true, .int q]), .val (.bl false), s10, s11, .no] st2 kn kc) (by kernel_rfl) ?_
      exact last_ok (Trm.fixed q) d hd false _ st2 (head_bad (by simp [Bad]) _ (by simp) d (by omega) _) _ _ _ _ _ _ _ _ _ _ _ _ (hk _ _ _ _)
  · conv => arg 1; whnf
    try simp only [frz, frzAll, wipeS, backS, getS, setS, mkSlot_f]
    rw [e2]
    rcases m2 with rfl | rfl | rfl | rfl | rfl
    · refine Ends_eq (r' := exs (tailC 10 bodyL) (runP TT d) [sc, j, .val (.ob n), .val (tenc (Trm.fixed q)), s4, s5, s6, .val (.int 1), .val (.tup [.str "fixed", .non]), .val (.bl false), s10, s11, .no] st2 kn kc) (by kernel_rfl) ?_
      exact last_ok (Trm.fixed q) d hd false _ st2 (ch_fixed_1 (by simp [Bad]) d (by omega) _) _ _ _ _ _ _ _ _ _ _ _ _ (hk _ _ _ _)
    · refine Ends_eq (r' := exs (tailC 10 bodyL) (runP TT d) [sc, j, .val (.ob n), .val (tenc (Trm.fixed q)), s4, s5, s6, .val (.int 1), .val (.tup [.str "fixed", .str "loss"]), .val (.bl false), s10, s11, .no] st2 kn kc) (by kernel_rfl) ?_
      exact last_ok (Trm.fixed q) d hd false _ st2 (ch_fixed_1 (by simp [Bad]) d (by omega) _) _ _ _ _ _ _ _ _ _ _ _ _ (hk _ _ _ _)
    · refine Ends_eq (r' := exs (tailC 10 bodyL) (runP TT d) [sc, j, .val (.ob n), .val (tenc (Trm.fixed q)), s4, s5, s6, .val (.int 1), .val (.tup [.str "fixed", .int (-1)]), .val (.bl false), s10, s11, .no] st2 kn kc) (by kernel_rfl) ?_
      exact last_ok (Trm.fixed q) d hd false _ st2 (ch_fixed_1 (by simp [Bad]) d (by omega) _) _ _ _ _ _ _ _ _ _ _ _ _ (hk _ _ _ _)
    · refine Ends_eq (r' := exs (tailC 10 bodyL) (runP TT d) [sc, j, .val (.ob n), .val (tenc (Trm.fixed q)), s4, s5, s6, .val (.int 1), .val (.tup [.str "fixed", .tup []]), .val (.bl false), s10, s11, .no] st2 kn kc) (by kernel_rfl) ?_
      exact last_ok (Trm.fixed q) d hd false _ st2 (ch_fixed_1 (by simp [Bad]) d (by omega) _) _ _ _ _ _ _ _ _ _ _ _ _ (hk _ _ _ _)
    · refine Ends_eq (r' := exs (tailC 10 bodyL) (runP TT d) [sc, j, .val (.ob n), .val (tenc (Trm.fixed q)), s4, s5, s6, .val (.int 1), .val (.tup [.str "fixed", .bl true]), .val (.bl false), s10, s11, .no] st2 kn kc) (by kernel_rfl) ?_
      exact last_ok (Trm.fixed q) d hd false _ st2 (ch_fixed_1 (by simp [Bad]) d (by omega) _) _ _ _ _ _ _ _ _ _ _ _ _ (hk _ _ _ _)
theorem tl_layer (l : Int) (h : Option Int) (t : Trm) (w : twf (Trm.layer l h t)) (h3 : tdp (Trm.layer l h t) ≤ 3) (n : Nat) (sc j s4 s5 s6 s7 s8 s9 s10 s11 : Slt) (h11 : NO s11) (d : Nat) (hd : 30 < d) (st : Sto) (hD : Dice n 20000 st) (kn kc : Kn) (Q : PV → Sto → Prop)
    (hk : ∀ s7 s8 s9 st, Ends (kn [sc, j, .val (.ob n), .val (tenc (Trm.layer l h t)), s4, s5, s6, s7, s8, s9, s10, s11, .no] st) Q) :
    Ends (exs (tailC 7 bodyL) (runP TT d) [sc, j, .val (.ob n), .val (tenc (Trm.layer l h t)), s4, s5, s6, s7, s8, s9, s10, s11, .no] st kn kc) Q := by
  have h4 : tdp t ≤ 3 := by simp only [tdp] at h3; omega
  obtain ⟨i, st1, e1, i0, i1, h1, l1⟩ := Q_roll (d := d) (by omega) hD (t := (([.str "layer", .int l, optI h, tenc t] : List PV).length : Int)) (by simp) (by simp) (by omega)
  have i2 : i < 4 := by simpa using i1
  obtain ⟨p, st2, e2, m2, h2, l2⟩ := Q_pick (d := d) (by omega) h1 ps (by decide) (by decide) (by omega)
  conv => arg 1; whnf
  try simp only [frz, frzAll, wipeS, backS, getS, setS, mkSlot_f]
  rw [e1]
  try simp only [frz, frzAll, wipeS, backS, getS, setS, mkSlot_f]
  simp only [ps, List.mem_cons, List.not_mem_nil, or_false] at m2
  obtain rfl | rfl | rfl | rfl : i = 0 ∨ i = 1 ∨ i = 2 ∨ i = 3 := by omega
  · conv => arg 1; whnf
    try simp only [frz, frzAll, wipeS, backS, getS, setS, mkSlot_f]
    rw [e2]
    rcases m2 with rfl | rfl | rfl | rfl | rfl
    · refine Ends_eq (r' := exs (tailC 10 bodyL) (runP TT d) [sc, j, .val (.ob n), .val (tenc (Trm.layer l h t)), s4, s5, s6, .val (.int 0), .val (.tup [.non, .int l, optI h, tenc t]), .val (.bl false), s10, s11, .no] st2 kn kc) (by kernel_rfl) ?_
      exact last_ok (Trm.layer l h t) d hd false _ st2 (head_bad (by simp [Bad]) _ (by simp) d (by omega) _) _ _ _ _ _ _ _ _ _ _ _ _ (hk _ _ _ _)
    · refine Ends_eq (r' := exs (tailC 10 bodyL) (runP TT d) [sc, j, .val (.ob n), .val (tenc (Trm.layer l h t)), s4, s5, s6, .val (.int 0), .val (.tup [.str "loss", .int l, optI h, tenc t]), .val (.bl false), s10, s11, .no] st2 kn kc) (by kernel_rfl) ?_
      exact last_ok (Trm.layer l h t) d hd false _ st2 (head_bad (by simp [Bad]) _ (by simp) d (by omega) _) _ _ _ _ _ _ _ _ _ _ _ _ (hk _ _ _ _)
    · refine Ends_eq (r' := exs (tailC 10 bodyL) (runP TT d) [sc, j, .val (.ob n), .val (tenc (Trm.layer l h t)), s4, s5, s6, .val (.int 0), .val (.tup [.int (-1), .int l, optI h, tenc t]), .val (.bl false), s10, s11, .no] st2 kn kc) (by kernel_rfl) ?_
      exact last_ok (Trm.layer l h t) d hd false _ st2 (head_bad (by simp [Bad]) _ (by simp) d (by omega) _) _ _ _ _ _ _ _ _ _ _ _ _ (hk _ _ _ _)
    · refine Ends_eq (r' := exs (tailC 10 bodyL) (runP TT d) [sc, j, .val (.ob n), .val (tenc (Trm.layer l h t)), s4, s5, s6, .val (.int 0), .val (.tup [.tup [], .int l, optI h, tenc t]), .val (.bl false), s10, s11, .no] st2 kn kc) (by kernel_rfl) ?_
      exact last_ok (Trm.layer l h t) d hd false _ st2 (head_bad (by simp [Bad]) _ (by simp) d (by omega) _) _ _ _ _ _ _ _ _ _ _ _ _ (hk _ _ _ _)
    · refine Ends_eq (r' := exs (tailC 10 bodyL) (runP TT d) [sc, j, .val (.ob n), .val (tenc (Trm.layer l h t)), s4, s5, s6, .val (.int 0), .val (.tup [.bl true, .int l, optI h, tenc t]), .val (.bl false), s10, s11, .no] st2 kn kc) (by kernel_rfl) ?_
      exact last_ok (Trm.layer l h t) d hd false _ st2 (head_bad (by simp [Bad]) _ (by simp) d (by omega) _) _ _ _ _ _ _ _ _ _ _ _ _ (hk _ _ _ _)
  · conv => arg 1; whnf
    try simp only [frz, frzAll, wipeS, backS, getS, setS, mkSlot_f]
    rw [e2]
    rcases m2 with rfl | rfl | rfl | rfl | rfl
    · refine Ends_eq (r' := exs (tailC 10 bodyL) (runP TT d) [sc, j, .val (.ob n), .val (tenc (Trm.layer l h t)), s4, s5, s6, .val (.int 1), .val (.tup [.str "layer", .non, optI h, tenc t]), .val (.bl false), s10, s11, .no] st2 kn kc) (by kernel_rfl) ?_
      exact last_ok (Trm.layer l h t) d hd false _ st2 (ch_layer_1 (by simp [Bad]) h t w.2 h4 d (by omega) _) _ _ _ _ _ _ _ _ _ _ _ _ (hk _ _ _ _)
    · refine Ends_eq (r' := exs (tailC 10 bodyL) (runP TT d) [sc, j, .val (.ob n), .val (tenc (Trm.layer l h t)), s4, s5, s6, .val (.int 1), .val (.tup [.str "layer", .str "loss", optI h, tenc t]), .val (.bl false), s10, s11, .no] st2 kn kc) (by kernel_rfl) ?_
      exact last_ok (Trm.layer l h t) d hd false _ st2 (ch_layer_1 (by simp [Bad]) h t w.2 h4 d (by omega) _) _ _ _ _ _ _ _ _ _ _ _ _ (hk _ _ _ _)
    · refine Ends_eq (r' := exs (tailC 10 bodyL) (runP TT d) [sc, j, .val (.ob n), .val (tenc (Trm.layer l h t)), s4, s5, s6, .val (.int 1), .val (.tup [.str "layer", .int (-1), optI h, tenc t]), .val (.bl false), s10, s11, .no] st2 kn kc) (by kernel_rfl) ?_
      exact last_ok (Trm.layer l h t) d hd false _ st2 (ch_layer_1 (by simp [Bad]) h t w.2 h4 d (by omega) _) _ _ _ _ _ _ _ _ _ _ _ _ (hk _ _ _ _)
    · refine Ends_eq (r' := exs (tailC 10 bodyL) (runP TT d) [sc, j, .val (.ob n), .val (tenc (Trm.layer l h t)), s4, s5, s6, .val (.int 1), .val (.tup [.str "layer", .tup [], optI h, tenc t]), .val (.bl false), s10, s11, .no] st2 kn kc) (by kernel_rfl) ?_
      exact last_ok (Trm.layer l h t) d hd false _ st2 (ch_layer_1 (by simp [Bad]) h t w.2 h4 d (by omega) _) _ _ _ _ _ _ _ _ _ _ _ _ (hk _ _ _ _)
    · refine Ends_eq (r' := exs (tailC 10 bodyL) (runP TT d) [sc, j, .val (.ob n), .val (tenc (Trm.layer l h t)), s4, s5, s6, .val (.int 1), .val (.tup [.str "layer", .bl true, optI h, tenc t]), .val (.bl false), s10, s11, .no] st2 kn kc) (by kernel_rfl) ?_
      exact last_ok (Trm.layer l h t) d hd false _ st2 (ch_layer_1 (by simp [Bad]) h t w.2 h4 d (by omega) _) _ _ _ _ _ _ _ _ _ _ _ _ (hk _ _ _ _)
  · conv => arg 1; whnf
    try simp only [frz, frzAll, wipeS, backS, getS, setS, mkSlot_f]
    rw [e2]
    rcases m2 with rfl | rfl | rfl | rfl | rfl
    · refine Ends_eq (r' := exs (tailC 10 bodyL) (runP TT d) [sc, j, .val (.ob n), .val (tenc (Trm.layer l h t)), s4, s5, s6, .val (.int 2), .val (.tup [.str "layer", .int l, .non, tenc t]), .val (.bl true), s10, s11, .no] st2 kn kc) (by kernel_rfl) ?_
      exact last_ok (Trm.layer l h t) d hd true _ st2 (q_isterm (.layer l none t) ⟨⟨w.1.1, w.1.2.1, fun z hz => by cases hz⟩, w.2⟩ h3 d (by omega) _) _ _ _ _ _ _ _ _ _ _ _ _ (hk _ _ _ _)
    · refine Ends_eq (r' := exs (tailC 10 bodyL) (runP TT d) [sc, j, .val (.ob n), .val (tenc (Trm.layer l h t)), s4, s5, s6, .val (.int 2), .val (.tup [.str "layer", .int l, .str "loss", tenc t]), .val (.bl false), s10, s11, .no] st2 kn kc) (by kernel_rfl) ?_
      exact last_ok (Trm.layer l h t) d hd false _ st2 (ch_layer_2 (by simp [Bad]) (by simp) l w.1.1 t w.2 h4 d (by omega) _) _ _ _ _ _ _ _ _ _ _ _ _ (hk _ _ _ _)
    · refine Ends_eq (r' := exs (tailC 10 bodyL) (runP TT d) [sc, j, .val (.ob n), .val (tenc (Trm.layer l h t)), s4, s5, s6, .val (.int 2), .val (.tup [.str "layer", .int l, .int (-1), tenc t]), .val (.bl false), s10, s11, .no] st2 kn kc) (by kernel_rfl) ?_
      exact last_ok (Trm.layer l h t) d hd false _ st2 (ch_layer_2 (by simp [Bad]) (by simp) l w.1.1 t w.2 h4 d (by omega) _) _ _ _ _ _ _ _ _ _ _ _ _ (hk _ _ _ _)
    · refine Ends_eq (r' := exs (tailC 10 bodyL) (runP TT d) [sc, j, .val (.ob n), .val (tenc (Trm.layer l h t)), s4, s5, s6, .val (.int 2), .val (.tup [.str "layer", .int l, .tup [], tenc t]), .val (.bl false), s10, s11, .no] st2 kn kc) (by kernel_rfl) ?_
      exact last_ok (Trm.layer l h t) d hd false _ st2 (ch_layer_2 (by simp [Bad]) (by simp) l w.1.1 t w.2 h4 d (by omega) _) _ _ _ _ _ _ _ _ _ _ _ _ (hk _ _ _ _)
    · refine Ends_eq (r' := exs (tailC 10 bodyL) (runP TT d) [sc, j, .val (.ob n), .val (tenc (Trm.layer l h t)), s4, s5, s6, .val (.int 2), .val (.tup [.str "layer", .int l, .bl true, tenc t]), .val (.bl false), s10, s11, .no] st2 kn kc) (by kernel_rfl) ?_
      exact last_ok (Trm.layer l h t) d hd false _ st2 (ch_layer_2 (by simp [Bad]) (by simp) l w.1.1 t w.2 h4 d (by omega) _) _ _ _ _ _ _ _ _ _ _ _ _ (hk _ _ _ _)
  · conv => arg 1; whnf
    try simp only [frz, frzAll, wipeS, backS, getS, setS, mkSlot_f]
    rw [e2]
    rcases m2 with rfl | rfl | rfl | rfl | rfl
    · refine Ends_eq (r' := exs (tailC 10 bodyL) (runP TT d) [sc, j, .val (.ob n), .val (tenc (Trm.layer l h t)), s4, s5, s6, .val (.int 3), .val (.tup [.str "layer", .int l, optI h, .non]), .val (.bl false), s10, s11, .no] st2 kn kc) (by kernel_rfl) ?_
      exact last_ok (Trm.layer l h t) d hd false _ st2 (ch_layer_3 (by simp [Bad]) l h d (by omega) _) _ _ _ _ _ _ _ _ _ _ _ _ (hk _ _ _ _)
    · refine Ends_eq (r' := exs (tailC 10 bodyL) (runP TT d) [sc, j, .val (.ob n), .val (tenc (Trm.layer l h t)), s4, s5, s6, .val (.int 3), .val (.tup [.str "layer", .int l, optI h, .str "loss"]), .val (.bl false), s10, s11, .no] st2 kn kc) (by kernel_rfl) ?_
      exact last_ok (Trm.layer l h t) d hd false _ st2 (ch_layer_3 (by simp [Bad]) l h d (by omega) _) _ _ _ _ _ _ _ _ _ _ _ _ (hk _ _ _ _)
    · refine Ends_eq (r' := exs (tailC 10 bodyL) (runP TT d) [sc, j, .val (.ob n), .val (tenc (Trm.layer l h t)), s4, s5, s6, .val (.int 3), .val (.tup [.str "layer", .int l, optI h, .int (-1)]), .val (.bl false), s10, s11, .no] st2 kn kc) (by kernel_rfl) ?_
      exact last_ok (Trm.layer l h t) d hd false _ st2 (ch_layer_3 (by simp [Bad]) l h d (by omega) _) _ _ _ _ _ _ _ _ _ _ _ _ (hk _ _ _ _)
    · refine Ends_eq (r' := exs (tailC 10 bodyL) (runP TT d) [sc, j, .val (.ob n), .val (tenc (Trm.layer l h t)), s4, s5, s6, .val (.int 3), .val (.tup [.str "layer", .int l, optI h, .tup []]), .val (.bl false), s10, s11, .no] st2 kn kc) (by kernel_rfl) ?_
      exact last_ok (Trm.layer l h t) d hd false _ st2 (ch_layer_3 (by simp [Bad]) l h d (by omega) _) _ _ _ _ _ _ _ _ _ _ _ _ (hk _ _ _ _)
    · refine Ends_eq (r' := exs (tailC 10 bodyL) (runP TT d) [sc, j, .val (.ob n), .val (tenc (Trm.layer l h t)), s4, s5, s6, .val (.int 3), .val (.tup [.str "layer", .int l, optI h, .bl true]), .val (.bl false), s10, s11, .no] st2 kn kc) (by kernel_rfl) ?_
      exact last_ok (Trm.layer l h t) d hd false _ st2 (ch_layer_3 (by simp [Bad]) l h d (by omega) _) _ _ _ _ _ _ _ _ _ _ _ _ (hk _ _ _ _)
theorem tl_share (a b : Int) (t : Trm) (w : twf (Trm.share a b t)) (h3 : tdp (Trm.share a b t) ≤ 3) (n : Nat) (sc j s4 s5 s6 s7 s8 s9 s10 s11 : Slt) (h11 : NO s11) (d : Nat) (hd : 30 < d) (st : Sto) (hD : Dice n 20000 st) (kn kc : Kn) (Q : PV → Sto → Prop)
    (hk : ∀ s7 s8 s9 st, Ends (kn [sc, j, .val (.ob n), .val (tenc (Trm.share a b t)), s4, s5, s6, s7, s8, s9, s10, s11, .no] st) Q) :
    Ends (exs (tailC 7 bodyL) (runP TT d) [sc, j, .val (.ob n), .val (tenc (Trm.share a b t)), s4, s5, s6, s7, s8, s9, s10, s11, .no] st kn kc) Q := by
  have h4 : tdp t ≤ 3 := by simp only [tdp] at h3; omega
  obtain ⟨i, st1, e1, i0, i1, h1, l1⟩ := Q_roll (d := d) (by omega) hD (t := (([.str "share", .int a, .int b, tenc t] : List PV).length : Int)) (by simp) (by simp) (by omega)
  have i2 : i < 4 := by simpa using i1
  obtain ⟨p, st2, e2, m2, h2, l2⟩ := Q_pick (d := d) (by omega) h1 ps (by decide) (by decide) (by omega)
  conv => arg 1; whnf
  try simp only [frz, frzAll, wipeS, backS, getS, setS, mkSlot_f]
  rw [e1]
  try simp only [frz, frzAll, wipeS, backS, getS, setS, mkSlot_f]
  simp only [ps, List.mem_cons, List.not_mem_nil, or_false] at m2
  obtain rfl | rfl | rfl | rfl : i = 0 ∨ i = 1 ∨ i = 2 ∨ i = 3 := by omega
  · conv => arg 1; whnf
    try simp only [frz, frzAll, wipeS, backS, getS, setS, mkSlot_f]
    rw [e2]
    rcases m2 with rfl | rfl | rfl | rfl | rfl
    · refine Ends_eq (r' := exs (tailC 10 bodyL) (runP TT d) [sc, j, .val (.ob n), .val (tenc (Trm.share a b t)), s4, s5, s6, .val (.int 0), .val (.tup [.non, .int a, .int b, tenc t]), .val (.bl false), s10, s11, .no] st2 kn kc) (by kernel_rfl) ?_
      exact last_ok (Trm.share a b t) d hd false _ st2 (head_bad (by simp [Bad]) _ (by simp) d (by omega) _) _ _ _ _ _ _ _ _ _ _ _ _ (hk _ _ _ _)
    · refine Ends_eq (r' := exs (tailC 10 bodyL) (runP TT d) [sc, j, .val (.ob n), .val (tenc (Trm.share a b t)), s4, s5, s6, .val (.int 0), .val (.tup [.str "loss", .int a, .int b, tenc t]), .val (.bl false), s10, s11, .no] st2 kn kc) (by kernel_rfl) ?_
      exact last_ok (Trm.share a b t) d hd false _ st2 (head_bad (by simp [Bad]) _ (by simp) d (by omega) _) _ _ _ _ _ _ _ _ _ _ _ _ (hk _ _ _ _)
    · refine Ends_eq (r' := exs (tailC 10 bodyL) (runP TT d) [sc, j, .val (.ob n), .val (tenc (Trm.share a b t)), s4, s5, s6, .val (.int 0), .val (.tup [.int (-1), .int a, .int b, tenc t]), .val (.bl false), s10, s11, .no] st2 kn kc) (by kernel_rfl) ?_
      exact last_ok (Trm.share a b t) d hd false _ st2 (head_bad (by simp [Bad]) _ (by simp) d (by omega) _) _ _ _ _ _ _ _ _ _ _ _ _ (hk _ _ _ _)
    · refine Ends_eq (r' := exs (tailC 10 bodyL) (runP TT d) [sc, j, .val (.ob n), .val (tenc (Trm.share a b t)), s4, s5, s6, .val (.int 0), .val (.tup [.tup [], .int a, .int b, tenc t]), .val (.bl false), s10, s11, .no] st2 kn kc) (by kernel_rfl) ?_
      exact last_ok (Trm.share a b t) d hd false _ st2 (head_bad (by simp [Bad]) _ (by simp) d (by omega) _) _ _ _ _ _ _ _ _ _ _ _ _ (hk _ _ _ _)
    · refine Ends_eq (r' := exs (tailC 10 bodyL) (runP TT d) [sc, j, .val (.ob n), .val (tenc (Trm.share a b t)), s4, s5, s6, .val (.int 0), .val (.tup [.bl true, .int a, .int b, tenc t]), .val (.bl false), s10, s11, .no] st2 kn kc) (by kernel_rfl) ?_
      exact last_ok (Trm.share a b t) d hd false _ st2 (head_bad (by simp [Bad]) _ (by simp) d (by omega) _) _ _ _ _ _ _ _ _ _ _ _ _ (hk _ _ _ _)
  · conv => arg 1; whnf
    try simp only [frz, frzAll, wipeS, backS, getS, setS, mkSlot_f]
    rw [e2]
    rcases m2 with rfl | rfl | rfl | rfl | rfl
    · refine Ends_eq (r' := exs (tailC 10 bodyL) (runP TT d) [sc, j, .val (.ob n), .val (tenc (Trm.share a b t)), s4, s5, s6, .val (.int 1), .val (.tup [.str "share", .non, .int b, tenc t]), .val (.bl false), s10, s11, .no] st2 kn kc) (by kernel_rfl) ?_
      exact last_ok (Trm.share a b t) d hd false _ st2 (ch_share_1 (by simp [Bad]) b t w.2 h4 d (by omega) _) _ _ _ _ _ _ _ _ _ _ _ _ (hk _ _ _ _)
    · refine Ends_eq (r' := exs (tailC 10 bodyL) (runP TT d) [sc, j, .val (.ob n), .val (tenc (Trm.share a b t)), s4, s5, s6, .val (.int 1), .val (.tup [.str "share", .str "loss", .int b, tenc t]), .val (.bl false), s10, s11, .no] st2 kn kc) (by kernel_rfl) ?_
      exact last_ok (Trm.share a b t) d hd false _ st2 (ch_share_1 (by simp [Bad]) b t w.2 h4 d (by omega) _) _ _ _ _ _ _ _ _ _ _ _ _ (hk _ _ _ _)
    · refine Ends_eq (r' := exs (tailC 10 bodyL) (runP TT d) [sc, j, .val (.ob n), .val (tenc (Trm.share a b t)), s4, s5, s6, .val (.int 1), .val (.tup [.str "share", .int (-1), .int b, tenc t]), .val (.bl false), s10, s11, .no] st2 kn kc) (by kernel_rfl) ?_
      exact last_ok (Trm.share a b t) d hd false _ st2 (ch_share_1 (by simp [Bad]) b t w.2 h4 d (by omega) _) _ _ _ _ _ _ _ _ _ _ _ _ (hk _ _ _ _)
    · refine Ends_eq (r' := exs (tailC 10 bodyL) (runP TT d) [sc, j, .val (.ob n), .val (tenc (Trm.share a b t)), s4, s5, s6, .val (.int 1), .val (.tup [.str "share", .tup [], .int b, tenc t]), .val (.bl false), s10, s11, .no] st2 kn kc) (by kernel_rfl) ?_
      exact last_ok (Trm.share a b t) d hd false _ st2 (ch_share_1 (by simp [Bad]) b t w.2 h4 d (by omega) _) _ _ _ _ _ _ _ _ _ _ _ _ (hk _ _ _ _)
    · refine Ends_eq (r' := exs (tailC 10 bodyL) (runP TT d) [sc, j, .val (.ob n), .val (tenc (Trm.share a b t)), s4, s5, s6, .val (.int 1), .val (.tup [.str "share", .bl true, .int b, tenc t]), .val (.bl false), s10, s11, .no] st2 kn kc) (by kernel_rfl) ?_
      exact last_ok (Trm.share a b t) d hd false _ st2 (ch_share_1 (by simp [Bad]) b t w.2 h4 d (by omega) _) _ _ _ _ _ _ _ _ _ _ _ _ (hk _ _ _ _)
  · conv => arg 1; whnf
    try simp only [frz, frzAll, wipeS, backS, getS, setS, mkSlot_f]
    rw [e2]
    rcases m2 with rfl | rfl | rfl | rfl | rfl
    · refine Ends_eq (r' := exs (tailC 10 bodyL) (runP TT d) [sc, j, .val (.ob n), .val (tenc (Trm.share a b t)), s4, s5, s6, .val (.int 2), .val (.tup [.str "share", .int a, .non, tenc t]), .val (.bl false), s10, s11, .no] st2 kn kc) (by kernel_rfl) ?_
      exact last_ok (Trm.share a b t) d hd false _ st2 (ch_share_2 (by simp [Bad]) a t w.2 h4 d (by omega) _) _ _ _ _ _ _ _ _ _ _ _ _ (hk _ _ _ _)
    · refine Ends_eq (r' := exs (tailC 10 bodyL) (runP TT d) [sc, j, .val (.ob n), .val (tenc (Trm.share a b t)), s4, s5, s6, .val (.int 2), .val (.tup [.str "share", .int a, .str "loss", tenc t]), .val (.bl false), s10, s11, .no] st2 kn kc) (by kernel_rfl) ?_
      exact last_ok (Trm.share a b t) d hd false _ st2 (ch_share_2 (by simp [Bad]) a t w.2 h4 d (by omega) _) _ _ _ _ _ _ _ _ _ _ _ _ (hk _ _ _ _)
    · refine Ends_eq (r' := exs (tailC 10 bodyL) (runP TT d) [sc, j, .val (.ob n), .val (tenc (Trm.share a b t)), s4, s5, s6, .val (.int 2), .val (.tup [.str "share", .int a, .int (-1), tenc t]), .val (.bl false), s10, s11, .no] st2 kn kc) (by kernel_rfl) ?_
      exact last_ok (Trm.share a b t) d hd false _ st2 (ch_share_2 (by simp [Bad]) a t w.2 h4 d (by omega) _) _ _ _ _ _ _ _ _ _ _ _ _ (hk _ _ _ _)
    · refine Ends_eq (r' := exs (tailC 10 bodyL) (runP TT d) [sc, j, .val (.ob n), .val (tenc (Trm.share a b t)), s4, s5, s6, .val (.int 2), .val (.tup [.str "share", .int a, .tup [], tenc t]), .val (.bl false), s10, s11, .no] st2 kn kc) (by kernel_rfl) ?_
      exact last_ok (Trm.share a b t) d hd false _ st2 (ch_share_2 (by simp [Bad]) a t w.2 h4 d (by omega) _) _ _ _ _ _ _ _ _ _ _ _ _ (hk _ _ _ _)
    · refine Ends_eq (r' := exs (tailC 10 bodyL) (runP TT d) [sc, j, .val (.ob n), .val (tenc (Trm.share a b t)), s4, s5, s6, .val (.int 2), .val (.tup [.str "share", .int a, .bl true, tenc t]), .val (.bl false), s10, s11, .no] st2 kn kc) (by kernel_rfl) ?_
      exact last_ok (Trm.share a b t) d hd false _ st2 (ch_share_2 (by simp [Bad]) a t w.2 h4 d (by omega) _) _ _ _ _ _ _ _ _ _ _ _ _ (hk _ _ _ _)
  · conv => arg 1; whnf
    try simp only [frz, frzAll, wipeS, backS, getS, setS, mkSlot_f]
    rw [e2]
    rcases m2 with rfl | rfl | rfl | rfl | rfl
    · refine Ends_eq (r' := exs (tailC 10 bodyL) (runP TT d) [sc, j, .val (.ob n), .val (tenc (Trm.share a b t)), s4, s5, s6, .val (.int 3), .val (.tup [.str "share", .int a, .int b, .non]), .val (.bl false), s10, s11, .no] st2 kn kc) (by kernel_rfl) ?_
      exact last_ok (Trm.share a b t) d hd false _ st2 (ch_share_3 (by simp [Bad]) a b d (by omega) _) _ _ _ _ _ _ _ _ _ _ _ _ (hk _ _ _ _)
    · refine Ends_eq (r' := exs (tailC 10 bodyL) (runP TT d) [sc, j, .val (.ob n), .val (tenc (Trm.share a b t)), s4, s5, s6, .val (.int 3), .val (.tup [.str "share", .int a, .int b, .str "loss"]), .val (.bl false), s10, s11, .no] st2 kn kc) (by kernel_rfl) ?_
      exact last_ok (Trm.share a b t) d hd false _ st2 (ch_share_3 (by simp [Bad]) a b d (by omega) _) _ _ _ _ _ _ _ _ _ _ _ _ (hk _ _ _ _)
    · refine Ends_eq (r' := exs (tailC 10 bodyL) (runP TT d) [sc, j, .val (.ob n), .val (tenc (Trm.share a b t)), s4, s5, s6, .val (.int 3), .val (.tup [.str "share", .int a, .int b, .int (-1)]), .val (.bl false), s10, s11, .no] st2 kn kc) (by kernel_rfl) ?_
      exact last_ok (Trm.share a b t) d hd false _ st2 (ch_share_3 (by simp [Bad]) a b d (by omega) _) _ _ _ _ _ _ _ _ _ _ _ _ (hk _ _ _ _)
    · refine Ends_eq (r' := exs (tailC 10 bodyL) (runP TT d) [sc, j, .val (.ob n), .val (tenc (Trm.share a b t)), s4, s5, s6, .val (.int 3), .val (.tup [.str "share", .int a, .int b, .tup []]), .val (.bl false), s10, s11, .no] st2 kn kc) (by kernel_rfl) ?_
      exact last_ok (Trm.share a b t) d hd false _ st2 (ch_share_3 (by simp [Bad]) a b d (by omega) _) _ _ _ _ _ _ _ _ _ _ _ _ (hk _ _ _ _)
    · refine Ends_eq (r' := exs (tailC 10 bodyL) (runP TT d) [sc, j, .val (.ob n), .val (tenc (Trm.share a b t)), s4, s5, s6, .val (.int 3), .val (.tup [.str "share", .int a, .int b, .bl true]), .val (.bl false), s10, s11, .no] st2 kn kc) (by kernel_rfl) ?_
      exact last_ok (Trm.share a b t) d hd false _ st2 (ch_share_3 (by simp [Bad]) a b d (by omega) _) _ _ _ _ _ _ _ _ _ _ _ _ (hk _ _ _ _)
theorem tl_cond (c : Cnd) (t : Trm) (w : twf (Trm.cond c t)) (h3 : tdp (Trm.cond c t) ≤ 3) (n : Nat) (sc j s4 s5 s6 s7 s8 s9 s10 s11 : Slt) (h11 : NO s11) (d : Nat) (hd : 30 < d) (st : Sto) (hD : Dice n 20000 st) (kn kc : Kn) (Q : PV → Sto → Prop)
    (hk : ∀ s7 s8 s9 st, Ends (kn [sc, j, .val (.ob n), .val (tenc (Trm.cond c t)), s4, s5, s6, s7, s8, s9, s10, s11, .no] st) Q) :
    Ends (exs (tailC 7 bodyL) (runP TT d) [sc, j, .val (.ob n), .val (tenc (Trm.cond c t)), s4, s5, s6, s7, s8, s9, s10, s11, .no] st kn kc) Q := by
  have h4 : tdp t ≤ 3 := by simp only [tdp] at h3; omega
  obtain ⟨i, st1, e1, i0, i1, h1, l1⟩ := Q_roll (d := d) (by omega) hD (t := (([.str "when", enc c, tenc t] : List PV).length : Int)) (by simp) (by simp) (by omega)
  have i2 : i < 3 := by simpa using i1
  obtain ⟨p, st2, e2, m2, h2, l2⟩ := Q_pick (d := d) (by omega) h1 ps (by decide) (by decide) (by omega)
  conv => arg 1; whnf
  try simp only [frz, frzAll, wipeS, backS, getS, setS, mkSlot_f]
  rw [e1]
  try simp only [frz, frzAll, wipeS, backS, getS, setS, mkSlot_f]
  simp only [ps, List.mem_cons, List.not_mem_nil, or_false] at m2
  obtain rfl | rfl | rfl : i = 0 ∨ i = 1 ∨ i = 2 := by omega
  · conv => arg 1; whnf
    try simp only [frz, frzAll, wipeS, backS, getS, setS, mkSlot_f]
    rw [e2]
    rcases m2 with rfl | rfl | rfl | rfl | rfl
    · refine Ends_eq (r' := exs (tailC 10 bodyL) (runP TT d) [sc, j, .val (.ob n), .val (tenc (Trm.cond c t)), s4, s5, s6, .val (.int 0), .val (.tup [.non, enc c, tenc t]), .val (.bl false), s10, s11, .no] st2 kn kc) (by kernel_rfl) ?_
      exact last_ok (Trm.cond c t) d hd false _ st2 (head_bad (by simp [Bad]) _ (by simp) d (by omega) _) _ _ _ _ _ _ _ _ _ _ _ _ (hk _ _ _ _)
    · refine Ends_eq (r' := exs (tailC 10 bodyL) (runP TT d) [sc, j, .val (.ob n), .val (tenc (Trm.cond c t)), s4, s5, s6, .val (.int 0), .val (.tup [.str "loss", enc c, tenc t]), .val (.bl false), s10, s11, .no] st2 kn kc) (by kernel_rfl) ?_
      exact last_ok (Trm.cond c t) d hd false _ st2 (head_bad (by simp [Bad]) _ (by simp) d (by omega) _) _ _ _ _ _ _ _ _ _ _ _ _ (hk _ _ _ _)
    · refine Ends_eq (r' := exs (tailC 10 bodyL) (runP TT d) [sc, j, .val (.ob n), .val (tenc (Trm.cond c t)), s4, s5, s6, .val (.int 0), .val (.tup [.int (-1), enc c, tenc t]), .val (.bl false), s10, s11, .no] st2 kn kc) (by kernel_rfl) ?_
      exact last_ok (Trm.cond c t) d hd false _ st2 (head_bad (by simp [Bad]) _ (by simp) d (by omega) _) _ _ _ _ _ _ _ _ _ _ _ _ (hk _ _ _ _)
    · refine Ends_eq (r' := exs (tailC 10 bodyL) (runP TT d) [sc, j, .val (.ob n), .val (tenc (Trm.cond c t)), s4, s5, s6, .val (.int 0), .val (.tup [.tup [], enc c, tenc t]), .val (.bl false), s10, s11, .no] st2 kn kc) (by kernel_rfl) ?_
      exact last_ok (Trm.cond c t) d hd false _ st2 (head_bad (by simp [Bad]) _ (by simp) d (by omega) _) _ _ _ _ _ _ _ _ _ _ _ _ (hk _ _ _ _)
    · refine Ends_eq (r' := exs (tailC 10 bodyL) (runP TT d) [sc, j, .val (.ob n), .val (tenc (Trm.cond c t)), s4, s5, s6, .val (.int 0), .val (.tup [.bl true, enc c, tenc t]), .val (.bl false), s10, s11, .no] st2 kn kc) (by kernel_rfl) ?_
      exact last_ok (Trm.cond c t) d hd false _ st2 (head_bad (by simp [Bad]) _ (by simp) d (by omega) _) _ _ _ _ _ _ _ _ _ _ _ _ (hk _ _ _ _)
  · conv => arg 1; whnf
    try simp only [frz, frzAll, wipeS, backS, getS, setS, mkSlot_f]
    rw [e2]
    rcases m2 with rfl | rfl | rfl | rfl | rfl
    · refine Ends_eq (r' := exs (tailC 10 bodyL) (runP TT d) [sc, j, .val (.ob n), .val (tenc (Trm.cond c t)), s4, s5, s6, .val (.int 1), .val (.tup [.str "when", .non, tenc t]), .val (.bl false), s10, s11, .no] st2 kn kc) (by kernel_rfl) ?_
      exact last_ok (Trm.cond c t) d hd false _ st2 (ch_when_1 (by simp [Bad]) t w.2 h4 d (by omega) _) _ _ _ _ _ _ _ _ _ _ _ _ (hk _ _ _ _)
    · refine Ends_eq (r' := exs (tailC 10 bodyL) (runP TT d) [sc, j, .val (.ob n), .val (tenc (Trm.cond c t)), s4, s5, s6, .val (.int 1), .val (.tup [.str "when", .str "loss", tenc t]), .val (.bl false), s10, s11, .no] st2 kn kc) (by kernel_rfl) ?_
      exact last_ok (Trm.cond c t) d hd false _ st2 (ch_when_1 (by simp [Bad]) t w.2 h4 d (by omega) _) _ _ _ _ _ _ _ _ _ _ _ _ (hk _ _ _ _)
    · refine Ends_eq (r' := exs (tailC 10 bodyL) (runP TT d) [sc, j, .val (.ob n), .val (tenc (Trm.cond c t)), s4, s5, s6, .val (.int 1), .val (.tup [.str "when", .int (-1), tenc t]), .val (.bl false), s10, s11, .no] st2 kn kc) (by kernel_rfl) ?_
      exact last_ok (Trm.cond c t) d hd false _ st2 (ch_when_1 (by simp [Bad]) t w.2 h4 d (by omega) _) _ _ _ _ _ _ _ _ _ _ _ _ (hk _ _ _ _)
    · refine Ends_eq (r' := exs (tailC 10 bodyL) (runP TT d) [sc, j, .val (.ob n), .val (tenc (Trm.cond c t)), s4, s5, s6, .val (.int 1), .val (.tup [.str "when", .tup [], tenc t]), .val (.bl false), s10, s11, .no] st2 kn kc) (by kernel_rfl) ?_
      exact last_ok (Trm.cond c t) d hd false _ st2 (ch_when_1 (by simp [Bad]) t w.2 h4 d (by omega) _) _ _ _ _ _ _ _ _ _ _ _ _ (hk _ _ _ _)
    · refine Ends_eq (r' := exs (tailC 10 bodyL) (runP TT d) [sc, j, .val (.ob n), .val (tenc (Trm.cond c t)), s4, s5, s6, .val (.int 1), .val (.tup [.str "when", .bl true, tenc t]), .val (.bl false), s10, s11, .no] st2 kn kc) (by kernel_rfl) ?_
      exact last_ok (Trm.cond c t) d hd false _ st2 (ch_when_1 (by simp [Bad]) t w.2 h4 d (by omega) _) _ _ _ _ _ _ _ _ _ _ _ _ (hk _ _ _ _)
  · conv => arg 1; whnf
    try simp only [frz, frzAll, wipeS, backS, getS, setS, mkSlot_f]
    rw [e2]
    rcases m2 with rfl | rfl | rfl | rfl | rfl
    · refine Ends_eq (r' := exs (tailC 10 bodyL) (runP TT d) [sc, j, .val (.ob n), .val (tenc (Trm.cond c t)), s4, s5, s6, .val (.int 2), .val (.tup [.str "when", enc c, .non]), .val (.bl false), s10, s11, .no] st2 kn kc) (by kernel_rfl) ?_
      exact last_ok (Trm.cond c t) d hd false _ st2 (ch_when_2 (by simp [Bad]) c w.1.2 d (by omega) _) _ _ _ _ _ _ _ _ _ _ _ _ (hk _ _ _ _)
    · refine Ends_eq (r' := exs (tailC 10 bodyL) (runP TT d) [sc, j, .val (.ob n), .val (tenc (Trm.cond c t)), s4, s5, s6, .val (.int 2), .val (.tup [.str "when", enc c, .str "loss"]), .val (.bl false), s10, s11, .no] st2 kn kc) (by kernel_rfl) ?_
      exact last_ok (Trm.cond c t) d hd false _ st2 (ch_when_2 (by simp [Bad]) c w.1.2 d (by omega) _) _ _ _ _ _ _ _ _ _ _ _ _ (hk _ _ _ _)
    · refine Ends_eq (r' := exs (tailC 10 bodyL) (runP TT d) [sc, j, .val (.ob n), .val (tenc (Trm.cond c t)), s4, s5, s6, .val (.int 2), .val (.tup [.str "when", enc c, .int (-1)]), .val (.bl false), s10, s11, .no] st2 kn kc) (by kernel_rfl) ?_
      exact last_ok (Trm.cond c t) d hd false _ st2 (ch_when_2 (by simp [Bad]) c w.1.2 d (by omega) _) _ _ _ _ _ _ _ _ _ _ _ _ (hk _ _ _ _)
    · refine Ends_eq (r' := exs (tailC 10 bodyL) (runP TT d) [sc, j, .val (.ob n), .val (tenc (Trm.cond c t)), s4, s5, s6, .val (.int 2), .val (.tup [.str "when", enc c, .tup []]), .val (.bl false), s10, s11, .no] st2 kn kc) (by kernel_rfl) ?_
      exact last_ok (Trm.cond c t) d hd false _ st2 (ch_when_2 (by simp [Bad]) c w.1.2 d (by omega) _) _ _ _ _ _ _ _ _ _ _ _ _ (hk _ _ _ _)
    · refine Ends_eq (r' := exs (tailC 10 bodyL) (runP TT d) [sc, j, .val (.ob n), .val (tenc (Trm.cond c t)), s4, s5, s6, .val (.int 2), .val (.tup [.str "when", enc c, .bl true]), .val (.bl false), s10, s11, .no] st2 kn kc) (by kernel_rfl) ?_
      exact last_ok (Trm.cond c t) d hd false _ st2 (ch_when_2 (by simp [Bad]) c w.1.2 d (by omega) _) _ _ _ _ _ _ _ _ _ _ _ _ (hk _ _ _ _)
theorem tl_both (t u : Trm) (w : twf (Trm.both t u)) (h3 : tdp (Trm.both t u) ≤ 3) (n : Nat) (sc j s4 s5 s6 s7 s8 s9 s10 s11 : Slt) (h11 : NO s11) (d : Nat) (hd : 30 < d) (st : Sto) (hD : Dice n 20000 st) (kn kc : Kn) (Q : PV → Sto → Prop)
    (hk : ∀ s7 s8 s9 st, Ends (kn [sc, j, .val (.ob n), .val (tenc (Trm.both t u)), s4, s5, s6, s7, s8, s9, s10, s11, .no] st) Q) :
    Ends (exs (tailC 7 bodyL) (runP TT d) [sc, j, .val (.ob n), .val (tenc (Trm.both t u)), s4, s5, s6, s7, s8, s9, s10, s11, .no] st kn kc) Q := by
  have h4 : tdp t ≤ 3 := by simp only [tdp] at h3; omega
  have h5 : tdp u ≤ 3 := by simp only [tdp] at h3; omega
  obtain ⟨i, st1, e1, i0, i1, h1, l1⟩ := Q_roll (d := d) (by omega) hD (t := (([.str "both", tenc t, tenc u] : List PV).length : Int)) (by simp) (by simp) (by omega)
  have i2 : i < 3 := by simpa using i1
  obtain ⟨p, st2, e2, m2, h2, l2⟩ := Q_pick (d := d) (by omega) h1 ps (by decide) (by decide) (by omega)
  conv => arg 1; whnf
  try simp only [frz, frzAll, wipeS, backS, getS, setS, mkSlot_f]
  rw [e1]
  try simp only [frz, frzAll, wipeS, backS, getS, setS, mkSlot_f]
  simp only [ps, List.mem_cons, List.not_mem_nil, or_false] at m2
  obtain rfl | rfl | rfl : i = 0 ∨ i = 1 ∨ i = 2 := by omega
  · conv => arg 1; whnf
    try simp only [frz, frzAll, wipeS, backS, getS, setS, mkSlot_f]
    rw [e2]
    rcases m2 with rfl | rfl | rfl | rfl | rfl
    · refine Ends_eq (r' := exs (tailC 10 bodyL) (runP TT d) [sc, j, .val (.ob n), .val (tenc (Trm.both t u)), s4, s5, s6, .val (.int 0), .val (.tup [.non, tenc t, tenc u]), .val (.bl false), s10, s11, .no] st2 kn kc) (by kernel_rfl) ?_
      exact last_ok (Trm.both t u) d hd false _ st2 (head_bad (by simp [Bad]) _ (by simp) d (by omega) _) _ _ _ _ _ _ _ _ _ _ _ _ (hk _ _ _ _)
    · refine Ends_eq (r' := exs (tailC 10 bodyL) (runP TT d) [sc, j, .val (.ob n), .val (tenc (Trm.both t u)), s4, s5, s6, .val (.int 0), .val (.tup [.str "loss", tenc t, tenc u]), .val (.bl false), s10, s11, .no] st2 kn kc) (by kernel_rfl) ?_
      exact last_ok (Trm.both t u) d hd false _ st2 (head_bad (by simp [Bad]) _ (by simp) d (by omega) _) _ _ _ _ _ _ _ _ _ _ _ _ (hk _ _ _ _)
    · refine Ends_eq (r' := exs (tailC 10 bodyL) (runP TT d) [sc, j, .val (.ob n), .val (tenc (Trm.both t u)), s4, s5, s6, .val (.int 0), .val (.tup [.int (-1), tenc t, tenc u]), .val (.bl false), s10, s11, .no] st2 kn kc) (by kernel_rfl) ?_
      exact last_ok (Trm.both t u) d hd false _ st2 (head_bad (by simp [Bad]) _ (by simp) d (by omega) _) _ _ _ _ _ _ _ _ _ _ _ _ (hk _ _ _ _)
    · refine Ends_eq (r' := exs (tailC 10 bodyL) (runP TT d) [sc, j, .val (.ob n), .val (tenc (Trm.both t u)), s4, s5, s6, .val (.int 0), .val (.tup [.tup [], tenc t, tenc u]), .val (.bl false), s10, s11, .no] st2 kn kc) (by kernel_rfl) ?_
      exact last_ok (Trm.both t u) d hd false _ st2 (head_bad (by simp [Bad]) _ (by simp) d (by omega) _) _ _ _ _ _ _ _ _ _ _ _ _ (hk _ _ _ _)
    · refine Ends_eq (r' := exs (tailC 10 bodyL) (runP TT d) [sc, j, .val (.ob n), .val (tenc (Trm.both t u)), s4, s5, s6, .val (.int 0), .val (.tup [.bl true, tenc t, tenc u]), .val (.bl false), s10, s11, .no] st2 kn kc) (by kernel_rfl) ?_
      exact last_ok (Trm.both t u) d hd false _ st2 (head_bad (by simp [Bad]) _ (by simp) d (by omega) _) _ _ _ _ _ _ _ _ _ _ _ _ (hk _ _ _ _)
  · conv => arg 1; whnf
    try simp only [frz, frzAll, wipeS, backS, getS, setS, mkSlot_f]
    rw [e2]
    rcases m2 with rfl | rfl | rfl | rfl | rfl
    · refine Ends_eq (r' := exs (tailC 10 bodyL) (runP TT d) [sc, j, .val (.ob n), .val (tenc (Trm.both t u)), s4, s5, s6, .val (.int 1), .val (.tup [.str "both", .non, tenc u]), .val (.bl false), s10, s11, .no] st2 kn kc) (by kernel_rfl) ?_
      exact last_ok (Trm.both t u) d hd false _ st2 (ch_both_1 (by simp [Bad]) u w.2 h5 d (by omega) _) _ _ _ _ _ _ _ _ _ _ _ _ (hk _ _ _ _)
    · refine Ends_eq (r' := exs (tailC 10 bodyL) (runP TT d) [sc, j, .val (.ob n), .val (tenc (Trm.both t u)), s4, s5, s6, .val (.int 1), .val (.tup [.str "both", .str "loss", tenc u]), .val (.bl false), s10, s11, .no] st2 kn kc) (by kernel_rfl) ?_
      exact last_ok (Trm.both t u) d hd false _ st2 (ch_both_1 (by simp [Bad]) u w.2 h5 d (by omega) _) _ _ _ _ _ _ _ _ _ _ _ _ (hk _ _ _ _)
    · refine Ends_eq (r' := exs (tailC 10 bodyL) (runP TT d) [sc, j, .val (.ob n), .val (tenc (Trm.both t u)), s4, s5, s6, .val (.int 1), .val (.tup [.str "both", .int (-1), tenc u]), .val (.bl false), s10, s11, .no] st2 kn kc) (by kernel_rfl) ?_
      exact last_ok (Trm.both t u) d hd false _ st2 (ch_both_1 (by simp [Bad]) u w.2 h5 d (by omega) _) _ _ _ _ _ _ _ _ _ _ _ _ (hk _ _ _ _)
    · refine Ends_eq (r' := exs (tailC 10 bodyL) (runP TT d) [sc, j, .val (.ob n), .val (tenc (Trm.both t u)), s4, s5, s6, .val (.int 1), .val (.tup [.str "both", .tup [], tenc u]), .val (.bl false), s10, s11, .no] st2 kn kc) (by kernel_rfl) ?_
      exact last_ok (Trm.both t u) d hd false _ st2 (ch_both_1 (by simp [Bad]) u w.2 h5 d (by omega) _) _ _ _ _ _ _ _ _ _ _ _ _ (hk _ _ _ _)
    · refine Ends_eq (r' := exs (tailC 10 bodyL) (runP TT d) [sc, j, .val (.ob n), .val (tenc (Trm.both t u)), s4, s5, s6, .val (.int 1), .val (.tup [.str "both", .bl true, tenc u]), .val (.bl false), s10, s11, .no] st2 kn kc) (by kernel_rfl) ?_
      exact last_ok (Trm.both t u) d hd false _ st2 (ch_both_1 (by simp [Bad]) u w.2 h5 d (by omega) _) _ _ _ _ _ _ _ _ _ _ _ _ (hk _ _ _ _)
  · conv => arg 1; whnf
    try simp only [frz, frzAll, wipeS, backS, getS, setS, mkSlot_f]
    rw [e2]
    rcases m2 with rfl | rfl | rfl | rfl | rfl
    · refine Ends_eq (r' := exs (tailC 10 bodyL) (runP TT d) [sc, j, .val (.ob n), .val (tenc (Trm.both t u)), s4, s5, s6, .val (.int 2), .val (.tup [.str "both", tenc t, .non]), .val (.bl false), s10, s11, .no] st2 kn kc) (by kernel_rfl) ?_
      exact last_ok (Trm.both t u) d hd false _ st2 (ch_both_2 (by simp [Bad]) t w.1 h4 d (by omega) _) _ _ _ _ _ _ _ _ _ _ _ _ (hk _ _ _ _)
    · refine Ends_eq (r' := exs (tailC 10 bodyL) (runP TT d) [sc, j, .val (.ob n), .val (tenc (Trm.both t u)), s4, s5, s6, .val (.int 2), .val (.tup [.str "both", tenc t, .str "loss"]), .val (.bl false), s10, s11, .no] st2 kn kc) (by kernel_rfl) ?_
      exact last_ok (Trm.both t u) d hd false _ st2 (ch_both_2 (by simp [Bad]) t w.1 h4 d (by omega) _) _ _ _ _ _ _ _ _ _ _ _ _ (hk _ _ _ _)
    · refine Ends_eq (r' := exs (tailC 10 bodyL) (runP TT d) [sc, j, .val (.ob n), .val (tenc (Trm.both t u)), s4, s5, s6, .val (.int 2), .val (.tup [.str "both", tenc t, .int (-1)]), .val (.bl false), s10, s11, .no] st2 kn kc) (by kernel_rfl) ?_
      exact last_ok (Trm.both t u) d hd false _ st2 (ch_both_2 (by simp [Bad]) t w.1 h4 d (by omega) _) _ _ _ _ _ _ _ _ _ _ _ _ (hk _ _ _ _)
    · refine Ends_eq (r' := exs (tailC 10 bodyL) (runP TT d) [sc, j, .val (.ob n), .val (tenc (Trm.both t u)), s4, s5, s6, .val (.int 2), .val (.tup [.str "both", tenc t, .tup []]), .val (.bl false), s10, s11, .no] st2 kn kc) (by kernel_rfl) ?_
      exact last_ok (Trm.both t u) d hd false _ st2 (ch_both_2 (by simp [Bad]) t w.1 h4 d (by omega) _) _ _ _ _ _ _ _ _ _ _ _ _ (hk _ _ _ _)
    · refine Ends_eq (r' := exs (tailC 10 bodyL) (runP TT d) [sc, j, .val (.ob n), .val (tenc (Trm.both t u)), s4, s5, s6, .val (.int 2), .val (.tup [.str "both", tenc t, .bl true]), .val (.bl false), s10, s11, .no] st2 kn kc) (by kernel_rfl) ?_
      exact last_ok (Trm.both t u) d hd false _ st2 (ch_both_2 (by simp [Bad]) t w.1 h4 d (by omega) _) _ _ _ _ _ _ _ _ _ _ _ _ (hk _ _ _ _)
theorem tl_rest (t u : Trm) (w : twf (Trm.rest t u)) (h3 : tdp (Trm.rest t u) ≤ 3) (n : Nat) (sc j s4 s5 s6 s7 s8 s9 s10 s11 : Slt) (h11 : NO s11) (d : Nat) (hd : 30 < d) (st : Sto) (hD : Dice n 20000 st) (kn kc : Kn) (Q : PV → Sto → Prop)
    (hk : ∀ s7 s8 s9 st, Ends (kn [sc, j, .val (.ob n), .val (tenc (Trm.rest t u)), s4, s5, s6, s7, s8, s9, s10, s11, .no] st) Q) :
    Ends (exs (tailC 7 bodyL) (runP TT d) [sc, j, .val (.ob n), .val (tenc (Trm.rest t u)), s4, s5, s6, s7, s8, s9, s10, s11, .no] st kn kc) Q := by
  have h4 : tdp t ≤ 3 := by simp only [tdp] at h3; omega
  have h5 : tdp u ≤ 3 := by simp only [tdp] at h3; omega
  obtain ⟨i, st1, e1, i0, i1, h1, l1⟩ := Q_roll (d := d) (by omega) hD (t := (([.str "rest", tenc t, tenc u] : List PV).length : Int)) (by simp) (by simp) (by omega)
  have i2 : i < 3 := by simpa using i1
  obtain ⟨p, st2, e2, m2, h2, l2⟩ := Q_pick (d := d) (by omega) h1 ps (by decide) (by decide) (by omega)
  conv => arg 1; whnf
  try simp only [frz, frzAll, wipeS, backS, getS, setS, mkSlot_f]
  rw [e1]
  try simp only [frz, frzAll, wipeS, backS, getS, setS, mkSlot_f]
  simp only [ps, List.mem_cons, List.not_mem_nil, or_false] at m2
  obtain rfl | rfl | rfl : i = 0 ∨ i = 1 ∨ i = 2 := by omega
  · conv => arg 1; whnf
    try simp only [frz, frzAll, wipeS, backS, getS, setS, mkSlot_f]
    rw [e2]
    rcases m2 with rfl | rfl | rfl | rfl | rfl
    · refine Ends_eq (r' := exs (tailC 10 bodyL) (runP TT d) [sc, j, .val (.ob n), .val (tenc (Trm.rest t u)), s4, s5, s6, .val (.int 0), .val (.tup [.non, tenc t, tenc u]), .val (.bl false), s10, s11, .no] st2 kn kc) (by kernel_rfl) ?_
      exact last_ok (Trm.rest t u) d hd false _ st2 (head_bad (by simp [Bad]) _ (by simp) d (by omega) _) _ _ _ _ _ _ _ _ _ _ _ _ (hk _ _ _ _)
    · refine Ends_eq (r' := exs (tailC 10 bodyL) (runP TT d) [sc, j, .val (.ob n), .val (tenc (Trm.rest t u)), s4, s5, s6, .val (.int 0), .val (.tup [.str "loss", tenc t, tenc u]), .val (.bl false), s10, s11, .no] st2 kn kc) (by kernel_rfl) ?_
      exact last_ok (Trm.rest t u) d hd false _ st2 (head_bad (by simp [Bad]) _ (by simp) d (by omega) _) _ _ _ _ _ _ _ _ _ _ _ _ (hk _ _ _ _)
    · refine Ends_eq (r' := exs (tailC 10 bodyL) (runP TT d) [sc, j, .val (.ob n), .val (tenc (Trm.rest t u)), s4, s5, s6, .val (.int 0), .val (.tup [.int (-1), tenc t, tenc u]), .val (.bl false), s10, s11, .no] st2 kn kc) (by kernel_rfl) ?_
      exact last_ok (Trm.rest t u) d hd false _ st2 (head_bad (by simp [Bad]) _ (by simp) d (by omega) _) _ _ _ _ _ _ _ _ _ _ _ _ (hk _ _ _ _)
    · refine Ends_eq (r' := exs (tailC 10 bodyL) (runP TT d) [sc, j, .val (.ob n), .val (tenc (Trm.rest t u)), s4, s5, s6, .val (.int 0), .val (.tup [.tup [], tenc t, tenc u]), .val (.bl false), s10, s11, .no] st2 kn kc) (by kernel_rfl) ?_
      exact last_ok (Trm.rest t u) d hd false _ st2 (head_bad (by simp [Bad]) _ (by simp) d (by omega) _) _ _ _ _ _ _ _ _ _ _ _ _ (hk _ _ _ _)
    · refine Ends_eq (r' := exs (tailC 10 bodyL) (runP TT d) [sc, j, .val (.ob n), .val (tenc (Trm.rest t u)), s4, s5, s6, .val (.int 0), .val (.tup [.bl true, tenc t, tenc u]), .val (.bl false), s10, s11, .no] st2 kn kc) (by kernel_rfl) ?_
      exact last_ok (Trm.rest t u) d hd false _ st2 (head_bad (by simp [Bad]) _ (by simp) d (by omega) _) _ _ _ _ _ _ _ _ _ _ _ _ (hk _ _ _ _)
  · conv => arg 1; whnf
    try simp only [frz, frzAll, wipeS, backS, getS, setS, mkSlot_f]
    rw [e2]
    rcases m2 with rfl | rfl | rfl | rfl | rfl
    · refine Ends_eq (r' := exs (tailC 10 bodyL) (runP TT d) [sc, j, .val (.ob n), .val (tenc (Trm.rest t u)), s4, s5, s6, .val (.int 1), .val (.tup [.str "rest", .non, tenc u]), .val (.bl false), s10, s11, .no] st2 kn kc) (by kernel_rfl) ?_
      exact last_ok (Trm.rest t u) d hd false _ st2 (ch_rest_1 (by simp [Bad]) u w.2 h5 d (by omega) _) _ _ _ _ _ _ _ _ _ _ _ _ (hk _ _ _ _)
    · refine Ends_eq (r' := exs (tailC 10 bodyL) (runP TT d) [sc, j, .val (.ob n), .val (tenc (Trm.rest t u)), s4, s5, s6, .val (.int 1), .val (.tup [.str "rest", .str "loss", tenc u]), .val (.bl false), s10, s11, .no] st2 kn kc) (by kernel_rfl) ?_
      exact last_ok (Trm.rest t u) d hd false _ st2 (ch_rest_1 (by simp [Bad]) u w.2 h5 d (by omega) _) _ _ _ _ _ _ _ _ _ _ _ _ (hk _ _ _ _)
    · refine Ends_eq (r' := exs (tailC 10 bodyL) (runP TT d) [sc, j, .val (.ob n), .val (tenc (Trm.rest t u)), s4, s5, s6, .val (.int 1), .val (.tup [.str "rest", .int (-1), tenc u]), .val (.bl false), s10, s11, .no] st2 kn kc) (by kernel_rfl) ?_
      exact last_ok (Trm.rest t u) d hd false _ st2 (ch_rest_1 (by simp [Bad]) u w.2 h5 d (by omega) _) _ _ _ _ _ _ _ _ _ _ _ _ (hk _ _ _ _)
    · refine Ends_eq (r' := exs (tailC 10 bodyL) (runP TT d) [sc, j, .val (.ob n), .val (tenc (Trm.rest t u)), s4, s5, s6, .val (.int 1), .val (.tup [.str "rest", .tup [], tenc u]), .val (.bl false), s10, s11, .no] st2 kn kc) (by kernel_rfl) ?_
      exact last_ok (Trm.rest t u) d hd false _ st2 (ch_rest_1 (by simp [Bad]) u w.2 h5 d (by omega) _) _ _ _ _ _ _ _ _ _ _ _ _ (hk _ _ _ _)
    · refine Ends_eq (r' := exs (tailC 10 bodyL) (runP TT d) [sc, j, .val (.ob n), .val (tenc (Trm.rest t u)), s4, s5, s6, .val (.int 1), .val (.tup [.str "rest", .bl true, tenc u]), .val (.bl false), s10, s11, .no] st2 kn kc) (by kernel_rfl) ?_
      exact last_ok (Trm.rest t u) d hd false _ st2 (ch_rest_1 (by simp [Bad]) u w.2 h5 d (by omega) _) _ _ _ _ _ _ _ _ _ _ _ _ (hk _ _ _ _)
  · conv => arg 1; whnf
    try simp only [frz, frzAll, wipeS, backS, getS, setS, mkSlot_f]
    rw [e2]
    rcases m2 with rfl | rfl | rfl | rfl | rfl
    · refine Ends_eq (r' := exs (tailC 10 bodyL) (runP TT d) [sc, j, .val (.ob n), .val (tenc (Trm.rest t u)), s4, s5, s6, .val (.int 2), .val (.tup [.str "rest", tenc t, .non]), .val (.bl false), s10, s11, .no] st2 kn kc) (by kernel_rfl) ?_
      exact last_ok (Trm.rest t u) d hd false _ st2 (ch_rest_2 (by simp [Bad]) t w.1 h4 d (by omega) _) _ _ _ _ _ _ _ _ _ _ _ _ (hk _ _ _ _)
    · refine Ends_eq (r' := exs (tailC 10 bodyL) (runP TT d) [sc, j, .val (.ob n), .val (tenc (Trm.rest t u)), s4, s5, s6, .val (.int 2), .val (.tup [.str "rest", tenc t, .str "loss"]), .val (.bl false), s10, s11, .no] st2 kn kc) (by kernel_rfl) ?_
      exact last_ok (Trm.rest t u) d hd false _ st2 (ch_rest_2 (by simp [Bad]) t w.1 h4 d (by omega) _) _ _ _ _ _ _ _ _ _ _ _ _ (hk _ _ _ _)
    · refine Ends_eq (r' := exs (tailC 10 bodyL) (runP TT d) [sc, j, .val (.ob n), .val (tenc (Trm.rest t u)), s4, s5, s6, .val (.int 2), .val (.tup [.str "rest", tenc t, .int (-1)]), .val (.bl false), s10, s11, .no] st2 kn kc) (by kernel_rfl) ?_
      exact last_ok (Trm.rest t u) d hd false _ st2 (ch_rest_2 (by simp [Bad]) t w.1 h4 d (by omega) _) _ _ _ _ _ _ _ _ _ _ _ _ (hk _ _ _ _)
    · refine Ends_eq (r' := exs (tailC 10 bodyL) (runP TT d) [sc, j, .val (.ob n), .val (tenc (Trm.rest t u)), s4, s5, s6, .val (.int 2), .val (.tup [.str "rest", tenc t, .tup []]), .val (.bl false), s10, s11, .no] st2 kn kc) (by kernel_rfl) ?_
      exact last_ok (Trm.rest t u) d hd false _ st2 (ch_rest_2 (by simp [Bad]) t w.1 h4 d (by omega) _) _ _ _ _ _ _ _ _ _ _ _ _ (hk _ _ _ _)
    · refine Ends_eq (r' := exs (tailC 10 bodyL) (runP TT d) [sc, j, .val (.ob n), .val (tenc (Trm.rest t u)), s4, s5, s6, .val (.int 2), .val (.tup [.str "rest", tenc t, .bl true]), .val (.bl false), s10, s11, .no] st2 kn kc) (by kernel_rfl) ?_
      exact last_ok (Trm.rest t u) d hd false _ st2 (ch_rest_2 (by simp [Bad]) t w.1 h4 d (by omega) _) _ _ _ _ _ _ _ _ _ _ _ _ (hk _ _ _ _)
theorem tl_least (t u : Trm) (w : twf (Trm.least t u)) (h3 : tdp (Trm.least t u) ≤ 3) (n : Nat) (sc j s4 s5 s6 s7 s8 s9 s10 s11 : Slt) (h11 : NO s11) (d : Nat) (hd : 30 < d) (st : Sto) (hD : Dice n 20000 st) (kn kc : Kn) (Q : PV → Sto → Prop)
    (hk : ∀ s7 s8 s9 st, Ends (kn [sc, j, .val (.ob n), .val (tenc (Trm.least t u)), s4, s5, s6, s7, s8, s9, s10, s11, .no] st) Q) :
    Ends (exs (tailC 7 bodyL) (runP TT d) [sc, j, .val (.ob n), .val (tenc (Trm.least t u)), s4, s5, s6, s7, s8, s9, s10, s11, .no] st kn kc) Q := by
  have h4 : tdp t ≤ 3 := by simp only [tdp] at h3; omega
  have h5 : tdp u ≤ 3 := by simp only [tdp] at h3; omega
  obtain ⟨i, st1, e1, i0, i1, h1, l1⟩ := Q_roll (d := d) (by omega) hD (t := (([.str "least", tenc t, tenc u] : List PV).length : Int)) (by simp) (by simp) (by omega)
  have i2 : i < 3 := by simpa using i1
  obtain ⟨p, st2, e2, m2, h2, l2⟩ := Q_pick (d := d) (by omega) h1 ps (by decide) (by decide) (by omega)
  conv => arg 1; whnf
  try simp only [frz, frzAll, wipeS, backS, getS, setS, mkSlot_f]
  rw [e1]
  try simp only [frz, frzAll, wipeS, backS, getS, setS, mkSlot_f]
  simp only [ps, List.mem_cons, List.not_mem_nil, or_false] at m2
  obtain rfl | rfl | rfl : i = 0 ∨ i = 1 ∨ i = 2 := by omega
  · conv => arg 1; whnf
    try simp only [frz, frzAll, wipeS, backS, getS, setS, mkSlot_f]
    rw [e2]
    rcases m2 with rfl | rfl | rfl | rfl | rfl
    · refine Ends_eq (r' := exs (tailC 10 bodyL) (runP TT d) [sc, j, .val (.ob n), .val (tenc (Trm.least t u)), s4, s5, s6, .val (.int 0), .val (.tup [.non, tenc t, tenc u]), .val (.bl false), s10, s11, .no] st2 kn kc) (by kernel_rfl) ?_
      exact last_ok (Trm.least t u) d hd false _ st2 (head_bad (by simp [Bad]) _ (by simp) d (by omega) _) _ _ _ _ _ _ _ _ _ _ _ _ (hk _ _ _ _)
    · refine Ends_eq (r' := exs (tailC 10 bodyL) (runP TT d) [sc, j, .val (.ob n), .val (tenc (Trm.least t u)), s4, s5, s6, .val (.int 0), .val (.tup [.str "loss", tenc t, tenc u]), .val (.bl false), s10, s11, .no] st2 kn kc) (by kernel_rfl) ?_
      exact last_ok (Trm.least t u) d hd false _ st2 (head_bad (by simp [Bad]) _ (by simp) d (by omega) _) _ _ _ _ _ _ _ _ _ _ _ _ (hk _ _ _ _)
    · refine Ends_eq (r' := exs (tailC 10 bodyL) (runP TT d) [sc, j, .val (.ob n), .val (tenc (Trm.least t u)), s4, s5, s6, .val (.int 0), .val (.tup [.int (-1), tenc t, tenc u]), .val (.bl false), s10, s11, .no] st2 kn kc) (by kernel_rfl) ?_
      exact last_ok (Trm.least t u) d hd false _ st2 (head_bad (by simp [Bad]) _ (by simp) d (by omega) _) _ _ _ _ _ _ _ _ _ _ _ _ (hk _ _ _ _)
    · refine Ends_eq (r' := exs (tailC 10 bodyL) (runP TT d) [sc, j, .val (.ob n), .val (tenc (Trm.least t u)), s4, s5, s6, .val (.int 0), .val (.tup [.tup [], tenc t, tenc u]), .val (.bl false), s10, s11, .no] st2 kn kc) (by kernel_rfl) ?_
      exact last_ok (Trm.least t u) d hd false _ st2 (head_bad (by simp [Bad]) _ (by simp) d (by omega) _) _ _ _ _ _ _ _ _ _ _ _ _ (hk _ _ _ _)
    · refine Ends_eq (r' := exs (tailC 10 bodyL) (runP TT d) [sc, j, .val (.ob n), .val (tenc (Trm.least t u)), s4, s5, s6, .val (.int 0), .val (.tup [.bl true, tenc t, tenc u]), .val (.bl false), s10, s11, .no] st2 kn kc) (by kernel_rfl) ?_
      exact last_ok (Trm.least t u) d hd false _ st2 (head_bad (by simp [Bad]) _ (by simp) d (by omega) _) _ _ _ _ _ _ _ _ _ _ _ _ (hk _ _ _ _)
  · conv => arg 1; whnf
    try simp only [frz, frzAll, wipeS, backS, getS, setS, mkSlot_f]
    rw [e2]
    rcases m2 with rfl | rfl | rfl | rfl | rfl
    · refine Ends_eq (r' := exs (tailC 10 bodyL) (runP TT d) [sc, j, .val (.ob n), .val (tenc (Trm.least t u)), s4, s5, s6, .val (.int 1), .val (.tup [.str "least", .non, tenc u]), .val (.bl false), s10, s11, .no] st2 kn kc) (by kernel_rfl) ?_
      exact last_ok (Trm.least t u) d hd false _ st2 (ch_least_1 (by simp [Bad]) u w.2 h5 d (by omega) _) _ _ _ _ _ _ _ _ _ _ _ _ (hk _ _ _ _)
    · refine Ends_eq (r' := exs (tailC 10 bodyL) (runP TT d) [sc, j, .val (.ob n), .val (tenc (Trm.least t u)), s4, s5, s6, .val (.int 1), .val (.tup [.str "least", .str "loss", tenc u]), .val (.bl false), s10, s11, .no] st2 kn kc) (by kernel_rfl) ?_
      exact last_ok (Trm.least t u) d hd false _ st2 (ch_least_1 (by simp [Bad]) u w.2 h5 d (by omega) _) _ _ _ _ _ _ _ _ _ _ _ _ (hk _ _ _ _)
    · refine Ends_eq (r' := exs (tailC 10 bodyL) (runP TT d) [sc, j, .val (.ob n), .val (tenc (Trm.least t u)), s4, s5, s6, .val (.int 1), .val (.tup [.str "least", .int (-1), tenc u]), .val (.bl false), s10, s11, .no] st2 kn kc) (by kernel_rfl) ?_
      exact last_ok (Trm.least t u) d hd false _ st2 (ch_least_1 (by simp [Bad]) u w.2 h5 d (by omega) _) _ _ _ _ _ _ _ _ _ _ _ _ (hk _ _ _ _)
    · refine Ends_eq (r' := exs (tailC 10 bodyL) (runP TT d) [sc, j, .val (.ob n), .val (tenc (Trm.least t u)), s4, s5, s6, .val (.int 1), .val (.tup [.str "least", .tup [], tenc u]), .val (.bl false), s10, s11, .no] st2 kn kc) (by kernel_rfl) ?_
      exact last_ok (Trm.least t u) d hd false _ st2 (ch_least_1 (by simp [Bad]) u w.2 h5 d (by omega) _) _ _ _ _ _ _ _ _ _ _ _ _ (hk _ _ _ _)
    · refine Ends_eq (r' := exs (tailC 10 bodyL) (runP TT d) [sc, j, .val (.ob n), .val (tenc (Trm.least t u)), s4, s5, s6, .val (.int 1), .val (.tup [.str "least", .bl true, tenc u]), .val (.bl false), s10, s11, .no] st2 kn kc) (by kernel_rfl) ?_
      exact last_ok (Trm.least t u) d hd false _ st2 (ch_least_1 (by simp [Bad]) u w.2 h5 d (by omega) _) _ _ _ _ _ _ _ _ _ _ _ _ (hk _ _ _ _)
  · conv => arg 1; whnf
    try simp only [frz, frzAll, wipeS, backS, getS, setS, mkSlot_f]
    rw [e2]
    rcases m2 with rfl | rfl | rfl | rfl | rfl
    · refine Ends_eq (r' := exs (tailC 10 bodyL) (runP TT d) [sc, j, .val (.ob n), .val (tenc (Trm.least t u)), s4, s5, s6, .val (.int 2), .val (.tup [.str "least", tenc t, .non]), .val (.bl false), s10, s11, .no] st2 kn kc) (by kernel_rfl) ?_
      exact last_ok (Trm.least t u) d hd false _ st2 (ch_least_2 (by simp [Bad]) t w.1 h4 d (by omega) _) _ _ _ _ _ _ _ _ _ _ _ _ (hk _ _ _ _)
    · refine Ends_eq (r' := exs (tailC 10 bodyL) (runP TT d) [sc, j, .val (.ob n), .val (tenc (Trm.least t u)), s4, s5, s6, .val (.int 2), .val (.tup [.str "least", tenc t, .str "loss"]), .val (.bl false), s10, s11, .no] st2 kn kc) (by kernel_rfl) ?_
      exact last_ok (Trm.least t u) d hd false _ st2 (ch_least_2 (by simp [Bad]) t w.1 h4 d (by omega) _) _ _ _ _ _ _ _ _ _ _ _ _ (hk _ _ _ _)
    · refine Ends_eq (r' := exs (tailC 10 bodyL) (runP TT d) [sc, j, .val (.ob n), .val (tenc (Trm.least t u)), s4, s5, s6, .val (.int 2), .val (.tup [.str "least", tenc t, .int (-1)]), .val (.bl false), s10, s11, .no] st2 kn kc) (by kernel_rfl) ?_
      exact last_ok (Trm.least t u) d hd false _ st2 (ch_least_2 (by simp [Bad]) t w.1 h4 d (by omega) _) _ _ _ _ _ _ _ _ _ _ _ _ (hk _ _ _ _)
    · refine Ends_eq (r' := exs (tailC 10 bodyL) (runP TT d) [sc, j, .val (.ob n), .val (tenc (Trm.least t u)), s4, s5, s6, .val (.int 2), .val (.tup [.str "least", tenc t, .tup []]), .val (.bl false), s10, s11, .no] st2 kn kc) (by kernel_rfl) ?_
      exact last_ok (Trm.least t u) d hd false _ st2 (ch_least_2 (by simp [Bad]) t w.1 h4 d (by omega) _) _ _ _ _ _ _ _ _ _ _ _ _ (hk _ _ _ _)
    · refine Ends_eq (r' := exs (tailC 10 bodyL) (runP TT d) [sc, j, .val (.ob n), .val (tenc (Trm.least t u)), s4, s5, s6, .val (.int 2), .val (.tup [.str "least", tenc t, .bl true]), .val (.bl false), s10, s11, .no] st2 kn kc) (by kernel_rfl) ?_
      exact last_ok (Trm.least t u) d hd false _ st2 (ch_least_2 (by simp [Bad]) t w.1 h4 d (by omega) _) _ _ _ _ _ _ _ _ _ _ _ _ (hk _ _ _ _)
theorem tl_most (t u : Trm) (w : twf (Trm.most t u)) (h3 : tdp (Trm.most t u) ≤ 3) (n : Nat) (sc j s4 s5 s6 s7 s8 s9 s10 s11 : Slt) (h11 : NO s11) (d : Nat) (hd : 30 < d) (st : Sto) (hD : Dice n 20000 st) (kn kc : Kn) (Q : PV → Sto → Prop)
    (hk : ∀ s7 s8 s9 st, Ends (kn [sc, j, .val (.ob n), .val (tenc (Trm.most t u)), s4, s5, s6, s7, s8, s9, s10, s11, .no] st) Q) :
    Ends (exs (tailC 7 bodyL) (runP TT d) [sc, j, .val (.ob n), .val (tenc (Trm.most t u)), s4, s5, s6, s7, s8, s9, s10, s11, .no] st kn kc) Q := by
  have h4 : tdp t ≤ 3 := by simp only [tdp] at h3; omega
  have h5 : tdp u ≤ 3 := by simp only [tdp] at h3; omega
  obtain ⟨i, st1, e1, i0, i1, h1, l1⟩ := Q_roll (d := d) (by omega) hD (t := (([.str "most", tenc t, tenc u] : List PV).length : Int)) (by simp) (by simp) (by omega)
  have i2 : i < 3 := by simpa using i1
  obtain ⟨p, st2, e2, m2, h2, l2⟩ := Q_pick (d := d) (by omega) h1 ps (by decide) (by decide) (by omega)
  conv => arg 1; whnf
  try simp only [frz, frzAll, wipeS, backS, getS, setS, mkSlot_f]
  rw [e1]
  try simp only [frz, frzAll, wipeS, backS, getS, setS, mkSlot_f]
  simp only [ps, List.mem_cons, List.not_mem_nil, or_false] at m2
  obtain rfl | rfl | rfl : i = 0 ∨ i = 1 ∨ i = 2 := by omega
  · conv => arg 1; whnf
    try simp only [frz, frzAll, wipeS, backS, getS, setS, mkSlot_f]
    rw [e2]
    rcases m2 with rfl | rfl | rfl | rfl | rfl
    · refine Ends_eq (r' := exs (tailC 10 bodyL) (runP TT d) [sc, j, .val (.ob n), .val (tenc (Trm.most t u)), s4, s5, s6, .val (.int 0), .val (.tup [.non, tenc t, tenc u]), .val (.bl false), s10, s11, .no] st2 kn kc) (by kernel_rfl) ?_
      exact last_ok (Trm.most t u) d hd false _ st2 (head_bad (by simp [Bad]) _ (by simp) d (by omega) _) _ _ _ _ _ _ _ _ _ _ _ _ (hk _ _ _ _)
    · refine Ends_eq (r' := exs (tailC 10 bodyL) (runP TT d) [sc, j, .val (.ob n), .val (tenc (Trm.most t u)), s4, s5, s6, .val (.int 0), .val (.tup [.str "loss", tenc t, tenc u]), .val (.bl false), s10, s11, .no] st2 kn kc) (by kernel_rfl) ?_
      exact last_ok (Trm.most t u) d hd false _ st2 (head_bad (by simp [Bad]) _ (by simp) d (by omega) _) _ _ _ _ _ _ _ _ _ _ _ _ (hk _ _ _ _)
    · refine Ends_eq (r' := exs (tailC 10 bodyL) (runP TT d) [sc, j, .val (.ob n), .val (tenc (Trm.most t u)), s4, s5, s6, .val (.int 0), .val (.tup [.int (-1), tenc t, tenc u]), .val (.bl false), s10, s11, .no] st2 kn kc) (by kernel_rfl) ?_
      exact last_ok (Trm.most t u) d hd false _ st2 (head_bad (by simp [Bad]) _ (by simp) d (by omega) _) _ _ _ _ _ _ _ _ _ _ _ _ (hk _ _ _ _)
    · refine Ends_eq (r' := exs (tailC 10 bodyL) (runP TT d) [sc, j, .val (.ob n), .val (tenc (Trm.most t u)), s4, s5, s6, .val (.int 0), .val (.tup [.tup [], tenc t, tenc u]), .val (.bl false), s10, s11, .no] st2 kn kc) (by kernel_rfl) ?_
      exact last_ok (Trm.most t u) d hd false _ st2 (head_bad (by simp [Bad]) _ (by simp) d (by omega) _) _ _ _ _ _ _ _ _ _ _ _ _ (hk _ _ _ _)
    · refine Ends_eq (r' := exs (tailC 10 bodyL) (runP TT d) [sc, j, .val (.ob n), .val (tenc (Trm.most t u)), s4, s5, s6, .val (.int 0), .val (.tup [.bl true, tenc t, tenc u]), .val (.bl false), s10, s11, .no] st2 kn kc) (by kernel_rfl) ?_
      exact last_ok (Trm.most t u) d hd false _ st2 (head_bad (by simp [Bad]) _ (by simp) d (by omega) _) _ _ _ _ _ _ _ _ _ _ _ _ (hk _ _ _ _)
  · conv => arg 1; whnf
    try simp only [frz, frzAll, wipeS, backS, getS, setS, mkSlot_f]
    rw [e2]
    rcases m2 with rfl | rfl | rfl | rfl | rfl
    · refine Ends_eq (r' := exs (tailC 10 bodyL) (runP TT d) [sc, j, .val (.ob n), .val (tenc (Trm.most t u)), s4, s5, s6, .val (.int 1), .val (.tup [.str "most", .non, tenc u]), .val (.bl false), s10, s11, .no] st2 kn kc) (by kernel_rfl) ?_
      exact last_ok (Trm.most t u) d hd false _ st2 (ch_most_1 (by simp [Bad]) u w.2 h5 d (by omega) _) _ _ _ _ _ _ _ _ _ _ _ _ (hk _ _ _ _)
    · refine Ends_eq (r' := exs (tailC 10 bodyL) (runP TT d) [sc, j, .val (.ob n), .val (tenc (Trm.most t u)), s4, s5, s6, .val (.int 1), .val (.tup [.str "most", .str "loss", tenc u]), .val (.bl false), s10, s11, .no] st2 kn kc) (by kernel_rfl) ?_
      exact last_ok (Trm.most t u) d hd false _ st2 (ch_most_1 (by simp [Bad]) u w.2 h5 d (by omega) _) _ _ _ _ _ _ _ _ _ _ _ _ (hk _ _ _ _)
    · refine Ends_eq (r' := exs (tailC 10 bodyL) (runP TT d) [sc, j, .val (.ob n), .val (tenc (Trm.most t u)), s4, s5, s6, .val (.int 1), .val (.tup [.str "most", .int (-1), tenc u]), .val (.bl false), s10, s11, .no] st2 kn kc) (by kernel_rfl) ?_
      exact last_ok (Trm.most t u) d hd false _ st2 (ch_most_1 (by simp [Bad]) u w.2 h5 d (by omega) _) _ _ _ _ _ _ _ _ _ _ _ _ (hk _ _ _ _)
    · refine Ends_eq (r' := exs (tailC 10 bodyL) (runP TT d) [sc, j, .val (.ob n), .val (tenc (Trm.most t u)), s4, s5, s6, .val (.int 1), .val (.tup [.str "most", .tup [], tenc u]), .val (.bl false), s10, s11, .no] st2 kn kc) (by kernel_rfl) ?_
      exact last_ok (Trm.most t u) d hd false _ st2 (ch_most_1 (by simp [Bad]) u w.2 h5 d (by omega) _) _ _ _ _ _ _ _ _ _ _ _ _ (hk _ _ _ _)
    · refine Ends_eq (r' := exs (tailC 10 bodyL) (runP TT d) [sc, j, .val (.ob n), .val (tenc (Trm.most t u)), s4, s5, s6, .val (.int 1), .val (.tup [.str "most", .bl true, tenc u]), .val (.bl false), s10, s11, .no] st2 kn kc) (by kernel_rfl) ?_
      exact last_ok (Trm.most t u) d hd false _ st2 (ch_most_1 (by simp [Bad]) u w.2 h5 d (by omega) _) _ _ _ _ _ _ _ _ _ _ _ _ (hk _ _ _ _)
  · conv => arg 1; whnf
    try simp only [frz, frzAll, wipeS, backS, getS, setS, mkSlot_f]
    rw [e2]
    rcases m2 with rfl | rfl | rfl | rfl | rfl
    · refine Ends_eq (r' := exs (tailC 10 bodyL) (runP TT d) [sc, j, .val (.ob n), .val (tenc (Trm.most t u)), s4, s5, s6, .val (.int 2), .val (.tup [.str "most", tenc t, .non]), .val (.bl false), s10, s11, .no] st2 kn kc) (by kernel_rfl) ?_
      exact last_ok (Trm.most t u) d hd false _ st2 (ch_most_2 (by simp [Bad]) t w.1 h4 d (by omega) _) _ _ _ _ _ _ _ _ _ _ _ _ (hk _ _ _ _)
    · refine Ends_eq (r' := exs (tailC 10 bodyL) (runP TT d) [sc, j, .val (.ob n), .val (tenc (Trm.most t u)), s4, s5, s6, .val (.int 2), .val (.tup [.str "most", tenc t, .str "loss"]), .val (.bl false), s10, s11, .no] st2 kn kc) (by kernel_rfl) ?_
      exact last_ok (Trm.most t u) d hd false _ st2 (ch_most_2 (by simp [Bad]) t w.1 h4 d (by omega) _) _ _ _ _ _ _ _ _ _ _ _ _ (hk _ _ _ _)
    · refine Ends_eq (r' := exs (tailC 10 bodyL) (runP TT d) [sc, j, .val (.ob n), .val (tenc (Trm.most t u)), s4, s5, s6, .val (.int 2), .val (.tup [.str "most", tenc t, .int (-1)]), .val (.bl false), s10, s11, .no] st2 kn kc) (by kernel_rfl) ?_
      exact last_ok (Trm.most t u) d hd false _ st2 (ch_most_2 (by simp [Bad]) t w.1 h4 d (by omega) _) _ _ _ _ _ _ _ _ _ _ _ _ (hk _ _ _ _)
    · refine Ends_eq (r' := exs (tailC 10 bodyL) (runP TT d) [sc, j, .val (.ob n), .val (tenc (Trm.most t u)), s4, s5, s6, .val (.int 2), .val (.tup [.str "most", tenc t, .tup []]), .val (.bl false), s10, s11, .no] st2 kn kc) (by kernel_rfl) ?_
      exact last_ok (Trm.most t u) d hd false _ st2 (ch_most_2 (by simp [Bad]) t w.1 h4 d (by omega) _) _ _ _ _ _ _ _ _ _ _ _ _ (hk _ _ _ _)
    · refine Ends_eq (r' := exs (tailC 10 bodyL) (runP TT d) [sc, j, .val (.ob n), .val (tenc (Trm.most t u)), s4, s5, s6, .val (.int 2), .val (.tup [.str "most", tenc t, .bl true]), .val (.bl false), s10, s11, .no] st2 kn kc) (by kernel_rfl) ?_
      exact last_ok (Trm.most t u) d hd false _ st2 (ch_most_2 (by simp [Bad]) t w.1 h4 d (by omega) _) _ _ _ _ _ _ _ _ _ _ _ _ (hk _ _ _ _)
end Cv.K02

set_option Elab.async false
set_option linter.all false
set_option maxRecDepth 100000
set_option maxHeartbeats 8000000
namespace Cv.K02
open PySem
theorem q_last (d : Nat) (hd : 30 ≤ d) (st : Sto) : runP TT d 45 [] st = .ok (.bl true) st := by
  obtain ⟨d, rfl⟩ : ∃ k, d = k + 30 := ⟨d - 30, by omega⟩
  kernel_rfl
theorem head_ok2 (ns : List Int) (hl : ns.length ≤ 63) (j : Nat) (hj : j ≤ 5) (d : Nat) (hd : 30 < d) (s2 s3 s4 s5 s6 s7 s8 s9 s10 s11 : Slt) (st : Sto) (kk kc : Kn) (Q : PV → Sto → Prop)
    (hkk : ∀ dn t st, twf t → tdp t ≤ 3 → Dice dn 10000 st → Ends (kk [.val (.lst (ns.map .int)), .val (.int j), .val (.ob dn), .val (tenc t), s4, s5, s6, s7, s8, s9, s10, s11, .no] st) Q) :
    Ends (exs (headC 2 bodyL) (runP TT d) [.val (.lst (ns.map .int)), .val (.int j), s2, s3, s4, s5, s6, s7, s8, s9, s10, s11, .no] st kk kc) Q := by
  obtain ⟨v0, st1, e1, rfl, h1⟩ := q_dice ns hl j hj d (by omega) st
  obtain ⟨t, st2, e2, w, h3, h2, l2⟩ := q_term 3 3 rfl st.length 0 d (by omega) st1 h1 (by decide)
  have fin := hkk st.length t st2 w h3 (dice_mono h2 (by decide))
  have z : eqP (.int ((tsz t : Nat) : Int)) (.int ((tsz t : Nat) : Int)) = true := by rw [eq_intP]; exact decide_eq_true rfl
  conv => arg 1; whnf
  try simp only [frz, frzAll, wipeS, backS, getS, setS, mkSlot_f]
  rw [e1]
  try simp only [frz, frzAll, wipeS, backS, getS, setS, mkSlot_f]
  conv => arg 1; whnf
  try simp only [frz, frzAll, wipeS, backS, getS, setS, mkSlot_f]
  rw [e2]
  try simp only [frz, frzAll, wipeS, backS, getS, setS, mkSlot_f]
  conv => arg 1; whnf
  try simp only [frz, frzAll, wipeS, backS, getS, setS, mkSlot_f]
  rw [q_isterm t w h3 d (by omega)]
  try simp only [frz, frzAll, wipeS, backS, getS, setS, mkSlot_f]
  conv => arg 1; whnf
  try simp only [frz, frzAll, wipeS, backS, getS, setS, mkSlot_f]
  rw [q_howmany t w h3 d (by omega)]
  try simp only [frz, frzAll, wipeS, backS, getS, setS, mkSlot_f]
  conv => arg 1; whnf
  try simp only [frz, frzAll, wipeS, backS, getS, setS, mkSlot_f]
  rw [q_lsize t d st2 (by omega)]
  try simp only [frz, frzAll, wipeS, backS, getS, setS, mkSlot_f]
  generalize ((tsz t : Nat) : Int) = sz at *
  conv => arg 1; whnf
  try simp only [frz, frzAll, wipeS, backS, getS, setS, mkSlot_f]
  rw [z]
  conv => arg 1; whnf
  exact fin
theorem rest_ok (t : Trm) (w : twf t) (h3 : tdp t ≤ 3) (n : Nat) (sc j s4 s5 s6 s7 s8 s9 s10 s11 : Slt) (h11 : NO s11) (d : Nat) (hd : 30 < d) (st : Sto) (hD : Dice n 10000 st) (kn kc : Kn) (Q : PV → Sto → Prop)
    (hk : ∀ ρ st, (∃ s2 s3 s4 s5 s6 s7 s8 s9 s10 s11, ρ = [sc, j, s2, s3, s4, s5, s6, s7, s8, s9, s10, s11, .no] ∧ NO s11) → Ends (kn ρ st) Q) :
    Ends (exs (tailC 2 bodyL) (runP TT d) [sc, j, .val (.ob n), .val (tenc t), s4, s5, s6, s7, s8, s9, s10, s11, .no] st kn kc) Q := by
  rw [exs_cut _ 1 (tailC 2 bodyL), names_ok t sc j _ s4 s5 s6 s7 s8 s9 s10 s11 h11 d (by omega)]
  have e4 : tailC 1 (tailC 2 bodyL) = tailC 4 bodyL := rfl
  show Ends (exs (tailC 1 (tailC 2 bodyL)) _ _ _ _ _) Q
  rw [e4, exs_cut _ 0 (tailC 4 bodyL)]
  refine bfs_ok t h3 sc j (.val (.ob n)) s6 s7 s8 s9 s10 s11 h11 d (by omega) st _ kc Q fun us s5 s6 s11 h11 hu inv => ?_
  have e5 : tailC 0 (tailC 4 bodyL) = tailC 5 bodyL := rfl
  show Ends (exs (tailC 0 (tailC 4 bodyL)) _ _ _ _ _) Q
  rw [e5, exs_cut _ 0 (tailC 5 bodyL)]
  refine names_check t w h3 us hu inv sc j (.val (.ob n)) s5 s6 s7 s8 s9 s10 s11 d hd st _ kc Q ?_
  have e6 : tailC 0 (tailC 5 bodyL) = tailC 6 bodyL := rfl
  show Ends (exs (tailC 0 (tailC 5 bodyL)) _ _ _ _ _) Q
  rw [e6, exs_cut _ 0 (tailC 6 bodyL)]
  refine turns7 t w h3 n sc j _ s5 s6 s7 s8 s9 s10 s11 h11 d hd st hD _ kc Q fun s6 s10 s11 st h11 hD => ?_
  have e7 : tailC 0 (tailC 6 bodyL) = tailC 7 bodyL := rfl
  show Ends (exs (tailC 0 (tailC 6 bodyL)) _ _ _ _ _) Q
  rw [e7]
  cases t with
  | loss => exact tl_loss w h3 n sc j _ s5 s6 s7 s8 s9 s10 s11 h11 d hd st hD kn kc Q fun s7 s8 s9 st => hk _ _ ⟨_, _, _, _, _, _, _, _, _, _, rfl, h11⟩
  | fixed q => exact tl_fixed q w h3 n sc j _ s5 s6 s7 s8 s9 s10 s11 h11 d hd st hD kn kc Q fun s7 s8 s9 st => hk _ _ ⟨_, _, _, _, _, _, _, _, _, _, rfl, h11⟩
  | layer l h t => exact tl_layer l h t w h3 n sc j _ s5 s6 s7 s8 s9 s10 s11 h11 d hd st hD kn kc Q fun s7 s8 s9 st => hk _ _ ⟨_, _, _, _, _, _, _, _, _, _, rfl, h11⟩
  | share a b t => exact tl_share a b t w h3 n sc j _ s5 s6 s7 s8 s9 s10 s11 h11 d hd st hD kn kc Q fun s7 s8 s9 st => hk _ _ ⟨_, _, _, _, _, _, _, _, _, _, rfl, h11⟩
  | cond c t => exact tl_cond c t w h3 n sc j _ s5 s6 s7 s8 s9 s10 s11 h11 d hd st hD kn kc Q fun s7 s8 s9 st => hk _ _ ⟨_, _, _, _, _, _, _, _, _, _, rfl, h11⟩
  | both t u => exact tl_both t u w h3 n sc j _ s5 s6 s7 s8 s9 s10 s11 h11 d hd st hD kn kc Q fun s7 s8 s9 st => hk _ _ ⟨_, _, _, _, _, _, _, _, _, _, rfl, h11⟩
  | rest t u => exact tl_rest t u w h3 n sc j _ s5 s6 s7 s8 s9 s10 s11 h11 d hd st hD kn kc Q fun s7 s8 s9 st => hk _ _ ⟨_, _, _, _, _, _, _, _, _, _, rfl, h11⟩
  | least t u => exact tl_least t u w h3 n sc j _ s5 s6 s7 s8 s9 s10 s11 h11 d hd st hD kn kc Q fun s7 s8 s9 st => hk _ _ ⟨_, _, _, _, _, _, _, _, _, _, rfl, h11⟩
  | most t u => exact tl_most t u w h3 n sc j _ s5 s6 s7 s8 s9 s10 s11 h11 d hd st hD kn kc Q fun s7 s8 s9 st => hk _ _ ⟨_, _, _, _, _, _, _, _, _, _, rfl, h11⟩
theorem law_ok (ns : List Int) (hl : ns.length ≤ 63) (d : Nat) (hd : 30 < d) : Ends (runP TT (d + 1) 46 [.lst (ns.map .int)] []) (fun v _ => v = .bl true) := by
  have key : ∀ J : Int, J ≤ 5 → Ends (forGo (.n 1) (exs bodyL (runP TT d)) (upto 0 J.toNat) [.val (.lst (ns.map .int)), .no, .no, .no, .no, .no, .no, .no, .no, .no, .no, .no, .no] [] (fun ρ st => exs (.ret (.call 45 .nil)) (runP TT d) ρ st (fun _ st => .ok .non st) (fun _ _ => .fail))) (fun v _ => v = .bl true) := by
    intro J hJ
    refine forR (fun _ ρ _ => ∃ s1 s2 s3 s4 s5 s6 s7 s8 s9 s10 s11, ρ = [.val (.lst (ns.map .int)), s1, s2, s3, s4, s5, s6, s7, s8, s9, s10, s11, .no] ∧ NO s11) _ 0 _ _ _ ⟨_, _, _, _, _, _, _, _, _, _, _, rfl, .inl rfl⟩ ?_ ?_
    · intro n x ρ st hx ⟨s1, s2, s3, s4, s5, s6, s7, s8, s9, s10, s11, eρ, h11⟩
      subst eρ
      obtain ⟨ex, hn⟩ := upto_getM _ 0 n x hx
      rw [Int.zero_add] at ex
      subst ex
      refine ⟨_, rfl, fun kn kc hk _ => ?_⟩
      refine cutR 2 (fun ρ st => ∃ dn t, ρ = [.val (.lst (ns.map .int)), .val (.int n), .val (.ob dn), .val (tenc t), s4, s5, s6, s7, s8, s9, s10, s11, .no] ∧ twf t ∧ tdp t ≤ 3 ∧ Dice dn 10000 st) ?_ ?_
      · intro kk hkk
        exact head_ok2 ns hl n (by omega) d hd s2 s3 s4 s5 s6 s7 s8 s9 s10 s11 st kk kc _ (fun dn t st w h hD => hkk _ _ ⟨dn, t, rfl, w, h, hD⟩)
      · intro ρ st ⟨dn, t, eρ, w, h, hD⟩
        subst eρ
        exact rest_ok t w h dn _ _ s4 s5 s6 s7 s8 s9 s10 s11 h11 d hd st hD kn kc _ (fun ρ st ⟨s2, s3, s4, s5, s6, s7, s8, s9, s10, s11, e, h⟩ => hk ρ st ⟨_, s2, s3, s4, s5, s6, s7, s8, s9, s10, s11, e, h⟩)
    · intro ρ st ⟨s1, s2, s3, s4, s5, s6, s7, s8, s9, s10, s11, eρ, h11⟩
      subst eρ
      conv => arg 1; whnf
      rw [q_last d (by omega)]
      exact ⟨_, _, rfl, rfl⟩
  have h0 : (0 : Int) ≤ ((ns.map PV.int).length : Int) := by omega
  conv => arg 1; whnf
  rw [range_ok ?hr]
  case hr =>
    unfold rngOk
    rw [Bool.and_eq_true]
    constructor <;> refine decide_eq_true ?_ <;> (split <;> (try split) <;> omega)
  have k2 : (if (if ((ns.map PV.int).length : Int) < 5 then ((ns.map PV.int).length : Int) else 5) > 1 then (if ((ns.map PV.int).length : Int) < 5 then ((ns.map PV.int).length : Int) else 5) else 1) ≤ 5 := by
    split <;> (try split) <;> omega
  exact key _ k2
theorem goal (ns : List Int) (hl : ns.length ≤ 63) (hb : ∀ z ∈ ns, Builtin.Int.intBits z ≤ 1048576) : ∃ st, runP TT (36 + 1) 46 [.lst (ns.map PV.int)] [] = .ok (.bl true) st := by
  obtain ⟨v, st, e, rfl⟩ := law_ok ns hl 36 (by decide)
  exact ⟨st, e⟩
end Cv.K02

set_option Elab.async false
set_option linter.all false
set_option maxRecDepth 100000
set_option maxHeartbeats 0
namespace Cv.K02
open PySem PySem.Spec PyProof.Rows L2

end Cv.K02
open PySem PySem.W PySem.Calls PyProof.Rows
theorem PySem.Challenge.cw_coverlines_k02_whole_terms_in_cases_holds : PySem.Challenge.rw_coverlines_k02_whole_terms_in_cases.Holds := by
  w_on; o_law
  refine HandSHeadRun.head_any (r := OpenLaw.row PySem.Challenge.rw_coverlines_k02_whole_terms_in_cases) (q := view (OpenLaw.row PySem.Challenge.rw_coverlines_k02_whole_terms_in_cases).prog [62]) (H := Cv.K02.hk) (ob := Cv.K02.ob) (M := 4000) (loose := Cv.K02.names) (d := HandSHeadRun.topDef (OpenLaw.row PySem.Challenge.rw_coverlines_k02_whole_terms_in_cases).prog 62) (kwd := []) Cv.K02.ob_eq
    (by kernel_rfl) (fun s => by kernel_rfl) Cv.K02.run (by kernel_rfl) (by kernel_rfl) (by kernel_rfl) (by rfl) (by first | assumption | decide +kernel) (by decide +kernel) ⟨rfl, rfl, rfl, rfl, rfl, by decide +kernel⟩ ?hw ?hc
  case hw => w_witness2
  case hc =>
    refine LamX.walk_ofTsE (l := PySem.Challenge.rw_coverlines_k02_whole_terms_in_cases) (n := 63) (k := 6 * 36 + 12) (x := "script") (CX := fun w => L2.CX (PySem.Challenge.rw_coverlines_k02_whole_terms_in_cases).prog w) rfl (by decide) (by kernel_rfl) ⟨rfl, by decide, by decide⟩ ?F (fun _ _ _ _ _ z => by obtain ⟨_, _, _, _, _, _, _, _, _, _, _, _, y⟩ := z; exact y)
    intro w mg fa h Y G hmg0
    obtain ⟨K, KX, c⟩ := Y
    have hmg : mg ("law" : PySem.Str) = some (.ref fa) := by
      have e : (HandSHeadRun.topDef (OpenLaw.row PySem.Challenge.rw_coverlines_k02_whole_terms_in_cases).prog 62).name = ("law" : PySem.Str) := by kernel_rfl
      rw [← e]
      exact hmg0
    exact ⟨K, KX, Cv.law_at Cv.K02.statk rfl 36 63 Cv.K02.goal KX G c hmg⟩
