import PyProof.Rows.All
import Wide.All
import OpenK.AllK
import Wide.FinOn
import HandS.ForMost
import HandS.Exc
import HandS.Wide
import HandS.IsInst
import HandS.Style
import HandS.Walk
import HandS.TupAny
import HandS.TupMul
import HandS.EndBits
import HandS.Defaults
import HandS.Ends
import PyProof.ReprRoads
import HandS.List
import KE.GoesEnum
import KE.GoesEnumKw
import HandS.Head0
import HandS.Head1
import HandS.Head2
import HandS.HeadEnd
import HandS.HeadHook1
import HandS.HeadHook2
import PySem.Challenge.RW_splitclimb_k54_additions_that_tell_posit
set_option Elab.async false
set_option linter.all false
set_option maxRecDepth 100000
/-! A small evaluator of defs over plain data: data, codes, the evaluator. -/
namespace T
open PySem PySem.Spec PyProof.Rows L2

/-- plain data -/
inductive D where
  | non | bl (b : Bool) | int (i : Int) | str (x : Str)
  | lst (xs : List D) | tup (xs : List D) | dic (ks : List Key) (xs : List D)
  deriving Inhabited

mutual
def D.toPy : D → PyData
  | .non => .none
  | .bl b => .bool b
  | .int i => .int i
  | .str x => .str x
  | .lst xs => .list (D.toPys xs)
  | .tup xs => .tuple (D.toPys xs)
  | .dic _ _ => .dict []
def D.toPys : List D → List PyData
  | [] => []
  | x :: xs => x.toPy :: D.toPys xs
end
mutual
/-- no dict within -/
def D.noDic : D → Bool
  | .dic _ _ => false
  | .lst xs => D.noDics xs
  | .tup xs => D.noDics xs
  | _ => true
def D.noDics : List D → Bool
  | [] => true
  | x :: xs => x.noDic && D.noDics xs
end

/-- how a slot holds its value: frozen; a list of one's own, a borrowed one; the same locked by a loop -/
inductive Stt where | fz | own | bor | lo | lb
  deriving DecidableEq
def Stt.mut : Stt → Bool
  | .fz => false
  | _ => true
structure Cell where
  st : Stt
  d : D
abbrev Env := List (Option Cell)

inductive BOp where | add | sub | mul | div | mod | pow | rep
  deriving DecidableEq
inductive COp where | eq | ne | lt | le | gt | ge | isin | notin | isN | notN
  deriving DecidableEq
inductive Ty where | int | bool | str | list | tuple | dict
  deriving DecidableEq
inductive BI where | len | sum | min | max | min2 | max2 | all | any | abs | int | list | tuple | repr
  deriving DecidableEq
inductive MI where | index
  deriving DecidableEq
/-- a target -/
inductive Tg where
  | nm (i : Nat) | tp (l : Tg) | nil | cons (a b : Tg)
  deriving DecidableEq

/-- expressions, argument lists, iterables -/
inductive E where
  | var (i : Nat)
  | non | bl (b : Bool) | int (i : Int) | str (x : Str)
  | gl (x : Str) (d : D)
  | bin (op : BOp) (a b : E) | neg (a : E)
  | nt (a : E) | andE (a b : E) | orE (a b : E)
  | ite (c a b : E)
  | cmp (op : COp) (a b : E) | chain (o1 o2 : COp) (a b c : E)
  | tupE (args : E) | lstE (args : E)
  | nil | cons (a b : E)
  | ix (a b : E) | sl (a lo hi : E) | nopart | rvs (a : E)
  | call (f : Nat) (args : E) | callK (f : Nat) (args kws : E) (ks : List Str) (pm : List Nat)
  | bi (b : BI) (args : E)
  | mth (m : MI) (a : E) (args : E)
  | isi (a : E) (one : Bool) (tys : List Ty)
  | lc (own : List Nat) (elt : E) (tg : Tg) (it cond : E)
  | yes | val (a : E) | tru (a : E)
  | seq (a : E) | range1 (a : E) | range2 (a b : E) | range3 (a b c : E) | enum (a : E) | enumS (a b : E) | zip (a b : E) | zipK (a b : E) | rev (a : E)

/-- statements, blocks -/
inductive S where
  | pass | brk | cont
  | asg (i : Nat) (e : E) | par (is : List Nat) (es : E) | unp (tg : Tg) (e : E)
  | drop (e : E) | aug (i : Nat) (op : BOp) (e : E)
  | setI (x : Nat) (i e : E) | augI (x : Nat) (i : E) (op : BOp) (e : E)
  | app (x : Nat) (e : E) | ext (x : Nat) (e : E)
  | ret (e : E) | retN
  | ifS (c : E) (a b : S)
  | forS (tg : Tg) (it : E) (body : S)
  | whl (c : E) (body : S)
  | never
  | nil | cons (a b : S)
  | fga (l : List Nat) (s : S)

structure Exn where
  cls : Nat
  val : D
/-- what a def does with its arguments: io: the place of the one argument that it may change -/
inductive FRes where
  | ret (fr : Bool) (d : D) (out : D) | ex (x : Exn) (out : D) | no
structure Fn where
  ar : Nat
  io : Option Nat
  run : List D → FRes

/-- a value as it comes: what a slot holds (mutable), frozen data, a fresh list -/
inductive BV where
  | slot (i : Nat) | dt (x : D) | fr (x : D)
inductive Res (α : Type) where
  | ok (a : α) (c : Env) | ex (x : Exn) (c : Env) | no
def Res.bind {α β : Type} (r : Res α) (f : α → Env → Res β) : Res β :=
  match r with
  | .ok a c => f a c
  | .ex x c => .ex x c
  | .no => .no
@[simp] theorem Res.bind_ok {α β : Type} (a : α) (c : Env) (f : α → Env → Res β) : (Res.ok a c).bind f = f a c := rfl
@[simp] theorem Res.bind_ex {α β : Type} (a : Exn) (c : Env) (f : α → Env → Res β) : (Res.ex a c : Res α).bind f = .ex a c := rfl
@[simp] theorem Res.bind_no {α β : Type} (f : α → Env → Res β) : (Res.no : Res α).bind f = .no := rfl
def Res.opt {α : Type} (o : Option α) (c : Env) : Res α := match o with
  | some a => .ok a c
  | none => .no
@[simp] theorem Res.opt_some {α : Type} (a : α) (c : Env) : Res.opt (some a) c = .ok a c := rfl

def Env.cell (c : Env) (i : Nat) : Option Cell := (c[i]?).join
/-- what a value is now -/
def BV.rd (c : Env) : BV → Option D
  | .slot i => (c.cell i).map (·.d)
  | .dt x => some x
  | .fr x => some x
/-- the value goes elsewhere: a list of one's own is frozen -/
def BV.esc (c : Env) : BV → Res D
  | .slot i => match c.cell i with
    | some ⟨.own, d⟩ => .ok d (c.set i (some ⟨.fz, d⟩))
    | _ => .no
  | .dt x => .ok x c
  | .fr x => .ok x c
def escAll : List BV → Env → Res (List D)
  | [], c => .ok [] c
  | b :: bs, c => (b.esc c).bind fun x c => (escAll bs c).bind fun xs c => .ok (x :: xs) c
def rdAll (c : Env) : List BV → Option (List D)
  | [] => some []
  | b :: bs => (b.rd c).bind fun x => (rdAll c bs).map fun xs => x :: xs

/-! ### operations -/
def mulOk (i j : Int) : Bool := decide (i.natAbs.log2 + j.natAbs.log2 < 130000000)
def divOk (j : Int) : Bool := decide (0 < j) && decide (j.natAbs.log2 < 9000)
def binD : BOp → D → D → Option (Bool × D)
  | .add, .int i, .int j => some (false, .int (i + j))
  | .add, .str x, .str y => if x.length + y.length ≤ sizeLine then some (false, .str (x ++ y)) else none
  | .add, .lst x, .lst y => if x.length + y.length ≤ sizeLine then some (true, .lst (x ++ y)) else none
  | .add, .tup x, .tup y => if x.length + y.length ≤ sizeLine then some (false, .tup (x ++ y)) else none
  | .sub, .int i, .int j => some (false, .int (i - j))
  | .mul, .int i, .int j => if mulOk i j then some (false, .int (i * j)) else none
  | .rep, .lst x, .int k => if -(2 ^ 63) ≤ k ∧ k < 2 ^ 63 ∧ x.length * k.toNat ≤ sizeLine then some (true, .lst (List.replicate k.toNat x).flatten) else none
  | .rep, .tup x, .int k => if -(2 ^ 63) ≤ k ∧ k ≤ 1000 ∧ x.length ≤ 1000 then some (false, .tup (List.replicate k.toNat x).flatten) else none
  | .div, .int i, .int j => if divOk j then some (false, .int (i / j)) else none
  | .mod, .int i, .int j => if 0 < j then some (false, .int (i % j)) else none
  | .pow, .int i, .int j => if 0 ≤ j ∧ j ≤ 1000000 ∧ i.natAbs < 2 ^ 64 then some (false, .int (i ^ j.toNat)) else none
  | _, _, _ => none
def D.flat : D → Bool
  | .non => true
  | .bl _ => true
  | .int _ => true
  | .str _ => true
  | _ => false
/-- a flat thing, as the layer's value -/
def D.toV : D → V
  | .bl b => .bl b
  | .int i => .int i
  | .str x => .str x
  | _ => .non
def eqD (d e : D) : Option Bool :=
  if d.noDic && e.noDic && SeqAt.shaped d.toPy && SeqAt.shaped e.toPy then some (PyData.eqv d.toPy e.toPy) else none
def inD (d : D) (xs : List D) : Option Bool := if d.flat && xs.all D.flat then some (inV d.toV (xs.map D.toV)) else none
def isNon : D → Bool
  | .non => true
  | _ => false
def cmpD : COp → D → D → Option Bool
  | .eq, d, e => eqD d e
  | .ne, d, e => (eqD d e).map (!·)
  | .lt, .int i, .int j => some (decide (i < j))
  | .le, .int i, .int j => some (decide (i ≤ j))
  | .gt, .int i, .int j => some (decide (j < i))
  | .ge, .int i, .int j => some (decide (j ≤ i))
  | .isin, d, .lst xs => inD d xs
  | .isin, d, .tup xs => inD d xs
  | .notin, d, .lst xs => (inD d xs).map (!·)
  | .notin, d, .tup xs => (inD d xs).map (!·)
  | .isN, d, .non => some (isNon d)
  | .notN, d, .non => some (!isNon d)
  | _, _, _ => none
def truD : D → Option Bool
  | .non => some false
  | .bl b => some b
  | .int i => some (i != 0)
  | .str y => if y.length ≤ sizeLine then some ((y.length : Int) != 0) else none
  | .lst xs => some (!xs.isEmpty)
  | .tup xs => some (!xs.isEmpty)
  | .dic _ _ => none
def ixD : D → D → Option D
  | .lst xs, .int i => atI xs i
  | .tup xs, .int i => atI xs i
  | _, _ => none
def cutD {α : Type} (xs : List α) (lo hi : Option Int) : List α := (xs.drop (HT.sIx xs.length 0 lo)).take (HT.sIx xs.length xs.length hi - HT.sIx xs.length 0 lo)
def slD : D → Option Int → Option Int → Option (Bool × D)
  | .lst xs, lo, hi => some (true, .lst (cutD xs lo hi))
  | .tup xs, lo, hi => some (false, .tup (cutD xs lo hi))
  | _, _, _ => none
def toInt : D → Option Int
  | .int i => some i
  | _ => none
def toBl : D → Option Bool
  | .bl b => some b
  | _ => none
def isLs : Option D → Bool
  | some (.lst _) => true
  | _ => false
def isNopart : E → Bool
  | .nopart => true
  | _ => false
/-- a part of a slice: left out, or an int -/
def partE (e : E) (d : Option D) : Option (Option Int) := if isNopart e then some none else (d.bind toInt).map some
def toInts : List D → Option (List Int)
  | [] => some []
  | .int i :: xs => (toInts xs).map (i :: ·)
  | _ :: _ => none
def toBls : List D → Option (List Bool)
  | [] => some []
  | .bl i :: xs => (toBls xs).map (i :: ·)
  | _ :: _ => none
def minI : Int → List Int → Int
  | m, [] => m
  | m, x :: xs => minI (min m x) xs
def maxI : Int → List Int → Int
  | m, [] => m
  | m, x :: xs => maxI (max m x) xs
/-- a list or a tuple whose display is within the rules' reach -/
def reprOk (d : D) : Bool := (match d with | .lst _ => true | .tup _ => true | _ => false) && d.noDic && d.toPy.showable && decide (d.toPy.depth ≤ 32) && decide (d.toPy.shown.length ≤ sizeLine)
def biD : BI → List D → Option (Bool × D)
  | .len, [.lst xs] => some (false, .int xs.length)
  | .len, [.tup xs] => some (false, .int xs.length)
  | .len, [.str x] => if x.length ≤ sizeLine then some (false, .int x.length) else none
  | .sum, [.lst xs] => (toInts xs).map fun ns => (false, .int ns.sum)
  | .min, [.lst xs] => match toInts xs with
    | some (n :: ns) => some (false, .int (minI n ns))
    | _ => none
  | .max, [.lst xs] => match toInts xs with
    | some (n :: ns) => some (false, .int (maxI n ns))
    | _ => none
  | .min2, [.int i, .int j] => some (false, .int (if j < i then j else i))
  | .max2, [.int i, .int j] => some (false, .int (if j > i then j else i))
  | .all, [.lst xs] => (toBls xs).map fun bs => (false, .bl (bs.all id))
  | .any, [.lst xs] => (toBls xs).map fun bs => (false, .bl (bs.any id))
  | .abs, [.int i] => some (false, .int (if i < 0 then -i else i))
  | .int, [.int i] => some (false, .int i)
  | .int, [.bl b] => some (false, .int (if b then 1 else 0))
  | .list, [.lst xs] => some (true, .lst xs)
  | .list, [.tup xs] => some (true, .lst xs)
  | .tuple, [.lst xs] => some (false, .tup xs)
  | .tuple, [.tup xs] => some (false, .tup xs)
  | .repr, [d] => if reprOk d then some (false, .str d.toPy.shown) else none
  | _, _ => none
/-- the first place of a flat thing -/
def placeV (y : V) : List V → Option Nat
  | [] => none
  | z :: zs => if eqV z y then some 0 else (placeV y zs).map (· + 1)
def mthD : MI → D → List D → Option (Bool × D)
  | .index, .lst xs, [y] => if y.flat && xs.all D.flat then (placeV y.toV (xs.map D.toV)).map fun j => (false, .int j) else none
  | _, _, _ => none
inductive DT where | non | bl | int | str | lst | tup | dic
  deriving DecidableEq
def D.dt : D → DT
  | .non => .non | .bl _ => .bl | .int _ => .int | .str _ => .str | .lst _ => .lst | .tup _ => .tup | .dic _ _ => .dic
def isT : DT → Ty → Bool
  | .int, .int => true
  | .bl, .int => true
  | .bl, .bool => true
  | .str, .str => true
  | .lst, .list => true
  | .tup, .tuple => true
  | .dic, .dict => true
  | _, _ => false
def isTyD (d : D) (t : Ty) : Bool := isT d.dt t
def bvOf (p : Bool × D) : BV := if p.1 then .fr p.2 else .dt p.2

/-! ### calls -/
def passIo (c : Env) : BV → Option (Nat × D)
  | .slot i => match c.cell i with
    | some ⟨.own, d⟩ => some (i, d)
    | some ⟨.bor, d⟩ => some (i, d)
    | _ => none
  | _ => none
/-- arguments to a def that changes none -/
def callF (F : Fn) (bs : List BV) (c : Env) : Res BV := if bs.length ≠ F.ar then .no else
  match F.io with
  | none => (escAll bs c).bind fun ds c => match F.run ds with
    | .ret fr d _ => .ok (bvOf (fr, d)) c
    | .ex x _ => .ex x c
    | .no => .no
  | some k => match bs[k]? with
    | none => .no
    | some b => match passIo c b with
      | none => .no
      | some (i, di) => (escAll (bs.eraseIdx k) c).bind fun ds c => match c.cell i with
        | none => .no
        | some x => if x.st = .own ∨ x.st = .bor then
            (match F.run (ds.insertIdx k x.d) with
              | .ret fr d out => .ok (bvOf (fr, d)) (c.set i (some ⟨x.st, out⟩))
              | .ex e out => .ex e (c.set i (some ⟨x.st, out⟩))
              | .no => .no) else .no

def permL {α : Type} (pm : List Nat) (l : List α) : List α := pm.filterMap (l[·]?)
/-- .. where keywords order the arguments -/
def callKF (F : Fn) (pm : List Nat) (bs : List BV) (c : Env) : Res BV := match F.io with
  | none => (escAll bs c).bind fun ds c => if (permL pm ds).length ≠ F.ar then .no else match F.run (permL pm ds) with
    | .ret fr d _ => .ok (bvOf (fr, d)) c
    | .ex x _ => .ex x c
    | .no => .no
  | some _ => .no

/-! ### targets, loops -/
def clear? : Option Cell → Bool
  | none => true
  | some ⟨.fz, _⟩ => true
  | some ⟨.own, _⟩ => true
  | _ => false
/-- a slot is stored: not a borrowed one, not a locked one -/
def Env.put (c : Env) (i : Nat) (x : Cell) : Option Env := if i < c.length ∧ clear? (c.cell i) = true then some (c.set i (some x)) else none
def assign : Tg → D → Env → Option Env
  | .nm i, d, c => c.put i ⟨.fz, d⟩
  | .tp l, .tup ds, c => assign l (.lst ds) c
  | .nil, .lst [], c => some c
  | .cons a b, .lst (x :: xs), c => (assign a x c).bind fun c => assign b (.lst xs) c
  | _, _, _ => none
/-- a value that is walked: its items -/
def itemsD : D → Option (List D)
  | .lst xs => some xs
  | .tup xs => some xs
  | _ => none
def enumD (k : Int) : List D → List D
  | [] => []
  | x :: xs => .tup [.int k, x] :: enumD (k + 1) xs
def zipD : List D → List D → List D
  | x :: xs, y :: ys => .tup [x, y] :: zipD xs ys
  | _, _ => []
def rangeD (lo : Int) : Nat → List D
  | 0 => []
  | n + 1 => .int lo :: rangeD (lo + 1) n
def rangeC (lo step : Int) : Nat → List D
  | 0 => []
  | n + 1 => .int lo :: rangeC (lo + step) step n
def in62 (i : Int) : Bool := decide (-(2 ^ 62) ≤ i) && decide (i < 2 ^ 62)
/-- the turns of range(a, b, c), |c| small -/
def stepsOf (a b c : Int) : Nat := if 0 < c then ((b - a + c - 1) / c).toNat else ((a - b - c - 1) / (-c)).toNat
/-- a slot without a list of one's own -/
def free? (c : Env) (i : Nat) : Bool := match c.cell i with
  | none => true
  | some ⟨.fz, _⟩ => true
  | _ => false
def wipeE : List Nat → Env → Env
  | [], c => c
  | i :: l, c => (wipeE l c).set i none
def restE (o : Env) : List Nat → Env → Env
  | [], c => c
  | i :: l, c => (restE o l c).set i (o.cell i)
def lcGo (f : D → Env → Res (Option D)) : List D → Env → Res (List D)
  | [], c => .ok [] c
  | x :: xs, c => (f x c).bind fun o c => (lcGo f xs c).bind fun l c => .ok (o.toList ++ l) c
/-- how long a comprehension's list may be -/
def isNilE : E → Bool
  | .nil => true
  | _ => false

section
variable (Γ : Nat → Option Fn)
mutual
noncomputable def ev : E → Env → Res BV
  | .var i, c => match c.cell i with
    | some ⟨.fz, d⟩ => .ok (.dt d) c
    | some _ => .ok (.slot i) c
    | none => .no
  | .non, c => .ok (.dt .non) c
  | .bl b, c => .ok (.dt (.bl b)) c
  | .int i, c => .ok (.dt (.int i)) c
  | .str x, c => .ok (.dt (.str x)) c
  | .gl _ d, c => .ok (.dt d) c
  | .bin op a b, c => (ev a c).bind fun x c => (ev b c).bind fun y c =>
      Res.opt ((x.rd c).bind fun x => (y.rd c).bind fun y => (binD op x y).map bvOf) c
  | .neg a, c => (ev a c).bind fun x c => Res.opt ((x.rd c).bind fun x => (toInt x).map fun i => .dt (.int (-i))) c
  | .nt a, c => (ev a c).bind fun x c => Res.opt ((x.rd c).bind fun x => (toBl x).map fun b => .dt (.bl (!b))) c
  | .andE a b, c => (ev a c).bind fun x c => match (x.rd c).bind toBl with
    | some true => ev b c
    | some false => .ok (.dt (.bl false)) c
    | none => .no
  | .orE a b, c => (ev a c).bind fun x c => match (x.rd c).bind toBl with
    | some true => .ok (.dt (.bl true)) c
    | some false => ev b c
    | none => .no
  | .ite t a b, c => (ev t c).bind fun x c => match (x.rd c).bind toBl with
    | some true => ev a c
    | some false => ev b c
    | none => .no
  | .cmp op a b, c => (ev a c).bind fun x c => (ev b c).bind fun y c =>
      Res.opt ((x.rd c).bind fun x => (y.rd c).bind fun y => (cmpD op x y).map fun k => .dt (.bl k)) c
  | .chain o1 o2 a b e, c => (ev a c).bind fun x c => (ev b c).bind fun y c =>
      match (x.rd c).bind fun x => (y.rd c).bind fun y => cmpD o1 x y with
      | some true => (ev e c).bind fun z c => Res.opt ((y.rd c).bind fun y => (z.rd c).bind fun z => (cmpD o2 y z).map fun k => .dt (.bl k)) c
      | some false => .ok (.dt (.bl false)) c
      | none => .no
  | .tupE args, c => (evs args c).bind fun bs c => (escAll bs c).bind fun ds c => if ds.length ≤ sizeLine then .ok (.dt (.tup ds)) c else .no
  | .lstE args, c => (evs args c).bind fun bs c => (escAll bs c).bind fun ds c => if ds.length ≤ sizeLine then .ok (.fr (.lst ds)) c else .no
  | .ix a b, c => (ev a c).bind fun x c => (ev b c).bind fun y c =>
      Res.opt ((x.rd c).bind fun x => (y.rd c).bind fun y => (ixD x y).map .dt) c
  | .sl a lo hi, c => (ev a c).bind fun x c => (ev lo c).bind fun l c => (Res.opt (partE lo (l.rd c)) c).bind fun l c => (ev hi c).bind fun h c => (Res.opt (partE hi (h.rd c)) c).bind fun h c =>
      Res.opt ((x.rd c).bind fun x => (slD x l h).map bvOf) c
  | .nopart, c => .ok (.dt .non) c
  | .rvs a, c => (ev a c).bind fun x c => match x.rd c with
    | some (.lst xs) => .ok (.fr (.lst xs.reverse)) c
    | _ => .no
  | .call f args, c => (evs args c).bind fun bs c => match Γ f with
    | some F => callF F bs c
    | none => .no
  | .callK f args kws _ pm, c => (evs args c).bind fun bs c => (evs kws c).bind fun bs' c => match Γ f with
    | some F => callKF F pm (bs ++ bs') c
    | none => .no
  | .bi b args, c => (evs args c).bind fun bs c => Res.opt ((rdAll c bs).bind fun ds => (biD b ds).map bvOf) c
  | .mth m a args, c => (ev a c).bind fun x c => if isLs (x.rd c) = false then .no else (evs args c).bind fun bs c => Res.opt ((x.rd c).bind fun x => (rdAll c bs).bind fun ds => (mthD m x ds).map bvOf) c
  | .isi a _ tys, c => (ev a c).bind fun x c => Res.opt ((x.rd c).map fun x => .dt (.bl (tys.any (isTyD x)))) c
  | .lc own elt tg it cond, c => (evi it c).bind fun xs c => if own.all (free? c) = false then .no else
      (lcGo (fun x c => match assign tg x (wipeE own c) with
          | none => .no
          | some c => (ev cond c).bind fun t c => match (t.rd c).bind toBl with
            | some true => (ev elt c).bind fun y c => (y.esc c).bind fun d c => .ok (some d) c
            | some false => .ok none c
            | none => .no) xs c).bind fun l c' =>
        if l.length ≤ sizeLine then .ok (.fr (.lst l)) (restE c own c') else .no
  | .yes, c => .ok (.dt (.bl true)) c
  | .val a, c => ev a c
  | .tru a, c => (ev a c).bind fun x c => Res.opt ((x.rd c).bind fun x => (truD x).map fun b => .dt (.bl b)) c
  | _, _ => .no
noncomputable def evs : E → Env → Res (List BV)
  | .nil, c => .ok [] c
  | .cons a b, c => (ev a c).bind fun x c => (evs b c).bind fun xs c => .ok (x :: xs) c
  | _, _ => .no
noncomputable def evi : E → Env → Res (List D)
  | .seq a, c => (ev a c).bind fun x c => (x.esc c).bind fun d c => Res.opt (itemsD d) c
  | .range1 a, c => (ev a c).bind fun x c => Res.opt (((x.rd c).bind toInt).bind fun i => if in62 i then some (rangeD 0 i.toNat) else none) c
  | .range2 a b, c => (ev a c).bind fun x c => (ev b c).bind fun y c => Res.opt (((x.rd c).bind toInt).bind fun i => ((y.rd c).bind toInt).bind fun j =>
      if in62 i && in62 j then some (rangeD i (j - i).toNat) else none) c
  | .enum a, c => (ev a c).bind fun x c => (x.esc c).bind fun d c => Res.opt ((itemsD d).map (enumD 0)) c
  | .zip a b, c => (ev a c).bind fun x c => (ev b c).bind fun y c => (x.esc c).bind fun d c => (y.esc c).bind fun e c =>
      Res.opt ((itemsD d).bind fun xs => (itemsD e).map fun ys => zipD xs ys) c
  | _, _ => .no
end

inductive Out where
  | nx (c : Env) | rt (fr : Bool) (d : D) (c : Env) | bk (c : Env) | ct (c : Env) | ex (x : Exn) (c : Env) | no
def Res.out {α : Type} (r : Res α) (f : α → Env → Out) : Out := match r with
  | .ok a c => f a c
  | .ex x c => .ex x c
  | .no => .no
@[simp] theorem Res.out_ok {α : Type} (a : α) (c : Env) (f : α → Env → Out) : (Res.ok a c).out f = f a c := rfl
@[simp] theorem Res.out_ex {α : Type} (a : Exn) (c : Env) (f : α → Env → Out) : (Res.ex a c : Res α).out f = .ex a c := rfl
@[simp] theorem Res.out_no {α : Type} (f : α → Env → Out) : (Res.no : Res α).out f = .no := rfl
def Env.nx : Option Env → Out
  | some c => .nx c
  | none => .no
def forGo (f : D → Env → Out) : List D → Env → Out
  | [], c => .nx c
  | x :: xs, c => match f x c with
    | .nx c => forGo f xs c
    | .ct c => forGo f xs c
    | .bk c => .nx c
    | o => o
def whGo (t : Env → Res Bool) (f : Env → Out) : Nat → Env → Option Out
  | 0, _ => none
  | n + 1, c => match t c with
    | .ok false c => some (.nx c)
    | .ok true c => match f c with
      | .nx c => whGo t f n c
      | .ct c => whGo t f n c
      | .bk c => some (.nx c)
      | o => some o
    | .ex x c => some (.ex x c)
    | .no => some .no
theorem whGo_mono {t : Env → Res Bool} {f : Env → Out} : ∀ {n : Nat} {c : Env} {o : Out}, whGo t f n c = some o → ∀ m, n ≤ m → whGo t f m c = some o
  | n + 1, c, o, h, m + 1, hm => by
    have hm' : n ≤ m := Nat.le_of_succ_le_succ hm
    unfold whGo at h ⊢
    cases e1 : t c with
    | no => rw [e1] at h; exact h
    | ex x c' => rw [e1] at h; exact h
    | ok b c' =>
      rw [e1] at h
      cases b with
      | false => exact h
      | true =>
        simp only at h ⊢
        cases e2 : f c' with
        | nx c2 => rw [e2] at h; exact whGo_mono h m hm'
        | ct c2 => rw [e2] at h; exact whGo_mono h m hm'
        | bk c2 => rw [e2] at h; exact h
        | rt _ _ _ => rw [e2] at h; exact h
        | ex _ _ => rw [e2] at h; exact h
        | no => rw [e2] at h; exact h
open Classical in
noncomputable def whL (t : Env → Res Bool) (f : Env → Out) (c : Env) : Out :=
  if h : ∃ n o, whGo t f n c = some o then h.choose_spec.choose else .no
theorem whL_eq {t : Env → Res Bool} {f : Env → Out} {n : Nat} {c : Env} {o : Out} (h : whGo t f n c = some o) : whL t f c = o := by
  have hh : ∃ n o, whGo t f n c = some o := ⟨n, o, h⟩
  unfold whL
  rw [dif_pos hh]
  have e := hh.choose_spec.choose_spec
  have a := whGo_mono h (n + hh.choose) (by omega)
  have b := whGo_mono e (n + hh.choose) (by omega)
  rw [a] at b
  exact (Option.some.inj b).symm
theorem whL_some {t : Env → Res Bool} {f : Env → Out} {c : Env} {o : Out} (h : whL t f c = o) (ho : o ≠ .no) : ∃ n, whGo t f n c = some o := by
  unfold whL at h
  split at h
  · rename_i hh
    subst h
    exact ⟨_, hh.choose_spec.choose_spec⟩
  · exact absurd h.symm ho
/-- a value that is stored, handed back -/
def BV.keep (c : Env) : BV → Res (Bool × D)
  | .slot i => match c.cell i with
    | some ⟨.own, d⟩ => .ok (false, d) (c.set i (some ⟨.fz, d⟩))
    | _ => .no
  | .dt x => .ok (false, x) c
  | .fr x => .ok (true, x) c
def BV.giveBack (c : Env) : BV → Res (Bool × D)
  | .slot i => match c.cell i with
    | some ⟨.own, d⟩ => .ok (true, d) (c.set i none)
    | _ => .no
  | .dt x => .ok (false, x) c
  | .fr x => .ok (true, x) c
def cellOf (p : Bool × D) : Cell := ⟨if p.1 then .own else .fz, p.2⟩
def keepAll : List BV → Env → Res (List (Bool × D))
  | [], c => .ok [] c
  | b :: bs, c => (b.keep c).bind fun x c => (keepAll bs c).bind fun xs c => .ok (x :: xs) c
def putAll : List Nat → List (Bool × D) → Env → Option Env
  | [], [], c => some c
  | i :: is, p :: ps, c => (c.put i (cellOf p)).bind fun c => putAll is ps c
  | _, _, _ => none
def writable (c : Env) (i : Nat) : Option (Stt × List D) := match c.cell i with
  | some ⟨.own, .lst xs⟩ => some (.own, xs)
  | some ⟨.bor, .lst xs⟩ => some (.bor, xs)
  | _ => none
def augD : BOp → Int → Int → Option Int
  | .add, x, y => some (x + y)
  | .sub, x, y => some (x - y)
  | _, _, _ => none
noncomputable def xst : S → Env → Out
  | .pass, c => .nx c
  | .brk, c => .bk c
  | .cont, c => .ct c
  | .asg i e, c => (ev Γ e c).out fun x c => (x.keep c).out fun p c => Env.nx (c.put i (cellOf p))
  | .par is es, c => (evs Γ es c).out fun bs c => (keepAll bs c).out fun ps c => Env.nx (putAll is ps c)
  | .unp tg e, c => (ev Γ e c).out fun x c => (x.esc c).out fun d c => Env.nx (assign tg d c)
  | .drop e, c => (ev Γ e c).out fun _ c => .nx c
  | .aug i op e, c => match c.cell i with
      | some ⟨.fz, .int x⟩ => (ev Γ e c).out fun y c => match (y.rd c).bind toInt with
        | some y => match augD op x y with
          | some z => Env.nx (c.put i ⟨.fz, .int z⟩)
          | none => .no
        | none => .no
      | _ => .no
  | .setI x i e, c => (ev Γ e c).out fun y c => (y.esc c).out fun d c => match c.cell x with
      | none => .no
      | some _ => (ev Γ i c).out fun k c => match writable c x, (k.rd c).bind toInt with
        | some (st, l), some k => match ixN l.length k with
          | some j => .nx (c.set x (some ⟨st, .lst (l.set j d)⟩))
          | none => .no
        | _, _ => .no
  | .augI x i op e, c => (ev Γ i c).out fun k c => match (k.rd c).bind toInt with
      | none => .no
      | some k => match (c.cell x).map Cell.d with
        | some (.lst l) => match atI l k with
          | some (.int a) => (ev Γ e c).out fun y c => match (y.rd c).bind toInt, writable c x with
            | some y, some (st, l') => match ixN l'.length k with
              | some j => match augD op a y with
                | some z => .nx (c.set x (some ⟨st, .lst (l'.set j (.int z))⟩))
                | none => .no
              | none => .no
            | _, _ => .no
          | _ => .no
        | _ => .no
  | .app x e, c => match writable c x with
      | none => .no
      | some _ => (ev Γ e c).out fun y c => (y.esc c).out fun d c => match writable c x with
        | some (st, l) => if l.length < sizeLine then .nx (c.set x (some ⟨st, .lst (l ++ [d])⟩)) else .no
        | none => .no
  | .ext x e, c => match writable c x with
      | none => .no
      | some _ => (ev Γ e c).out fun y c => match y with
        | .fr (.lst m) => match writable c x with
          | some (st, l) => if l.length + m.length ≤ sizeLine then .nx (c.set x (some ⟨st, .lst (l ++ m)⟩)) else .no
          | none => .no
        | _ => .no
  | .ret e, c => (ev Γ e c).out fun x c => (x.giveBack c).out fun p c => .rt p.1 p.2 c
  | .retN, c => .rt false .non c
  | .ifS t a b, c => (ev Γ t c).out fun x c => match (x.rd c).bind toBl with
      | some true => xst a c
      | some false => xst b c
      | none => .no
  | .forS tg it body, c => (evi Γ it c).out fun xs c => forGo (fun x c => match assign tg x c with
        | none => .no
        | some c => xst body c) xs c
  | .whl t body, c => whL (fun c => (ev Γ t c).bind fun x c => Res.opt ((x.rd c).bind toBl) c) (fun c => xst body c) c
  | .never, _ => .no
  | .fga l s, c => match xst s c with
    | .nx c => .nx (wipeE l c)
    | .ct c => .ct (wipeE l c)
    | o => o
  | .nil, c => .nx c
  | .cons a b, c => match xst a c with
    | .nx c => xst b c
    | o => o
/-- a def's slots at its entry -/
def initE : Option Nat → List D → Env
  | _, [] => []
  | none, d :: ds => some ⟨.fz, d⟩ :: initE none ds
  | some 0, d :: ds => some ⟨.bor, d⟩ :: initE none ds
  | some (n + 1), d :: ds => some ⟨.fz, d⟩ :: initE (some n) ds
/-- what the argument that may change is in the end -/
def outE (io : Option Nat) (c : Env) (f : D → FRes) : FRes := match io with
  | none => f .non
  | some k => match c.cell k with
    | some ⟨.bor, d⟩ => f d
    | _ => .no
def endE (io : Option Nat) : Out → FRes
  | .nx c => outE io c fun o => .ret false .non o
  | .rt fr d c => outE io c fun o => .ret fr d o
  | .ex x c => outE io c fun o => .ex x o
  | _ => .no
/-- a def: its arguments, n slots, the one argument that it may change -/
noncomputable def mkFn (ar n : Nat) (io : Option Nat) (body : S) : Fn :=
  ⟨ar, io, fun ds => if ds.length = ar then endE io (xst Γ body (initE io ds ++ List.replicate (n - ar) none)) else .no⟩
end
end T

set_option Elab.async false
set_option linter.all false
set_option maxRecDepth 100000
set_option maxHeartbeats 1000000
/-! Defs that are called where no display of a collection is under way. -/
namespace T
open PySem PySem.Spec PyProof.Rows L2
/-- room, and no guard beneath -/
structure RoomG (k : Nat) (A : Around) : Prop where
  r : Room k A
  g : A.guards = some []
theorem RoomG.mono {j k : Nat} {A : Around} (r : RoomG k A) (h : j ≤ k) : RoomG j A := ⟨r.r.mono h, r.g⟩
structure FnG (P : Program) (w : World) (K : PySem.W.Frag) (mg : Str → Option Value) (base : Heap) (CX : CXT) (k : Nat) (f : Addr) (fd : FuncData) (ps : List Str) (sp : Sp) : Prop where
  len : ∀ vs H Q E, sp vs H Q E → vs.length = ps.length
  run : ∀ (A : Around) (outer : List PySem.Env) (s : Shared) (H : Hp) (args : Args) (us : List Value) (vs : List V) (Q : VK) (E : XK), RoomG k A → Env0 P w K mg base A outer s H → BindsTo s fd args (ps.zip us) → Vals vs us → sp vs H Q E →
    codeAny (model P w) A (.call (.ref f) args) (CR CX outer P w H s Q E) s
theorem FnG.mono {P : Program} {w : World} {K : PySem.W.Frag} {mg : Str → Option Value} {base : Heap} {CX : CXT} {j k : Nat} {f : Addr} {fd : FuncData} {ps : List Str} {sp : Sp} (F : FnG P w K mg base CX j f fd ps sp) (h : j ≤ k) : FnG P w K mg base CX k f fd ps sp :=
  ⟨F.len, fun A outer s H args us vs Q E hr => F.run A outer s H args us vs Q E (hr.mono h)⟩
/-- a def with its body -/
theorem fnG_of {P : Program} {w : World} {K : PySem.W.Frag} {mg : Str → Option Value} {base : Heap} {x qual : Str} {params : Arguments} {body : List Stmt} {scope : Scope} {dvs : List V} {kws : List (Str × V)} {f : Addr} {fd : FuncData} {CX : CXT} {N ps : List Str} {k : Nat} {sp : Sp}
    (F : FunD K x qual params body scope dvs kws f fd) (S : FnScope N ps scope) (len : ∀ vs H Q E, sp vs H Q E → vs.length = ps.length)
    (hbody : ∀ (cdv : Value) (A : Around) (outer : List PySem.Env) (s : Shared) (H : Hp) (vs : List V) (Q : VK) (E : XK), RoomG k (A.deeper (envOfC qual scope s.heap.objs.size f cdv)) → sp vs H Q E →
      ∃ t, PSs (cxOf CX P w K mg base N qual scope f cdv A outer s H E) body t ∧ t { nx := fun _ H' => Q .non H', rt := Q } (start N vs) H) : FnG P w K mg base CX (k + 1) f fd ps sp := by
  obtain ⟨oc, od, dV, kV, doc, pm, an, cdv, ct, osl, rfl, lk, hcd, _, _⟩ := F.ex
  refine ⟨len, fun A outer s H args us vs Q E hr e0 hb r hsp => ?_⟩
  have hin : ∀ b o, K.lookup b = some o → s.heap.get? b = some o := fun b o e => (e0.bs b o (e0.mod.kin b o e)).1
  have hk : ∀ y ∈ ps.zip us, scope.names.lookup y.1 = some .local ∨ (scope.names.lookup y.1 = some .cell ∧ ((cellsFrom (s.heap.objs.size + 1) scope.names []).lookup y.1).isSome = true) := fun y hy => by
    rcases S.par y.1 (List.of_mem_zip (show (y.1, y.2) ∈ ps.zip us from hy)).1 with q | q
    · exact .inl q
    · exact .inr ⟨q, PySem.W.cellsFrom_some _ _ _ (.inl q)⟩
  refine codeAny_call_function hr.r.depth (hin _ _ lk) rfl S.co S.gen rfl (PySem.W.codeRec_of hin hcd) (hb _ _ _ _ (wpAny_newFunctionEnv_cells S.kind hk fun env he s1 x => ?_))
  subst he
  refine ⟨(e0.mod.nolimit.keeps fun b o e => (e0.bs b o e).1).keeps x.toInCall.keep, codeAny_func ?_⟩
  obtain ⟨t, ht, hq⟩ := hbody cdv A outer s H vs Q E ⟨hr.r.deeper _, hr.g⟩ hsp
  refine wpAny_mono (ht.run [] s1 (start N vs) H _ (inv_start S hr.r.hd e0 (len _ _ _ _ hsp) r x) hq) (fun fl s' hs => ?_) fun e s' hs => hs
  cases fl with
  | ret u =>
    obtain ⟨v, σ', H', J, rv, q⟩ := hs
    exact ⟨v, H', J.os, J.bare, J.base, J.hok, rv, q⟩
  | next =>
    obtain ⟨σ', H', J, q⟩ := hs
    exact ⟨V.non, H', J.os, J.bare, J.base, J.hok, rfl, q⟩
  | brk =>
    obtain ⟨_, _, _, q⟩ := hs
    exact q.elim
  | cont =>
    obtain ⟨_, _, _, q⟩ := hs
    exact q.elim
section
variable {X : Cx} {CX : CXT} {k : Nat} {f : Addr} {fd : FuncData} {ps : List Str} {sp : Sp} {E : XK} {x : Str} {p pos : Pos} {e : Expr} {es : List Expr} {t : TA}
/-- such a def, called -/
theorem run_fnG {pins : List (Addr × Obj)} {σ : L2.St} {H : Hp} {s : Shared} {Q : VK} {args : Args} {us : List Value} {vs : List V} (F : FnG X.prog X.w X.K X.mg X.base CX k f fd ps sp) (hr : RoomG k X.A) (hb : BindsTo s fd args (ps.zip us)) (hx : Passes CX X E)
    (I : Inv X pins σ H s) (r : Vals vs us) (h : sp vs H Q E) : codeAny (model X.prog X.w) X.A (.call (.ref f) args) (fun r s' => match r with | .ok (.ret u) => EP X pins σ Q u s' | .ok _ => False | .error e => X.xe e s') s := by
  refine codeAny_mono (F.run X.A X.stack s H args us vs Q E hr I.env0 hb r h) fun r s' hq => ?_
  match r, hq with
  | .error e, hq => exact hx pins σ H s e s' I hq
  | .ok (.ret u), hq => exact I.after hq
theorem pe_callG (F : FnG X.prog X.w X.K X.mg X.base CX k f fd ps sp) (hr : RoomG k X.A) (hg : Gl X x) (hm : X.mg x = some (.ref f)) (hk : PySem.W.keepIn X.K (.ref f) = true) (hb : Binds X.K fd ps []) (hx : Passes CX X E)
    (ha : PA X (e :: es) t) (hdb : (x == ("__debug__" : Str)) = false := by decide) (he : starEach (e :: es) X.env = (false, eval e X.env) :: starEach es X.env := by rfl) (hpl : (backTo pos (starEach es X.env)).any (·.1) = false := by rfl) :
    PE X (.Call (.Name x p) (e :: es) [] pos) (tCall sp [] E t) := by
  refine ⟨fun pins s σ H Q I h => wpAny_Call_Name_kw (ld_glob I hg hm (PySem.W.callWith_K (h₀ := X.base) I.ok.mod.kin hk (thn (ha.run pos pins s σ H _ I h) fun us s1 ⟨vs, H1, I1, r, q⟩ => ⟨I1.kIn, ?_⟩) he hpl) hdb)⟩
  have q : sp (vs ++ []) H1 Q E := q
  rw [List.append_nil] at q
  have hl : us.length = ps.length := by rw [← r.length]; exact F.len _ _ _ _ q
  have b := hb s1 us I1.kIn (by rw [List.append_nil]; exact hl)
  rw [List.append_nil] at b
  refine wpAny_call (codeAny_mono (run_fnG F hr b hx I1 r q) fun r s' hq => ?_)
  match r, hq with
  | .error e, hq => exact hq
  | .ok (.ret u), hq => exact hq
end
end T

set_option Elab.async false
set_option linter.all false
set_option maxRecDepth 100000
set_option maxHeartbeats 1000000
/-! What stands for what; the operations by the layer's rules. -/
namespace T
open PySem PySem.Spec PyProof.Rows L2

mutual
inductive Dq (K : PySem.W.Frag) (H : Hp) : V → D → Prop
  | non : Dq K H .non .non
  | bl (b : Bool) : Dq K H (.bl b) (.bl b)
  | int (i : Int) : Dq K H (.int i) (.int i)
  | str (x : Str) : Dq K H (.str x) (.str x)
  | lst {a : Addr} {xs : List V} {ds : List D} : SqL K H a xs → DqAll K H xs ds → Dq K H (.ref a) (.lst ds)
  | tup {a : Addr} {xs : List V} {ds : List D} : SqT K H a xs → DqAll K H xs ds → Dq K H (.ref a) (.tup ds)
  | dic {a : Addr} {ks : List Key} {xs : List V} {ds : List D} : H a = some (.dK (ks.zip xs)) → ks.length = xs.length → DqAll K H xs ds → Dq K H (.ref a) (.dic ks ds)
inductive DqAll (K : PySem.W.Frag) (H : Hp) : List V → List D → Prop
  | nil : DqAll K H [] []
  | cons {v : V} {vs : List V} {d : D} {ds : List D} : Dq K H v d → DqAll K H vs ds → DqAll K H (v :: vs) (d :: ds)
end
/-- H is kept -/
def Le (F H : Hp) : Prop := ∀ a o, F a = some o → H a = some o
theorem Le.refl (F : Hp) : Le F F := fun _ _ h => h
theorem Le.trans {F G H : Hp} (a : Le F G) (b : Le G H) : Le F H := fun x o h => b x o (a x o h)
theorem Le.upd {F H : Hp} {p : Addr} {o : HO} (h : Le F H) (hp : F p = none) : Le F (upd H p o) := fun a u e => by
  rw [upd_ne (ne_of_none e hp)]; exact h a u e
theorem Le.new {H : Hp} {p : Addr} {o : HO} (hp : H p = none) : Le H (L2.upd H p o) := (Le.refl H).upd hp
theorem Le.none {F H : Hp} (h : Le F H) {p : Addr} (hp : H p = none) : F p = none := by
  cases e : F p with
  | none => rfl
  | some o => rw [h p o e] at hp; cases hp
theorem Le.both {F H : Hp} (h : Le F H) {p : Addr} {o : HO} : Le (L2.upd F p o) (L2.upd H p o) := fun a u e => by
  by_cases ha : a = p
  · subst ha; rw [upd_same] at e ⊢; exact e
  · rw [upd_ne ha] at e ⊢; exact h a u e
theorem Le.rd {F H : Hp} (h : Le F H) {a : Addr} {u : HO} (r : Rd F a u) : Rd H a u := by
  rcases r with r | ⟨o, r⟩
  · exact .inl (h _ _ r)
  · exact .inr ⟨o, h _ _ r⟩
theorem Le.sql {K : PySem.W.Frag} {F H : Hp} (h : Le F H) {a : Addr} {xs : List V} (r : SqL K F a xs) : SqL K H a xs := by
  rcases r with r | r
  · exact .inl (h.rd r)
  · exact .inr r
theorem Le.sqt {K : PySem.W.Frag} {F H : Hp} (h : Le F H) {a : Addr} {xs : List V} (r : SqT K F a xs) : SqT K H a xs := by
  rcases r with r | r
  · exact .inl (h.rd r)
  · exact .inr r
section
variable {K : PySem.W.Frag} {F G H : Hp}
mutual
theorem Dq.le (h : Le F H) : ∀ (d : D) (v : V), Dq K F v d → Dq K H v d
  | _, _, .non => .non
  | _, _, .bl b => .bl b
  | _, _, .int i => .int i
  | _, _, .str x => .str x
  | .lst ds, _, .lst s t => .lst (h.sql s) (Dq.leAll h ds _ t)
  | .tup ds, _, .tup s t => .tup (h.sqt s) (Dq.leAll h ds _ t)
  | .dic _ ds, _, .dic s l t => .dic (h _ _ s) l (Dq.leAll h ds _ t)
theorem Dq.leAll (h : Le F H) : ∀ (ds : List D) (vs : List V), DqAll K F vs ds → DqAll K H vs ds
  | [], _, .nil => .nil
  | d :: ds, _, .cons s t => .cons (Dq.le h d _ s) (Dq.leAll h ds _ t)
end
theorem Dq.up {d : D} {v : V} (x : Dq K F v d) (h : Le F H) : Dq K H v d := Dq.le h d v x
theorem DqAll.up {ds : List D} {vs : List V} (x : DqAll K F vs ds) (h : Le F H) : DqAll K H vs ds := Dq.leAll h ds vs x
theorem DqAll.length : ∀ {vs : List V} {ds : List D}, DqAll K F vs ds → vs.length = ds.length
  | _, _, .nil => rfl
  | _, _, .cons _ t => by rw [List.length_cons, List.length_cons, t.length]
theorem DqAll.append : ∀ {vs ws : List V} {ds es : List D}, DqAll K F vs ds → DqAll K F ws es → DqAll K F (vs ++ ws) (ds ++ es)
  | _, _, _, _, .nil, s => s
  | _, _, _, _, .cons r t, s => .cons r (t.append s)
theorem DqAll.get : ∀ {vs : List V} {ds : List D} {i : Nat} {d : D}, DqAll K F vs ds → ds[i]? = some d → ∃ v, vs[i]? = some v ∧ Dq K F v d
  | _, _, _, _, .nil, e => by simp at e
  | _, _, 0, _, .cons r _, e => by simp at e; subst e; exact ⟨_, rfl, r⟩
  | _, _, i + 1, _, .cons _ t, e => by
    obtain ⟨v, h1, h2⟩ := DqAll.get (i := i) t (by simpa using e)
    exact ⟨v, by simpa using h1, h2⟩
theorem DqAll.getV : ∀ {vs : List V} {ds : List D} {i : Nat} {v : V}, DqAll K F vs ds → vs[i]? = some v → ∃ d, ds[i]? = some d ∧ Dq K F v d
  | _, _, _, _, .nil, e => by simp at e
  | _, _, 0, _, .cons r _, e => by simp at e; subst e; exact ⟨_, rfl, r⟩
  | _, _, i + 1, _, .cons _ t, e => by
    obtain ⟨v, h1, h2⟩ := DqAll.getV (i := i) t (by simpa using e)
    exact ⟨v, by simpa using h1, h2⟩
theorem DqAll.set : ∀ {vs : List V} {ds : List D} {v : V} {d : D} (i : Nat), Dq K F v d → DqAll K F vs ds → DqAll K F (vs.set i v) (ds.set i d)
  | _, _, _, _, _, _, .nil => .nil
  | _, _, _, _, 0, r, .cons _ t => .cons r t
  | _, _, _, _, i + 1, r, .cons q t => .cons q (DqAll.set i r t)
theorem DqAll.take : ∀ {vs : List V} {ds : List D} (n : Nat), DqAll K F vs ds → DqAll K F (vs.take n) (ds.take n)
  | _, _, 0, _ => .nil
  | _, _, _ + 1, .nil => .nil
  | _, _, n + 1, .cons r t => .cons r (t.take n)
theorem DqAll.drop : ∀ {vs : List V} {ds : List D} (n : Nat), DqAll K F vs ds → DqAll K F (vs.drop n) (ds.drop n)
  | _, _, 0, r => r
  | _, _, _ + 1, .nil => .nil
  | _, _, n + 1, .cons _ t => t.drop n
theorem DqAll.reverse {vs : List V} {ds : List D} (h : DqAll K F vs ds) : DqAll K F vs.reverse ds.reverse := by
  induction ds generalizing vs with
  | nil => cases h; exact .nil
  | cons d ds ih =>
    cases h with
    | cons r t =>
      rw [List.reverse_cons, List.reverse_cons]
      exact (ih t).append (.cons r .nil)
theorem DqAll.rep {vs : List V} {ds : List D} (h : DqAll K F vs ds) : ∀ k : Nat, DqAll K F (List.replicate k vs).flatten (List.replicate k ds).flatten
  | 0 => .nil
  | k + 1 => by
    rw [List.replicate_succ, List.replicate_succ, List.flatten_cons, List.flatten_cons]
    exact h.append (h.rep k)
theorem DqAll.cut {vs : List V} {ds : List D} (h : DqAll K F vs ds) (lo hi : Option Int) : DqAll K F (cutV vs lo hi) (cutD ds lo hi) := by
  unfold cutV cutD
  rw [h.length]
  exact (h.drop _).take _
theorem DqAll.ints : ∀ {vs : List V} {ds : List D} {ns : List Int}, DqAll K F vs ds → toInts ds = some ns → vs = ns.map V.int
  | _, [], ns, .nil, e => by cases e; rfl
  | _, d :: ds, ns, .cons r t, e => by
    cases r <;> simp only [toInts, reduceCtorEq] at e
    rename_i i
    cases h : toInts ds with
    | none => rw [h] at e; cases e
    | some ms => rw [h] at e; cases e; rw [List.map_cons, t.ints h]
theorem DqAll.bls : ∀ {vs : List V} {ds : List D} {ns : List Bool}, DqAll K F vs ds → toBls ds = some ns → vs = ns.map V.bl
  | _, [], ns, .nil, e => by cases e; rfl
  | _, d :: ds, ns, .cons r t, e => by
    cases r <;> simp only [toBls, reduceCtorEq] at e
    rename_i i
    cases h : toBls ds with
    | none => rw [h] at e; cases e
    | some ms => rw [h] at e; cases e; rw [List.map_cons, t.bls h]
theorem Dq.flat {v : V} {d : D} (h : Dq K F v d) (f : d.flat = true) : v = d.toV ∧ flatV v = true := by
  cases h <;> first | exact ⟨rfl, rfl⟩ | cases f
theorem DqAll.flat : ∀ {vs : List V} {ds : List D}, DqAll K F vs ds → ds.all D.flat = true → vs = ds.map D.toV ∧ vs.all flatV = true
  | _, _, .nil, _ => ⟨rfl, rfl⟩
  | _, d :: ds, .cons r t, f => by
    rw [List.all_cons, Bool.and_eq_true] at f
    obtain ⟨e1, e2⟩ := r.flat f.1
    obtain ⟨e3, e4⟩ := t.flat f.2
    exact ⟨by rw [List.map_cons, ← e1, ← e3], by rw [List.all_cons, e2, e4]; rfl⟩
mutual
theorem Dq.py : ∀ (d : D) (v : V), Dq K F v d → d.noDic = true → Dp K F v d.toPy
  | _, _, .non, _ => .non
  | _, _, .bl b, _ => .bl b
  | _, _, .int i, _ => .int i
  | _, _, .str x, _ => .str x
  | .lst ds, _, .lst s t, n => .lst s (Dq.pyAll ds _ t n)
  | .tup ds, _, .tup s t, n => .tup s (Dq.pyAll ds _ t n)
  | .dic _ _, _, .dic .., n => by cases n
theorem Dq.pyAll : ∀ (ds : List D) (vs : List V), DqAll K F vs ds → D.noDics ds = true → DpAll K F vs (D.toPys ds)
  | [], _, .nil, _ => .nil
  | d :: ds, _, .cons s t, n => by
    have n' : (d.noDic && D.noDics ds) = true := n
    rw [Bool.and_eq_true] at n'
    exact .cons (Dq.py d _ s n'.1) (Dq.pyAll ds _ t n'.2)
end
end

/-- a list (dict) of one's own: it stands in H, not in the frozen part F -/
def OwnOk (K : PySem.W.Frag) (F H : Hp) (v : V) : D → Prop
  | .lst ds => ∃ a xs, v = .ref a ∧ F a = none ∧ H a = some (.lst xs) ∧ DqAll K F xs ds
  | .dic ks ds => ∃ a xs, v = .ref a ∧ F a = none ∧ H a = some (.dK (ks.zip xs)) ∧ ks.length = xs.length ∧ DqAll K F xs ds
  | _ => False
/-- a value as it is read -/
def Sh (K : PySem.W.Frag) (F H : Hp) (v : V) (d : D) : Prop := Dq K F v d ∨ OwnOk K F H v d
section
variable {K : PySem.W.Frag} {F H : Hp} {v : V}
theorem Sh.up {d : D} (s : Sh K F H v d) (h : Le F H) : Dq K H v d := by
  rcases s with s | s
  · exact s.up h
  · cases d <;> try exact s.elim
    · obtain ⟨a, xs, rfl, _, e, t⟩ := s
      exact .lst (.of e) (t.up h)
    · obtain ⟨a, xs, rfl, _, e, l, t⟩ := s
      exact .dic e l (t.up h)
theorem Sh.int {i : Int} (s : Sh K F H v (.int i)) : v = .int i := by
  rcases s with s | s
  · cases s; rfl
  · exact s.elim
theorem Sh.bl {i : Bool} (s : Sh K F H v (.bl i)) : v = .bl i := by
  rcases s with s | s
  · cases s; rfl
  · exact s.elim
theorem Sh.str {i : Str} (s : Sh K F H v (.str i)) : v = .str i := by
  rcases s with s | s
  · cases s; rfl
  · exact s.elim
theorem Sh.non (s : Sh K F H v .non) : v = .non := by
  rcases s with s | s
  · cases s; rfl
  · exact s.elim
theorem Sh.lst {ds : List D} (s : Sh K F H v (.lst ds)) (h : Le F H) : ∃ a xs, v = .ref a ∧ SqL K H a xs ∧ DqAll K F xs ds := by
  rcases s with s | s
  · cases s with
    | lst q t => exact ⟨_, _, rfl, h.sql q, t⟩
  · obtain ⟨a, xs, rfl, _, e, t⟩ := s
    exact ⟨a, xs, rfl, .of e, t⟩
theorem Sh.tup {ds : List D} (s : Sh K F H v (.tup ds)) (h : Le F H) : ∃ a xs, v = .ref a ∧ SqT K H a xs ∧ DqAll K F xs ds := by
  rcases s with s | s
  · cases s with
    | tup q t => exact ⟨_, _, rfl, h.sqt q, t⟩
  · exact s.elim
end
/-- what an operation makes: a new object, or frozen data -/
inductive New (K : PySem.W.Frag) (F H : Hp) : Bool → D → V → Hp → Prop
  | lst {p : Addr} {xs : List V} {ds : List D} (fr : Bool) : H p = none → DqAll K F xs ds → New K F H fr (.lst ds) (.ref p) (upd H p (.lst xs))
  | tup {p : Addr} {xs : List V} {ds : List D} : H p = none → DqAll K F xs ds → New K F H false (.tup ds) (.ref p) (upd H p (.tup xs))
  | old {v : V} {d : D} : Dq K F v d → New K F H false d v H
/-- an operation's reading -/
def Gives (K : PySem.W.Frag) (F H : Hp) (p : Bool × D) (Q : VK) : Prop := ∀ v H', New K F H p.1 p.2 v H' → Q v H'
def rOp2 (K : PySem.W.Frag) (f : D → D → Option (Bool × D)) : R2 := fun x y H Q => ∃ F d e p, Le F H ∧ Sh K F H x d ∧ Sh K F H y e ∧ f d e = some p ∧ Gives K F H p Q
def rOpN (K : PySem.W.Frag) (f : List D → Option (Bool × D)) : List V → Hp → VK → Prop := fun vs H Q => ∃ F ds p, Le F H ∧ Paired (Sh K F H) vs ds ∧ f ds = some p ∧ Gives K F H p Q

section
variable {X : Cx}
/-- list + list, any two lists -/
def rCatL (K : PySem.W.Frag) : R2 := fun x y H Q => ∃ l b xs zs, x = .ref l ∧ y = .ref b ∧ SqL K H l xs ∧ SqL K H b zs ∧ xs.length + zs.length ≤ sizeLine ∧ ∀ p, H p = none → Q (.ref p) (upd H p (.lst (xs ++ zs)))
theorem op_catL : OpR X (binaryOp .Add) (rCatL X.K) := by
  intro pins s σ H x y v u Q I rx ry h
  obtain ⟨l, b, xs, zs, rfl, rfl, hH, hB, hz, q⟩ := h
  cases rx
  cases ry
  obtain ⟨its, r, p1, z1⟩ := I.list hH
  obtain ⟨its2, r2, p2, z2⟩ := I.list hB
  obtain ⟨⟨cls, dd, data, sl⟩, n, ho, hc, _, hd⟩ := p1
  obtain ⟨⟨cls2, dd2, data2, sl2⟩, n2, ho2, hc2, _, hd2⟩ := p2
  simp only at hc hd hc2 hd2
  subst hc hd hc2 hd2
  have e : its.toArray ++ its2.toArray = (its ++ its2).toArray := by simp
  have hl := r.length
  have hl2 := r2.length
  refine concat_meets ⟨_, ho, rfl⟩ ⟨_, ho2, rfl⟩ noFill_list_add seq_list_add PySem.F.slot_list_add PySem.F.entry_list_add (PySem.F.args_list_add_2 _ _) (list_addW l b its.toArray its2.toArray n n2 dd dd2 sl sl2 (by rw [List.size_toArray, List.size_toArray]; omega)) ⟨ho, ho2, ?_⟩
  rw [e]
  exact ⟨.ref _, _, I.lnew (t' := s.toks) (r.append r2) (by rw [List.length_append]; omega), rfl, q _ I.fresh⟩
def rRepL (K : PySem.W.Frag) : R2 := fun x y H Q => ∃ l k xs, x = .ref l ∧ y = .int k ∧ SqL K H l xs ∧ -(2 ^ 63) ≤ k ∧ k < 2 ^ 63 ∧ xs.length * k.toNat ≤ sizeLine ∧
  ∀ p, H p = none → Q (.ref p) (upd H p (.lst (List.replicate k.toNat xs).flatten))
theorem op_repL : OpR X (binaryOp .Mult) (rRepL X.K) := by
  intro pins s σ H x y v u Q I rx ry h
  obtain ⟨l, k, xs, rfl, rfl, hH, h1, h2, hz, q⟩ := h
  cases rx
  obtain ⟨t, rfl⟩ := ry
  obtain ⟨its, r, p1, z1⟩ := I.list hH
  obtain ⟨⟨cls, dd, data, sl⟩, n, ho, hc, _, hd⟩ := p1
  simp only at hc hd
  subst hc hd
  have hl := r.length
  have hsz' : its.toArray.size * k.toNat ≤ 2 ^ 24 := by rw [List.size_toArray, ← hl]; exact hz
  have hnew : List.foldl (fun x1 x2 => x1 ++ x2) #[] (List.replicate (if its.toArray.isEmpty = true then 0 else k.toNat) its.toArray) = (List.replicate k.toNat its).flatten.toArray := by
    have f0 : ∀ m : Nat, List.foldl (fun x1 x2 => x1 ++ x2) #[] (List.replicate m its.toArray) = (List.replicate m its).flatten.toArray := fun m => by
      have := foldl_rep its m []
      rw [List.nil_append] at this
      exact this
    rw [f0]
    cases its with
    | nil => simp
    | cons a r' => rw [if_neg (by simp)]
  refine wpAny_binaryOp_repeat_ref (T := "list") (U := "int") (by decide) ⟨_, ho, rfl⟩ (fun s' => typeIs_int s' k t) noFill_list_mul F.fills_int_mul F.slot_int_rmul repeat_list F.slot_int_index.lookup
    (call_meets F.slot_int_rmul (typeIs_int s k t) F.entry_int_rmul (F.args_int_rmul_2 _ _) (lm_int_rmul_list_any k t l its.toArray n dd sl)
      ⟨ho, rfl, ⟨_, ho, rfl⟩, call_meets F.slot_list_mul ⟨_, ho, rfl⟩ F.entry_list_mul (F.args_list_mul_2 _ _)
        (lm_list_mul_any l its.toArray n dd sl k t (by simp [Builtin.List.listFitsIndex]; omega) (by omega) (by simp [Builtin.List.listTooLong, sizeLine]; omega))
        ⟨ho, ?_⟩⟩)
  rw [hnew]
  exact ⟨.ref _, _, I.lnew (t' := s.toks) (r.rep k.toNat) (by rw [PyProof.Rows.lm_len_rep_flat, Nat.mul_comm]; exact hz), rfl, q _ I.fresh⟩

theorem mulX_ok {i j : Int} (h : i.natAbs.log2 + j.natAbs.log2 < 130000000) : IntMulOk i j := by
  have b : ∀ x : Int, Builtin.Int.intBits x ≤ x.natAbs.log2 + 1 := fun x => by
    unfold Builtin.Int.intBits
    split <;> omega
  have h1 := b i
  have h2 := b j
  have e : bitsLine = 134217728 := by decide
  unfold IntMulOk
  intro z
  rw [Bool.and_eq_true] at z
  have z2 := z.2
  unfold Builtin.Int.intTooBig at z2
  have z3 := of_decide_eq_true z2
  rw [e] at z3
  omega
theorem op_mulX : OpR X (binaryOp .Mult) (rI (fun i j => i.natAbs.log2 + j.natAbs.log2 < 130000000) fun i j => .int (i * j)) := opI fun _ _ _ _ _ _ _ hc q => mul_int q (mulX_ok hc)
/-! tuple * int, any int -/
set_option maxHeartbeats 4000000 in
theorem tuple_mul0 (l : Addr) (items : Array Value) (n : Nat) (dd : Option Addr) (sl : Array (Option Value)) (x : Int) (u : Tok) (c0 : (decide (x < -(2 ^ 63)) || decide (x ≥ 2 ^ 63)) = false) (c1 : (items.isEmpty || x == 1) = false) (c2 : (decide (x ≤ 0) || items.isEmpty) = true) :
    Meets (Builtin.«tuple.__mul__» ⟨[.ref l, .int x u], []⟩) (fun _ R s => s.heap.get? l = some { cls := .type "tuple", dict := dd, data := .seq items n, slots := sl } ∧
      R (.ok (.ret (Value.ref s.heap.objs.size))) { s with heap := s.heap.push { cls := Value.type "tuple", data := Data.seq #[] }, toks := s.toks }) :=
  .of_wp fun prog w A R s h => by
    obtain ⟨hp, g, d, tk, os⟩ := s
    obtain ⟨hl, h⟩ := h
    have f1 := AutoSeq1.idx_int
    wp_walk using wpAny_loadPart' hl
    repeat (first
      | (refine wpAny_ite_false (decide_eq_false (by rw [c0]; exact Bool.false_ne_true)) ?_; wp_walk using wpAny_loadPart' hl)
      | (refine wpAny_ite_false (decide_eq_false (by rw [c1]; exact Bool.false_ne_true)) ?_; wp_walk using wpAny_loadPart' hl)
      | (refine wpAny_ite_true (decide_eq_true (by rw [c2])) ?_; wp_walk using wpAny_loadPart' hl))
    exact ⟨_, rfl, h⟩
set_option maxHeartbeats 4000000 in
theorem tuple_mulS (l : Addr) (items : Array Value) (n : Nat) (dd : Option Addr) (sl : Array (Option Value)) (x : Int) (u : Tok) (c0 : (decide (x < -(2 ^ 63)) || decide (x ≥ 2 ^ 63)) = false) (c1 : (items.isEmpty || x == 1) = true) :
    Meets (Builtin.«tuple.__mul__» ⟨[.ref l, .int x u], []⟩) (fun _ R s => s.heap.get? l = some { cls := .type "tuple", dict := dd, data := .seq items n, slots := sl } ∧
      R (.ok (.ret (Value.ref l))) s) :=
  .of_wp fun prog w A R s h => by
    obtain ⟨hp, g, d, tk, os⟩ := s
    obtain ⟨hl, h⟩ := h
    have f1 := AutoSeq1.idx_int
    wp_walk using wpAny_loadPart' hl
    repeat (first
      | (refine wpAny_ite_false (decide_eq_false (by rw [c0]; exact Bool.false_ne_true)) ?_; wp_walk using wpAny_loadPart' hl)
      | (refine wpAny_ite_true (decide_eq_true (by rw [c1])) ?_; wp_walk using wpAny_loadPart' hl))
    exact ⟨_, rfl, h⟩
def rRepTA (K : PySem.W.Frag) : R2 := fun x y H Q => ∃ l k xs, x = .ref l ∧ y = .int k ∧ SqT K H l xs ∧ -(2 ^ 63) ≤ k ∧ k ≤ 1000 ∧ xs.length ≤ 1000 ∧ ((xs = [] ∨ k = 1) → Q (.ref l) H) ∧
  (xs ≠ [] → k ≤ 0 → ∀ p, H p = none → Q (.ref p) (upd H p (.tup []))) ∧ (xs ≠ [] → 2 ≤ k → ∀ p, H p = none → Q (.ref p) (upd H p (.tup (List.replicate k.toNat xs).flatten)))
theorem op_repTA : OpR X (binaryOp .Mult) (rRepTA X.K) := by
  intro pins s σ H x y v u Q I rx ry h
  obtain ⟨l, k, xs, rfl, rfl, hT, h0, h2, hz, q1, q2, q3⟩ := h
  by_cases hbig : xs ≠ [] ∧ 2 ≤ k
  · exact op_repT pins s σ H _ _ v u Q I rx ry ⟨l, k, xs, rfl, rfl, hT, hbig.1, hbig.2, h2, hz, q3 hbig.1 hbig.2⟩
  cases rx
  obtain ⟨t, rfl⟩ := ry
  obtain ⟨its, r, ⟨⟨cls, dd, data, sl⟩, ho, hc, n, hd⟩, hs⟩ := I.tuple hT
  simp only at hc hd
  subst hc hd
  have hle : its.length = xs.length := r.length.symm
  have c0 : (decide (k < -(2 ^ 63)) || decide (k ≥ 2 ^ 63)) = false := by
    rw [decide_eq_false (by omega), decide_eq_false (by omega)] <;> rfl
  by_cases hsame : xs = [] ∨ k = 1
  · have c1 : (its.toArray.isEmpty || k == 1) = true := by
      rcases hsame with z | z
      · have : its = [] := List.eq_nil_of_length_eq_zero (by rw [hle, z]; rfl)
        rw [this]; rfl
      · rw [z]; simp
    refine wpAny_binaryOp_repeat_ref (T := "tuple") (U := "int") (by decide) ⟨_, ho, rfl⟩ (fun s' => typeIs_int s' k t) noFill_tuple_mul F.fills_int_mul F.slot_int_rmul repeat_tuple F.slot_int_index.lookup
      (call_meets F.slot_int_rmul (typeIs_int s k t) F.entry_int_rmul (F.args_int_rmul_2 _ _) (int_rmul_tuple k t l its.toArray n dd sl)
        ⟨ho, rfl, ⟨_, ho, rfl⟩, call_meets F.slot_tuple_mul ⟨_, ho, rfl⟩ F.entry_tuple_mul (F.args_tuple_mul_2 _ _) (tuple_mulS l its.toArray n dd sl k t c0 c1) ⟨ho, ?_⟩⟩)
    exact ⟨.ref l, H, I, rfl, q1 hsame⟩
  · have hne : xs ≠ [] := fun z => hsame (.inl z)
    have hn : its ≠ [] := fun e => hne (by
      rw [e] at hle
      exact List.eq_nil_of_length_eq_zero hle.symm)
    have hi : its.toArray.isEmpty = false := by
      cases its with
      | nil => exact absurd rfl hn
      | cons a b => rfl
    have hk0 : k ≤ 0 := by
      have : ¬ 2 ≤ k := fun z => hbig ⟨hne, z⟩
      have : k ≠ 1 := fun z => hsame (.inr z)
      omega
    have c1 : (its.toArray.isEmpty || k == 1) = false := by
      rw [hi, Bool.false_or]
      exact beq_eq_false_iff_ne.mpr (by omega)
    have c2 : (decide (k ≤ 0) || its.toArray.isEmpty) = true := by rw [decide_eq_true hk0]; rfl
    refine wpAny_binaryOp_repeat_ref (T := "tuple") (U := "int") (by decide) ⟨_, ho, rfl⟩ (fun s' => typeIs_int s' k t) noFill_tuple_mul F.fills_int_mul F.slot_int_rmul repeat_tuple F.slot_int_index.lookup
      (call_meets F.slot_int_rmul (typeIs_int s k t) F.entry_int_rmul (F.args_int_rmul_2 _ _) (int_rmul_tuple k t l its.toArray n dd sl)
        ⟨ho, rfl, ⟨_, ho, rfl⟩, call_meets F.slot_tuple_mul ⟨_, ho, rfl⟩ F.entry_tuple_mul (F.args_tuple_mul_2 _ _) (tuple_mul0 l its.toArray n dd sl k t c0 c1 c2) ⟨ho, ?_⟩⟩)
    refine ⟨.ref s.heap.objs.size, _, I.laid (t' := s.toks) (o := .tup []) (fun b ob q => Heap.get?_push_of_some _ q) (Nat.le_refl _) ?_, rfl, q2 hne hk0 _ (I.hok.fresh (Nat.le_refl _))⟩
    exact ⟨by rw [sizeLine_eq]; decide, [], .nil, IsTup.new _ _⟩
def BOp.op : BOp → Operator
  | .add => .Add | .sub => .Sub | .mul => .Mult | .div => .FloorDiv | .mod => .Mod | .pow => .Pow | .rep => .Mult

theorem Gives.old {K : PySem.W.Frag} {F H : Hp} {fr : Bool} {v : V} {d : D} {Q : VK} (g : Gives K F H (fr, d) Q) (e : fr = false) (x : Dq K F v d) : Q v H := by
  subst e; exact g _ _ (.old x)
theorem op_binD (op : BOp) : OpR X (binaryOp op.op) (rOp2 X.K (binD op)) := by
  intro pins s σ H x y v u Q I rx ry h
  obtain ⟨F, d, e, p, le, sx, sy, hf, g⟩ := h
  unfold binD at hf
  split at hf
  · cases hf; exact op_add pins s σ H x y v u Q I rx ry ⟨_, _, sx.int, sy.int, g.old rfl (.int _)⟩
  · split at hf
    · cases hf; rename_i hz; exact op_add_str pins s σ H x y v u Q I rx ry ⟨_, _, sx.str, sy.str, hz, g.old rfl (.str _)⟩
    · cases hf
  · split at hf
    · cases hf; rename_i hz
      obtain ⟨a, xs, rfl, q1, t1⟩ := sx.lst le
      obtain ⟨b, ys, rfl, q2, t2⟩ := sy.lst le
      exact op_catL pins s σ H _ _ v u Q I rx ry ⟨a, b, xs, ys, rfl, rfl, q1, q2, by rw [t1.length, t2.length]; exact hz, fun p hp => g _ _ (.lst true hp (t1.append t2))⟩
    · cases hf
  · split at hf
    · cases hf; rename_i hz
      obtain ⟨a, xs, rfl, q1, t1⟩ := sx.tup le
      obtain ⟨b, ys, rfl, q2, t2⟩ := sy.tup le
      refine op_catA pins s σ H _ _ v u Q I rx ry ⟨a, b, xs, ys, rfl, rfl, q1, q2, by rw [t1.length, t2.length]; exact hz, fun e => ?_, fun _ e => ?_, fun _ _ p hp => g _ _ (.tup hp (t1.append t2))⟩
      · subst e; cases t1
        rcases sy with sy | sy
        · exact g.old rfl sy
        · exact sy.elim
      · subst e; cases t2
        rw [List.append_nil] at g
        rcases sx with sx | sx
        · exact g.old rfl sx
        · exact sx.elim
    · cases hf
  · cases hf; exact op_sub pins s σ H x y v u Q I rx ry ⟨_, _, sx.int, sy.int, g.old rfl (.int _)⟩
  · split at hf
    · cases hf; rename_i i j hz
      have hz' : i.natAbs.log2 + j.natAbs.log2 < 130000000 := of_decide_eq_true (show decide _ = true from hz)
      exact op_mulX pins s σ H x y v u Q I rx ry ⟨_, _, sx.int, sy.int, hz', g.old rfl (.int _)⟩
    · cases hf
  · split at hf
    · cases hf; rename_i hz
      obtain ⟨a, xs, rfl, q1, t1⟩ := sx.lst le
      exact op_repL pins s σ H _ y v u Q I rx ry ⟨a, _, xs, rfl, sy.int, q1, hz.1, hz.2.1, by rw [t1.length]; exact hz.2.2, fun p hp => g _ _ (.lst true hp (t1.rep _))⟩
    · cases hf
  · split at hf
    · cases hf; rename_i hz
      obtain ⟨a, xs, rfl, q1, t1⟩ := sx.tup le
      have e1 : ∀ {α : Type} (l : List α) (m : Nat), (l = [] ∨ m = 0) → (List.replicate m l).flatten = [] := fun l m z => by
        rcases z with z | z
        · subst z; simp
        · subst z; rfl
      refine op_repTA pins s σ H _ y v u Q I rx ry ⟨a, _, xs, rfl, sy.int, q1, hz.1, hz.2.1, by rw [t1.length]; exact hz.2.2, fun z => ?_, fun _ z p hp => ?_, fun _ _ p hp => g _ _ (.tup hp (t1.rep _))⟩
      · rcases sx with sx | sx
        · rcases z with z | z
          · subst z
            cases t1
            rw [e1 _ _ (.inl rfl)] at g
            exact g.old rfl sx
          · subst z
            have e2 : ∀ {α : Type} (l : List α), (List.replicate (Int.toNat 1) l).flatten = l := fun l => by simp [List.replicate]
            rw [e2] at g
            exact g.old rfl sx
        · exact sx.elim
      · have g' := g
        rw [e1 _ _ (.inr (by omega))] at g'
        exact g' _ _ (.tup hp .nil)
    · cases hf
  · split at hf
    · cases hf; rename_i hz
      unfold divOk at hz
      rw [Bool.and_eq_true] at hz
      exact op_fdivW pins s σ H x y v u Q I rx ry ⟨_, _, sx.int, sy.int, ⟨of_decide_eq_true hz.1, of_decide_eq_true hz.2⟩, g.old rfl (.int _)⟩
    · cases hf
  · split at hf
    · cases hf; rename_i hz; exact op_mod pins s σ H x y v u Q I rx ry ⟨_, _, sx.int, sy.int, hz, g.old rfl (.int _)⟩
    · cases hf
  · split at hf
    · cases hf; rename_i hz; exact op_pow pins s σ H x y v u Q I rx ry ⟨_, _, sx.int, sy.int, hz, g.old rfl (.int _)⟩
    · cases hf
  · cases hf
end
end T

set_option Elab.async false
set_option linter.all false
set_option maxRecDepth 100000
set_option maxHeartbeats 1000000
/-! Comparisons, subscripts, slices, built-ins. -/
namespace T
open PySem PySem.Spec PyProof.Rows L2

section
variable {X : Cx}
def COp.op : COp → CmpOp
  | .eq => .Eq | .ne => .NotEq | .lt => .Lt | .le => .LtE | .gt => .Gt | .ge => .GtE | .isin => .In | .notin => .NotIn | .isN => .Is | .notN => .IsNot
def rCmp (K : PySem.W.Frag) (op : COp) : R2 := fun x y H Q => ∃ F d e b, Le F H ∧ Sh K F H x d ∧ Sh K F H y e ∧ cmpD op d e = some b ∧ Q (.bl b) H

theorem eqD_some {d e : D} {b : Bool} (h : eqD d e = some b) : d.noDic = true ∧ e.noDic = true ∧ SeqAt.shaped d.toPy = true ∧ SeqAt.shaped e.toPy = true ∧ PyData.eqv d.toPy e.toPy = b := by
  unfold eqD at h
  split at h
  · rename_i z
    simp only [Bool.and_eq_true] at z
    exact ⟨z.1.1.1, z.1.1.2, z.1.2, z.2, Option.some.inj h⟩
  · cases h
theorem inD_some {d : D} {xs : List D} {b : Bool} (h : inD d xs = some b) : d.flat = true ∧ xs.all D.flat = true ∧ inV d.toV (xs.map D.toV) = b := by
  unfold inD at h
  split at h
  · rename_i z
    simp only [Bool.and_eq_true] at z
    exact ⟨z.1, z.2, Option.some.inj h⟩
  · cases h
theorem Sh.flat {K : PySem.W.Frag} {F H : Hp} {v : V} {d : D} (s : Sh K F H v d) (f : d.flat = true) : v = d.toV ∧ flatV v = true := by
  rcases s with s | s
  · exact s.flat f
  · cases d <;> first | exact (Bool.false_ne_true f).elim | exact False.elim s
theorem Sh.isNon {K : PySem.W.Frag} {F H : Hp} {v : V} {d : D} (s : Sh K F H v d) : decide (v = .non) = T.isNon d := by
  rcases s with s | s
  · cases s <;> rfl
  · cases d <;> first | exact s.elim | (obtain ⟨a, xs, rfl, _⟩ := s; rfl)
theorem op_cmpD (hu : X.A.units + 64 < cLine) (op : COp) : OpR X (compareOp op.op) (rCmp X.K op) := by
  intro pins s σ H x y v u Q I rx ry h
  obtain ⟨F, d, e, b, le, sx, sy, hf, q⟩ := h
  unfold cmpD at hf
  split at hf
  · obtain ⟨n1, n2, h1, h2, rfl⟩ := eqD_some hf
    exact op_eqD hu pins s σ H x y v u Q I rx ry ⟨_, _, Dq.py _ _ (sx.up le) n1, Dq.py _ _ (sy.up le) n2, h1, h2, q⟩
  · cases hq : eqD d e with
    | none => rw [hq] at hf; cases hf
    | some k =>
      rw [hq] at hf; cases hf
      obtain ⟨n1, n2, h1, h2, rfl⟩ := eqD_some hq
      exact op_neD hu pins s σ H x y v u Q I rx ry ⟨_, _, Dq.py _ _ (sx.up le) n1, Dq.py _ _ (sy.up le) n2, h1, h2, q⟩
  · cases hf; exact op_lt pins s σ H x y v u Q I rx ry ⟨_, _, sx.int, sy.int, q⟩
  · cases hf; exact op_le pins s σ H x y v u Q I rx ry ⟨_, _, sx.int, sy.int, q⟩
  · cases hf; exact op_gt pins s σ H x y v u Q I rx ry ⟨_, _, sx.int, sy.int, q⟩
  · cases hf; exact op_ge pins s σ H x y v u Q I rx ry ⟨_, _, sx.int, sy.int, q⟩
  · obtain ⟨f1, f2, rfl⟩ := inD_some hf
    obtain ⟨a, ys, rfl, q2, t2⟩ := sy.lst le
    obtain ⟨e1, g1⟩ := sx.flat f1
    obtain ⟨e2, g2⟩ := t2.flat f2
    subst e1 e2
    exact op_in_seq pins s σ H _ _ v u Q I rx ry ⟨a, _, rfl, .inl q2, g1, g2, q⟩
  · obtain ⟨f1, f2, rfl⟩ := inD_some hf
    obtain ⟨a, ys, rfl, q2, t2⟩ := sy.tup le
    obtain ⟨e1, g1⟩ := sx.flat f1
    obtain ⟨e2, g2⟩ := t2.flat f2
    subst e1 e2
    exact op_in_seq pins s σ H _ _ v u Q I rx ry ⟨a, _, rfl, .inr q2, g1, g2, q⟩
  · rename_i xs
    cases hq : inD d xs with
    | none => rw [hq] at hf; cases hf
    | some k =>
      rw [hq] at hf; cases hf
      obtain ⟨f1, f2, rfl⟩ := inD_some hq
      obtain ⟨a, ys, rfl, q2, t2⟩ := sy.lst le
      obtain ⟨e1, g1⟩ := sx.flat f1
      obtain ⟨e2, g2⟩ := t2.flat f2
      subst e1 e2
      exact op_notIn_seq pins s σ H _ _ v u Q I rx ry ⟨a, _, rfl, .inl q2, g1, g2, q⟩
  · rename_i xs
    cases hq : inD d xs with
    | none => rw [hq] at hf; cases hf
    | some k =>
      rw [hq] at hf; cases hf
      obtain ⟨f1, f2, rfl⟩ := inD_some hq
      obtain ⟨a, ys, rfl, q2, t2⟩ := sy.tup le
      obtain ⟨e1, g1⟩ := sx.flat f1
      obtain ⟨e2, g2⟩ := t2.flat f2
      subst e1 e2
      exact op_notIn_seq pins s σ H _ _ v u Q I rx ry ⟨a, _, rfl, .inr q2, g1, g2, q⟩
  · cases hf; exact op_isN pins s σ H x y v u Q I rx ry ⟨sy.non, by rw [sx.isNon]; exact q⟩
  · cases hf; exact op_notN pins s σ H x y v u Q I rx ry ⟨sy.non, by rw [sx.isNon]; exact q⟩
  · cases hf

/-! ### subscripts -/
theorem DqAll.atI {K : PySem.W.Frag} {F : Hp} {vs : List V} {ds : List D} {i : Int} {d : D} (t : DqAll K F vs ds) (h : L2.atI ds i = some d) : ∃ v, L2.atI vs i = some v ∧ Dq K F v d := by
  unfold L2.atI at h ⊢
  rw [t.length]
  cases e : ixN ds.length i with
  | none => rw [e] at h; cases h
  | some j =>
    rw [e] at h
    obtain ⟨v, h1, h2⟩ := t.get (show ds[j]? = some d from h)
    exact ⟨v, h1, h2⟩
theorem ix_D : IxR X (rOp2 X.K fun d e => (ixD d e).map fun z => (false, z)) := by
  intro value slice pins s σ H x y v u Q I rx ry h hs
  obtain ⟨F, d, e, p, le, sx, sy, hf, g⟩ := h
  unfold ixD at hf
  simp only at hf
  split at hf
  · rename_i xs i
    cases hq : L2.atI xs i with
    | none => rw [hq] at hf; cases hf
    | some z =>
      rw [hq] at hf; cases hf
      obtain ⟨a, ys, rfl, q, t⟩ := sx.lst le
      obtain ⟨w, h1, h2⟩ := t.atI hq
      exact ix_list value slice pins s σ H _ y v u Q I rx ry ⟨a, ys, _, w, rfl, sy.int, q, h1, g.old rfl h2⟩ hs
  · rename_i xs i
    cases hq : L2.atI xs i with
    | none => rw [hq] at hf; cases hf
    | some z =>
      rw [hq] at hf; cases hf
      obtain ⟨a, ys, rfl, q, t⟩ := sx.tup le
      obtain ⟨w, h1, h2⟩ := t.atI hq
      exact ix_tup value slice pins s σ H _ y v u Q I rx ry ⟨a, ys, _, w, rfl, sy.int, q, h1, g.old rfl h2⟩ hs
  · cases hf
def rSlD (K : PySem.W.Frag) : V → Option Int → Option Int → Hp → VK → Prop := fun x lo hi H Q => ∃ F d p, Le F H ∧ Sh K F H x d ∧ slD d lo hi = some p ∧ Gives K F H p Q
theorem cutD_all {α : Type} {xs : List α} {lo hi : Option Int} (h : HT.sIx xs.length 0 lo = 0 ∧ HT.sIx xs.length xs.length hi = xs.length) : cutD xs lo hi = xs := by
  unfold cutD
  rw [h.1, h.2]
  simp
theorem sl_D : SlR X (rSlD X.K) := by
  intro pins s σ H x v vl vu lo hi sl Q I rx hs pl pu h
  obtain ⟨F, d, p, le, sx, hf, g⟩ := h
  unfold slD at hf
  split at hf
  · cases hf
    obtain ⟨a, ys, rfl, q, t⟩ := sx.lst le
    exact sl_list pins s σ H _ v vl vu lo hi sl Q I rx hs pl pu ⟨a, ys, rfl, q, fun p hp => g _ _ (.lst true hp (t.cut lo hi))⟩
  · cases hf
    obtain ⟨a, ys, rfl, q, t⟩ := sx.tup le
    refine sl_tupA pins s σ H _ v vl vu lo hi sl Q I rx hs pl pu ⟨a, ys, rfl, q, fun hw => ?_, fun _ p hp => g _ _ (.tup hp (t.cut lo hi))⟩
    rw [t.length] at hw
    rw [cutD_all hw] at g
    rcases sx with sx | sx
    · exact g.old rfl sx
    · exact sx.elim
  · cases hf

/-! ### built-ins -/
theorem minI_le : ∀ (ns : List Int) (n : Int), (minI n ns ∈ n :: ns) ∧ ∀ y ∈ n :: ns, minI n ns ≤ y
  | [], n => ⟨by simp [minI], fun y h => by simp at h; subst h; simp [minI]⟩
  | m :: ns, n => by
    obtain ⟨h1, h2⟩ := minI_le ns (min n m)
    show minI (min n m) ns ∈ _ ∧ ∀ y ∈ _, minI (min n m) ns ≤ y
    refine ⟨?_, fun y hy => ?_⟩
    · rcases List.mem_cons.mp h1 with e | e
      · rw [e]; rcases Int.le_total n m with c | c
        · rw [Int.min_eq_left c]; simp
        · rw [Int.min_eq_right c]; simp
      · simp [e]
    · have h0 := h2 (min n m) (by simp)
      rcases List.mem_cons.mp hy with e | e
      · subst e; omega
      · rcases List.mem_cons.mp e with e | e
        · subst e; omega
        · exact h2 y (by simp [e])
theorem maxI_le : ∀ (ns : List Int) (n : Int), (maxI n ns ∈ n :: ns) ∧ ∀ y ∈ n :: ns, y ≤ maxI n ns
  | [], n => ⟨by simp [maxI], fun y h => by simp at h; subst h; simp [maxI]⟩
  | m :: ns, n => by
    obtain ⟨h1, h2⟩ := maxI_le ns (max n m)
    show maxI (max n m) ns ∈ _ ∧ ∀ y ∈ _, y ≤ maxI (max n m) ns
    refine ⟨?_, fun y hy => ?_⟩
    · rcases List.mem_cons.mp h1 with e | e
      · rw [e]; rcases Int.le_total n m with c | c
        · rw [Int.max_eq_right c]; simp
        · rw [Int.max_eq_left c]; simp
      · simp [e]
    · have h0 := h2 (max n m) (by simp)
      rcases List.mem_cons.mp hy with e | e
      · subst e; omega
      · rcases List.mem_cons.mp e with e | e
        · subst e; omega
        · exact h2 y (by simp [e])
def BI.val : BI → Value
  | .len => .builtin "len" | .sum => .builtin "sum" | .min => .builtin "min" | .max => .builtin "max" | .min2 => .builtin "min" | .max2 => .builtin "max"
  | .all => .builtin "all" | .any => .builtin "any" | .abs => .builtin "abs" | .int => .type "int" | .list => .type "list" | .tuple => .type "tuple" | .repr => .builtin "repr"
def BI.nm : BI → Str
  | .len => "len" | .sum => "sum" | .min => "min" | .max => "max" | .min2 => "min" | .max2 => "max"
  | .all => "all" | .any => "any" | .abs => "abs" | .int => "int" | .list => "list" | .tuple => "tuple" | .repr => "repr"
theorem pair1 {α β : Type} {R : α → β → Prop} {vs : List α} {b : β} (h : Paired R vs [b]) : ∃ a, vs = [a] ∧ R a b := by
  cases h with
  | cons r t => cases t; exact ⟨_, rfl, r⟩
theorem pair2 {α β : Type} {R : α → β → Prop} {vs : List α} {b c : β} (h : Paired R vs [b, c]) : ∃ a a', vs = [a, a'] ∧ R a b ∧ R a' c := by
  cases h with
  | cons r t => obtain ⟨a', rfl, r'⟩ := pair1 t; exact ⟨_, _, rfl, r, r'⟩
mutual
theorem noDic_dict : ∀ d : D, d.noDic = true → d.toPy.hasDict = false
  | .non, _ => by simp only [D.toPy, PyData.hasDict]
  | .bl _, _ => by simp only [D.toPy, PyData.hasDict]
  | .int _, _ => by simp only [D.toPy, PyData.hasDict]
  | .str _, _ => by simp only [D.toPy, PyData.hasDict]
  | .lst ds, n => by simp only [D.toPy, PyData.hasDict]; exact noDics_dict ds n
  | .tup ds, n => by simp only [D.toPy, PyData.hasDict]; exact noDics_dict ds n
  | .dic _ _, n => by cases n
theorem noDics_dict : ∀ ds : List D, D.noDics ds = true → PyData.hasDictAll (D.toPys ds) = false
  | [], _ => by simp only [D.toPys, PyData.hasDictAll]
  | d :: ds, n => by
    have n' : (d.noDic && D.noDics ds) = true := n
    rw [Bool.and_eq_true] at n'
    simp only [D.toPys, PyData.hasDictAll, noDic_dict d n'.1, noDics_dict ds n'.2]
    rfl
end
theorem call_reprD (hg : X.A.guards = some []) (hu : X.A.units + 64 < cLine) : CallR X (.builtin "repr") (rOpN X.K fun ds => match ds with | [d] => if reprOk d then some (false, .str d.toPy.shown) else none | _ => none) := by
  intro pins s σ H vs us Q I r h
  obtain ⟨F, ds, p, le, pr, hf, g⟩ := h
  simp only at hf
  split at hf
  · rename_i d
    split at hf
    · rename_i ok
      cases hf
      unfold reprOk at ok
      simp only [Bool.and_eq_true, decide_eq_true_eq] at ok
      obtain ⟨⟨⟨⟨h0, h1⟩, h2⟩, h3⟩, h4⟩ := ok
      obtain ⟨v, rfl, sx⟩ := pair1 pr
      obtain ⟨u, rfl, ru⟩ := vals1 r
      have q := sx.up le
      obtain ⟨as, rd⟩ := Dp.reads I _ _ u (Dq.py _ _ q h1) ru
      have hr : ∃ a, u = .ref a := by
        cases q <;> first | exact ⟨_, ru⟩ | cases h0
      obtain ⟨a, rfl⟩ := hr
      exact repr_of_reads' rd h2 (PyData.noDict_hsm (noDic_dict _ h1)) hg (by omega) (fun _ _ e => e) (fun h' u tk hk => ⟨.str _, H, I.kept hk, ⟨u, rfl⟩, g.old rfl (.str _)⟩) h4
    · cases hf
  · cases hf
theorem call_biD (hc : X.calm = true) (hg : X.A.guards = some []) (hu : X.A.units + 64 < cLine) (b : BI) : CallR X b.val (rOpN X.K (biD b)) := by
  intro pins s σ H vs us Q I r h
  obtain ⟨F, ds, p, le, pr, hf, g⟩ := h
  unfold biD at hf
  split at hf
  · cases hf
    obtain ⟨v, rfl, sx⟩ := pair1 pr
    obtain ⟨a, ys, rfl, q, t⟩ := sx.lst le
    refine call_len_seq pins s σ H _ us Q I r ⟨a, ys, rfl, .inl q, ?_⟩
    rw [t.length]; exact g.old rfl (.int _)
  · cases hf
    obtain ⟨v, rfl, sx⟩ := pair1 pr
    obtain ⟨a, ys, rfl, q, t⟩ := sx.tup le
    refine call_len_seq pins s σ H _ us Q I r ⟨a, ys, rfl, .inr q, ?_⟩
    rw [t.length]; exact g.old rfl (.int _)
  · split at hf
    · cases hf; rename_i hz
      obtain ⟨v, rfl, sx⟩ := pair1 pr
      exact call_len_str pins s σ H _ us Q I r ⟨_, by rw [sx.str], hz, g.old rfl (.int _)⟩
    · cases hf
  · rename_i xs
    cases hq : toInts xs with
    | none => rw [hq] at hf; cases hf
    | some ns =>
      rw [hq] at hf; cases hf
      obtain ⟨v, rfl, sx⟩ := pair1 pr
      obtain ⟨a, ys, rfl, q, t⟩ := sx.lst le
      have e := t.ints hq
      subst e
      exact cr_sum hc pins s σ H _ us Q I r ⟨a, _, rfl, q, g.old rfl (.int _)⟩
  · rename_i xs
    split at hf
    · cases hf; rename_i n ns hq
      obtain ⟨v, rfl, sx⟩ := pair1 pr
      obtain ⟨a, ys, rfl, q, t⟩ := sx.lst le
      have e := t.ints hq
      subst e
      refine cr_min hc pins s σ H _ us Q I r ⟨a, _, rfl, q, by simp, fun m hm hle => ?_⟩
      obtain ⟨h1, h2⟩ := minI_le ns n
      have e : m = minI n ns := Int.le_antisymm (hle _ h1) (h2 m hm)
      rw [e]; exact g.old rfl (.int _)
    · cases hf
  · rename_i xs
    split at hf
    · cases hf; rename_i n ns hq
      obtain ⟨v, rfl, sx⟩ := pair1 pr
      obtain ⟨a, ys, rfl, q, t⟩ := sx.lst le
      have e := t.ints hq
      subst e
      refine cr_max hc pins s σ H _ us Q I r ⟨a, _, rfl, q, by simp, fun m hm hle => ?_⟩
      obtain ⟨h1, h2⟩ := maxI_le ns n
      have e : m = maxI n ns := Int.le_antisymm (h2 m hm) (hle _ h1)
      rw [e]; exact g.old rfl (.int _)
    · cases hf
  · cases hf
    obtain ⟨v, w, rfl, sx, sy⟩ := pair2 pr
    exact call_min2 hc pins s σ H _ us Q I r ⟨_, _, by rw [sx.int, sy.int], g.old rfl (.int _)⟩
  · cases hf
    obtain ⟨v, w, rfl, sx, sy⟩ := pair2 pr
    exact call_max2 hc pins s σ H _ us Q I r ⟨_, _, by rw [sx.int, sy.int], g.old rfl (.int _)⟩
  · rename_i xs
    cases hq : toBls xs with
    | none => rw [hq] at hf; cases hf
    | some ns =>
      rw [hq] at hf; cases hf
      obtain ⟨v, rfl, sx⟩ := pair1 pr
      obtain ⟨a, ys, rfl, q, t⟩ := sx.lst le
      have e := t.bls hq
      subst e
      exact cr_all hc pins s σ H _ us Q I r ⟨a, _, rfl, q, g.old rfl (.bl _)⟩
  · rename_i xs
    cases hq : toBls xs with
    | none => rw [hq] at hf; cases hf
    | some ns =>
      rw [hq] at hf; cases hf
      obtain ⟨v, rfl, sx⟩ := pair1 pr
      obtain ⟨a, ys, rfl, q, t⟩ := sx.lst le
      have e := t.bls hq
      subst e
      exact cr_any hc pins s σ H _ us Q I r ⟨a, _, rfl, q, g.old rfl (.bl _)⟩
  · cases hf
    obtain ⟨v, rfl, sx⟩ := pair1 pr
    exact call_abs pins s σ H _ us Q I r ⟨_, by rw [sx.int], g.old rfl (.int _)⟩
  · cases hf
    obtain ⟨v, rfl, sx⟩ := pair1 pr
    exact call_int1 pins s σ H _ us Q I r (.inl ⟨_, by rw [sx.int], g.old rfl (.int _)⟩)
  · cases hf
    obtain ⟨v, rfl, sx⟩ := pair1 pr
    exact call_int1 pins s σ H _ us Q I r (.inr ⟨_, by rw [sx.bl], g.old rfl (.int _)⟩)
  · cases hf
    obtain ⟨v, rfl, sx⟩ := pair1 pr
    obtain ⟨a, ys, rfl, q, t⟩ := sx.lst le
    exact call_list_of pins s σ H _ us Q I r ⟨a, ys, rfl, .inl q, fun l hl => g _ _ (.lst true hl t)⟩
  · cases hf
    obtain ⟨v, rfl, sx⟩ := pair1 pr
    obtain ⟨a, ys, rfl, q, t⟩ := sx.tup le
    exact call_list_of pins s σ H _ us Q I r ⟨a, ys, rfl, .inr q, fun l hl => g _ _ (.lst true hl t)⟩
  · cases hf
    obtain ⟨v, rfl, sx⟩ := pair1 pr
    obtain ⟨a, ys, rfl, q, t⟩ := sx.lst le
    exact call_tuple_of pins s σ H _ us Q I r ⟨a, ys, rfl, .inl ⟨q, fun l hl => g _ _ (.tup hl t)⟩⟩
  · cases hf
    obtain ⟨v, rfl, sx⟩ := pair1 pr
    obtain ⟨a, ys, rfl, q, t⟩ := id (sx.tup le)
    refine call_tuple_of pins s σ H _ us Q I r ⟨a, ys, rfl, .inr ⟨q, ?_⟩⟩
    rcases sx with sx | sx
    · exact g.old rfl sx
    · exact sx.elim
  · exact call_reprD hg hu pins s σ H _ us Q I r ⟨F, _, p, le, pr, hf, g⟩
  · cases hf

/-! ### methods that read -/
def MI.id : MI → String
  | .index => "list.index"
theorem placeV_some {y : V} : ∀ {zs : List V} {j : Nat}, placeV y zs = some j → ∃ z, zs[j]? = some z ∧ eqV z y = true ∧ ∀ (m : Nat) (z' : V), m < j → zs[m]? = some z' → eqV z' y = false
  | [], _, h => by cases h
  | z :: zs, j, h => by
    unfold placeV at h
    split at h
    · cases h; rename_i e
      exact ⟨z, rfl, e, fun m _ hm => absurd hm (Nat.not_lt_zero _)⟩
    · rename_i e
      cases hq : placeV y zs with
      | none => rw [hq] at h; cases h
      | some k =>
        rw [hq] at h; cases h
        obtain ⟨w, h1, h2, h3⟩ := placeV_some hq
        refine ⟨w, by simpa using h1, h2, fun m z' hm hz => ?_⟩
        cases m with
        | zero => cases hz; exact Bool.eq_false_iff.mpr e
        | succ m =>
          have hm' : m + 1 < k + 1 := hm
          exact h3 m z' (by omega) (by simpa using hz)
def rMth (K : PySem.W.Frag) (m : MI) : V → List V → Hp → VK → Prop := fun x vs H Q => ∃ F d ds p, Le F H ∧ Sh K F H x d ∧ Paired (Sh K F H) vs ds ∧ mthD m d ds = some p ∧ Gives K F H p Q
theorem mt_D (m : MI) : MtR X m.id (rMth X.K m) := by
  intro pins s σ H x xs v us Q I rx r h
  obtain ⟨F, d, ds, p, le, sx, pr, hf, g⟩ := h
  unfold mthD at hf
  split at hf
  · rename_i ys y
    split at hf
    · rename_i hz
      rw [Bool.and_eq_true] at hz
      cases hq : placeV y.toV (ys.map D.toV) with
      | none => rw [hq] at hf; cases hf
      | some j =>
        rw [hq] at hf; cases hf
        obtain ⟨w, rfl, sw⟩ := pair1 pr
        obtain ⟨a, zs, rfl, q, t⟩ := sx.lst le
        obtain ⟨e1, g1⟩ := sw.flat hz.1
        obtain ⟨e2, g2⟩ := t.flat hz.2
        subst e1 e2
        obtain ⟨z, h1, h2, h3⟩ := placeV_some hq
        exact mt_index pins s σ H _ _ v us Q I rx r ⟨a, _, _, j, z, rfl, rfl, q, g1, g2, h1, h2, h3, g.old rfl (.int _)⟩
    · cases hf
  · cases hf
theorem mth_ty {K : PySem.W.Frag} {F H : Hp} {m : MI} {v : V} {d : D} {ds : List D} {p : Bool × D} (le : Le F H) (s : Sh K F H v d) (h : mthD m d ds = some p) : tyV K "list" v H := by
  unfold mthD at h
  split at h
  · obtain ⟨a, zs, rfl, q, t⟩ := s.lst le
    exact .inl ⟨rfl, _, q⟩
  · cases h

/-! ### isinstance -/
def DT.nm : DT → String
  | .non => "NoneType" | .bl => "bool" | .int => "int" | .str => "str" | .lst => "list" | .tup => "tuple" | .dic => "dict"
abbrev tyN (d : D) : String := d.dt.nm
def Ty.nm : Ty → String
  | .int => "int" | .bool => "bool" | .str => "str" | .list => "list" | .tuple => "tuple" | .dict => "dict"
theorem kit_D (K : PySem.W.Frag) (d : D) (t : Ty) : PySem.W.kitOne K (.type (tyN d)) (.type t.nm) = some (isTyD d t) := by
  refine kit_ty ?_
  have h : ∀ (a : DT) (t : Ty), kitB a.nm t.nm = some (isT a t) := by
    intro a t
    cases a <;> cases t <;> decide +kernel
  exact h d.dt t
theorem kitAny_D (K : PySem.W.Frag) (d : D) : ∀ ts : List Ty, PySem.W.kitAny K (.type (tyN d)) (ts.map fun t => .type t.nm) = some (ts.any (isTyD d))
  | [] => kitAny_nil
  | t :: ts => by
    refine kitAny_cons (kit_D K d t) (fun e => ?_) fun e => ?_
    · rw [kitAny_D K d ts, List.any_cons, e, Bool.false_or]
    · rw [List.any_cons, e, Bool.true_or]
theorem Sh.ty {K : PySem.W.Frag} {F H : Hp} {v : V} {d : D} (le : Le F H) (s : Sh K F H v d) : TyX K H v (.type (tyN d)) := by
  cases d with
  | non => rw [s.non]; exact .base .non
  | bl b => rw [s.bl]; exact .base (.bl b)
  | int i => rw [s.int]; exact .base (.int i)
  | str i => rw [s.str]; exact .base (.str i)
  | lst ds =>
    obtain ⟨a, xs, rfl, q, t⟩ := s.lst le
    rcases q with (q | ⟨o, q⟩) | ⟨o, its, n, hk, hc, _⟩
    · exact .base (.lst q)
    · exact .base (.frz q)
    · exact .kList hk hc
  | tup ds =>
    obtain ⟨a, xs, rfl, q, t⟩ := s.tup le
    rcases q with (q | ⟨o, q⟩) | ⟨o, its, n, hk, hc, _⟩
    · exact .base (.tup q)
    · exact .fTuple q
    · exact .kTuple hk hc
  | dic ks ds =>
    rcases s with s | s
    · cases s with
      | dic e _ _ => exact .base (.dK (le _ _ e))
    · obtain ⟨a, xs, rfl, _, e, _⟩ := s
      exact .base (.dK e)
end
end T

set_option Elab.async false
set_option linter.all false
set_option maxRecDepth 100000
set_option maxHeartbeats 1000000
/-! Slots and heap together. -/
namespace T
open PySem PySem.Spec PyProof.Rows L2

structure Par where
  K : PySem.W.Frag
  F0 : Hp
  H0 : Hp
  io : Option Addr
def COk (P : Par) (F H : Hp) (v : V) (x : Cell) : Prop := match x.st with
  | .fz => Dq P.K F v x.d
  | .own => OwnOk P.K F H v x.d ∧ ∀ a, v = .ref a → P.H0 a = none
  | .lo => OwnOk P.K F H v x.d ∧ ∀ a, v = .ref a → P.H0 a = none
  | .bor => OwnOk P.K F H v x.d ∧ ∀ a, v = .ref a → P.io = some a
  | .lb => OwnOk P.K F H v x.d ∧ ∀ a, v = .ref a → P.io = some a
/-- the slots c over the values σ, the frozen part F of the heap H -/
structure Mt (P : Par) (F : Hp) (c : Env) (σ : L2.St) (H : Hp) : Prop where
  len : c.length = σ.length
  le : Le F H
  old : Le P.F0 F
  gr : ∀ a o, F a = some o → P.F0 a = some o ∨ P.H0 a = none
  fr : ∀ a o, P.H0 a = some o → P.io ≠ some a → H a = some o
  ioT : ∀ a, P.io = some a → F a = none ∧ H a ≠ none
  ioH : ∀ a, P.io = some a → P.H0 a ≠ none
  cell : ∀ i x, c.cell i = some x → ∃ v, σ[i]? = some (some v) ∧ COk P F H v x
  apart : ∀ i j x y v, c.cell i = some x → c.cell j = some y → x.st.mut = true → y.st.mut = true → σ[i]? = some (some v) → σ[j]? = some (some v) → i = j

theorem cell_lt {c : Env} {i : Nat} {x : Cell} (h : c.cell i = some x) : i < c.length := by
  unfold Env.cell at h
  by_cases hi : i < c.length
  · exact hi
  · rw [List.getElem?_eq_none (by omega)] at h; cases h
theorem cell_left {c T : Env} {i : Nat} (h : i < c.length) : Env.cell (c ++ T) i = c.cell i := by
  unfold Env.cell
  rw [List.getElem?_append_left h]
theorem cell_left' {c T : Env} {i : Nat} {x : Cell} (h : c.cell i = some x) : Env.cell (c ++ T) i = some x := (cell_left (cell_lt h)).trans h
theorem cell_right {c T : Env} {i : Nat} : Env.cell (c ++ T) (c.length + i) = Env.cell T i := by
  unfold Env.cell
  rw [List.getElem?_append_right (by omega), Nat.add_sub_cancel_left]
theorem cell_set_self {c : Env} {i : Nat} {x : Option Cell} (h : i < c.length) : Env.cell (c.set i x) i = x := by
  unfold Env.cell
  rw [List.getElem?_set_self h]; rfl
theorem cell_set_ne {c : Env} {i j : Nat} {x : Option Cell} (h : j ≠ i) : Env.cell (c.set i x) j = c.cell j := by
  unfold Env.cell
  rw [List.getElem?_set_ne (Ne.symm h)]

theorem OwnOk.ref {K : PySem.W.Frag} {F H : Hp} {v : V} {d : D} (h : OwnOk K F H v d) : ∃ a o, v = .ref a ∧ F a = none ∧ H a = some o := by
  cases d <;> first | exact False.elim h | (obtain ⟨a, xs, rfl, h1, h2, _⟩ := h; exact ⟨a, _, rfl, h1, h2⟩)
theorem COk.own {P : Par} {F H : Hp} {v : V} {x : Cell} (h : COk P F H v x) (m : x.st.mut = true) : OwnOk P.K F H v x.d := by
  unfold COk at h
  cases e : x.st <;> rw [e] at h m <;> first | exact h.1 | exact absurd m (by decide)
theorem COk.sh {P : Par} {F H : Hp} {v : V} {x : Cell} (h : COk P F H v x) : Sh P.K F H v x.d := by
  cases e : x.st.mut with
  | true => exact .inr (h.own e)
  | false =>
    unfold COk at h
    cases e2 : x.st <;> rw [e2] at h e <;> first | exact .inl h | exact absurd e (by decide)
/-- F, H grow, at an address of one's own nothing changes -/
theorem OwnOk.up {K : PySem.W.Frag} {F F' H H' : Hp} {v : V} {d : D} (h : OwnOk K F H v d) (hF : Le F F') (hn : ∀ a, v = .ref a → F' a = none) (hH : ∀ a o, v = .ref a → H a = some o → H' a = some o) : OwnOk K F' H' v d := by
  cases d <;> first | exact False.elim h | skip
  · obtain ⟨a, xs, rfl, h1, h2, t⟩ := h
    exact ⟨a, xs, rfl, hn a rfl, hH a _ rfl h2, t.up hF⟩
  · obtain ⟨a, xs, rfl, h1, h2, l, t⟩ := h
    exact ⟨a, xs, rfl, hn a rfl, hH a _ rfl h2, l, t.up hF⟩
theorem COk.up {P : Par} {F F' H H' : Hp} {v : V} {x : Cell} (h : COk P F H v x) (hF : Le F F') (hn : ∀ a, x.st.mut = true → v = .ref a → F' a = none) (hH : ∀ a o, x.st.mut = true → v = .ref a → H a = some o → H' a = some o) : COk P F' H' v x := by
  unfold COk at h ⊢
  cases e : x.st <;> rw [e] at h hn hH <;> first
    | exact Dq.up h hF
    | exact ⟨h.1.up hF (fun a q => hn a rfl q) (fun a o q => hH a o rfl q), h.2⟩

section
variable {P : Par} {F H : Hp} {c T : Env} {σ τ : L2.St}
theorem Mt.take (M : Mt P F (c ++ T) (σ ++ τ) H) (hl : c.length = σ.length) : Mt P F c σ H := by
  refine ⟨hl, M.le, M.old, M.gr, M.fr, M.ioT, M.ioH, fun i x h => ?_, fun i j x y v h1 h2 m1 m2 h3 h4 => ?_⟩
  · obtain ⟨v, h1, h2⟩ := M.cell i x (cell_left' h)
    exact ⟨v, by rw [List.getElem?_append_left (by rw [← hl]; exact cell_lt h)] at h1; exact h1, h2⟩
  · exact M.apart i j x y v (cell_left' h1) (cell_left' h2) m1 m2 (by rw [List.getElem?_append_left (by rw [← hl]; exact cell_lt h1)]; exact h3) (by rw [List.getElem?_append_left (by rw [← hl]; exact cell_lt h2)]; exact h4)
theorem Mt.sh {i : Nat} {x : Cell} {v : V} (M : Mt P F c σ H) (h : c.cell i = some x) (hv : σ[i]? = some (some v)) : Sh P.K F H v x.d := by
  obtain ⟨w, h1, h2⟩ := M.cell i x h
  rw [hv] at h1; cases h1
  exact h2.sh
theorem Mt.own {i : Nat} {x : Cell} {v : V} (M : Mt P F c σ H) (h : c.cell i = some x) (hv : σ[i]? = some (some v)) (m : x.st.mut = true) : OwnOk P.K F H v x.d := by
  obtain ⟨w, h1, h2⟩ := M.cell i x h
  rw [hv] at h1; cases h1
  exact h2.own m
/-- a further place without a cell -/
theorem Mt.pushN {v : Option V} (M : Mt P F c σ H) : Mt P F (c ++ [none]) (σ ++ [v]) H := by
  have key : ∀ i x, Env.cell (c ++ [none]) i = some x → c.cell i = some x := fun i x h => by
    by_cases hi : i < c.length
    · rw [cell_left hi] at h; exact h
    · have hb := cell_lt h
      rw [List.length_append] at hb
      have e : i = c.length + 0 := by simp at hb; omega
      rw [e, cell_right] at h
      cases h
  refine ⟨by rw [List.length_append, List.length_append, M.len]; rfl, M.le, M.old, M.gr, M.fr, M.ioT, M.ioH, fun i x h => ?_, fun i j x y w h1 h2 m1 m2 h3 h4 => ?_⟩
  · obtain ⟨w, h1, h2⟩ := M.cell i x (key i x h)
    exact ⟨w, by rw [List.getElem?_append_left (by rw [← M.len]; exact cell_lt (key i x h))]; exact h1, h2⟩
  · have k1 := key i x h1
    have k2 := key j y h2
    rw [List.getElem?_append_left (by rw [← M.len]; exact cell_lt k1)] at h3
    rw [List.getElem?_append_left (by rw [← M.len]; exact cell_lt k2)] at h4
    exact M.apart i j x y w k1 k2 m1 m2 h3 h4
/-- a further place -/
theorem Mt.push {x : Cell} {v : V} (M : Mt P F c σ H) (h : COk P F H v x) (ap : x.st.mut = true → ∀ i y, c.cell i = some y → y.st.mut = true → σ[i]? ≠ some (some v)) : Mt P F (c ++ [some x]) (σ ++ [some v]) H := by
  have key : ∀ i y, Env.cell (c ++ [some x]) i = some y → (c.cell i = some y ∧ i < c.length) ∨ (i = c.length ∧ y = x) := fun i y h => by
    by_cases hi : i < c.length
    · rw [cell_left hi] at h; exact .inl ⟨h, hi⟩
    · have hb := cell_lt h
      rw [List.length_append] at hb
      have e : i = c.length + 0 := by simp at hb; omega
      rw [e, cell_right] at h
      cases h
      exact .inr ⟨e, rfl⟩
  have get : ∀ i, i < c.length → (σ ++ [some v])[i]? = σ[i]? := fun i hi => List.getElem?_append_left (by rw [← M.len]; exact hi)
  have last : (σ ++ [some v])[c.length]? = some (some v) := by rw [M.len, List.getElem?_append_right (Nat.le_refl _), Nat.sub_self]; rfl
  refine ⟨by rw [List.length_append, List.length_append, M.len]; rfl, M.le, M.old, M.gr, M.fr, M.ioT, M.ioH, fun i y hy => ?_, fun i j y z w h1 h2 m1 m2 h3 h4 => ?_⟩
  · rcases key i y hy with ⟨k, hi⟩ | ⟨rfl, rfl⟩
    · obtain ⟨w, h1, h2⟩ := M.cell i y k
      exact ⟨w, by rw [get i hi]; exact h1, h2⟩
    · exact ⟨v, last, h⟩
  · rcases key i y h1 with ⟨k1, hi⟩ | ⟨rfl, rfl⟩
    · rw [get i hi] at h3
      rcases key j z h2 with ⟨k2, hj⟩ | ⟨rfl, rfl⟩
      · rw [get j hj] at h4
        exact M.apart i j y z w k1 k2 m1 m2 h3 h4
      · rw [last] at h4; cases h4
        exact absurd h3 (ap m2 i y k1 m1)
    · rcases key j z h2 with ⟨k2, hj⟩ | ⟨rfl, rfl⟩
      · rw [get j hj] at h4
        rw [last] at h3; cases h3
        exact absurd h4 (ap m1 j z k2 m2)
      · rfl
theorem Mt.pushF {v : V} {d : D} (M : Mt P F c σ H) (h : Dq P.K F v d) : Mt P F (c ++ [some ⟨.fz, d⟩]) (σ ++ [some v]) H := M.push h fun z => (Bool.false_ne_true z).elim
/-- F, H grow at new places -/
theorem Mt.grow {F' H' : Hp} (M : Mt P F c σ H) (hF : Le F F') (hH : Le H H') (le : Le F' H') (new : ∀ a o, F' a = some o → F a = some o ∨ H a = none) : Mt P F' c σ H' := by
  have none_of : ∀ a, F a = none → H a ≠ none → F' a = none := fun a h1 h2 => by
    cases e : F' a with
    | none => rfl
    | some o =>
      rcases new a o e with z | z
      · rw [h1] at z; cases z
      · exact absurd z h2
  refine ⟨M.len, le, M.old.trans hF, fun a o e => ?_, fun a o e n => hH a o (M.fr a o e n), fun a e => ?_, M.ioH, fun i x h => ?_, M.apart⟩
  · rcases new a o e with z | z
    · exact M.gr a o z
    · cases q : P.H0 a with
      | none => exact .inr rfl
      | some u =>
        exfalso
        by_cases hio : P.io = some a
        · exact (M.ioT a hio).2 z
        · rw [M.fr a u q hio] at z; cases z
  · obtain ⟨h1, h2⟩ := M.ioT a e
    refine ⟨none_of a h1 h2, ?_⟩
    cases q : H a with
    | none => exact absurd q h2
    | some o => rw [hH a o q]; exact fun z => by cases z
  · obtain ⟨v, h1, h2⟩ := M.cell i x h
    refine ⟨v, h1, h2.up hF (fun a m e => ?_) fun a o _ _ q => hH a o q⟩
    subst e
    obtain ⟨b, o, e1, e2, e3⟩ := (h2.own m).ref
    cases e1
    exact none_of a e2 (by rw [e3]; exact fun z => by cases z)
theorem Mt.h0 {p : Addr} (M : Mt P F c σ H) (hp : H p = none) : P.H0 p = none := by
  cases q : P.H0 p with
  | none => rfl
  | some u =>
    exfalso
    by_cases hio : P.io = some p
    · exact (M.ioT p hio).2 hp
    · rw [M.fr p u q hio] at hp; cases hp
def tmpCell (p : Bool × D) : Cell := ⟨if p.1 then .own else .fz, p.2⟩
theorem upd_le {H : Hp} {p : Addr} {o : HO} (hp : H p = none) : Le H (upd H p o) := Le.new hp
/-- what an operation has made -/
theorem Mt.new {fr : Bool} {d : D} {v : V} {H' : Hp} (M : Mt P F c σ H) (n : New P.K F H fr d v H') : ∃ F', Le F F' ∧ Mt P F' (c ++ [some (tmpCell (fr, d))]) (σ ++ [some v]) H' := by
  have apN : ∀ p, H p = none → ∀ i y, c.cell i = some y → y.st.mut = true → σ[i]? ≠ some (some (V.ref p)) := fun p hp i y hy m e => by
    obtain ⟨b, o, e1, _, e3⟩ := (M.own hy e m).ref
    cases e1
    rw [hp] at e3; cases e3
  cases n with
  | @lst p xs ds fr hp t =>
    cases fr with
    | true =>
      refine ⟨F, Le.refl F, Mt.push (M.grow (Le.refl F) (upd_le hp) (M.le.trans (upd_le hp)) fun a o e => .inl e) ⟨⟨p, xs, rfl, M.le.none hp, upd_same, t⟩, fun a e => ?_⟩ fun _ => apN p hp⟩
      cases e
      exact M.h0 hp
    | false =>
      have hf := M.le.none hp
      refine ⟨upd F p (.lst xs), Le.new hf, Mt.pushF (M.grow (Le.new hf) (upd_le hp) M.le.both fun a o e => ?_) (.lst (.of upd_same) (t.up (Le.new hf)))⟩
      by_cases ha : a = p
      · subst ha; exact .inr hp
      · rw [upd_ne ha] at e; exact .inl e
  | @tup p xs ds hp t =>
    have hf := M.le.none hp
    refine ⟨upd F p (.tup xs), Le.new hf, Mt.pushF (M.grow (Le.new hf) (upd_le hp) M.le.both fun a o e => ?_) (.tup (.of upd_same) (t.up (Le.new hf)))⟩
    by_cases ha : a = p
    · subst ha; exact .inr hp
    · rw [upd_ne ha] at e; exact .inl e
  | old t => exact ⟨F, Le.refl F, M.pushF t⟩
/-- a cell with less to be said -/
theorem Mt.recell {i : Nat} {x y : Cell} (M : Mt P F c σ H) (h : c.cell i = some x) (hd : ∀ v, COk P F H v x → COk P F H v y) (hm : y.st.mut = true → x.st.mut = true) : Mt P F (c.set i (some y)) σ H := by
  have hi := cell_lt h
  refine ⟨by rw [List.length_set]; exact M.len, M.le, M.old, M.gr, M.fr, M.ioT, M.ioH, fun j z hz => ?_, fun j k z w v h1 h2 m1 m2 h3 h4 => ?_⟩
  · by_cases e : j = i
    · subst e
      rw [cell_set_self hi] at hz
      cases hz
      obtain ⟨v, q1, q2⟩ := M.cell j x h
      exact ⟨v, q1, hd v q2⟩
    · rw [cell_set_ne e] at hz
      exact M.cell j z hz
  · have back : ∀ j z, Env.cell (c.set i (some y)) j = some z → z.st.mut = true → ∃ z', c.cell j = some z' ∧ z'.st.mut = true := fun j z hz m => by
      by_cases e : j = i
      · subst e
        rw [cell_set_self hi] at hz
        cases hz
        exact ⟨x, h, hm m⟩
      · rw [cell_set_ne e] at hz
        exact ⟨z, hz, m⟩
    obtain ⟨z', k1, k2⟩ := back j z h1 m1
    obtain ⟨w', k3, k4⟩ := back k w h2 m2
    exact M.apart j k z' w' v k1 k3 k2 k4 h3 h4
theorem Mt.clear (i : Nat) (M : Mt P F c σ H) : Mt P F (c.set i none) σ H := by
  have back : ∀ j z, Env.cell (c.set i none) j = some z → c.cell j = some z := fun j z hz => by
    by_cases e : j = i
    · subst e
      have hi := cell_lt hz
      rw [List.length_set] at hi
      rw [cell_set_self hi] at hz
      cases hz
    · rw [cell_set_ne e] at hz
      exact hz
  exact ⟨by rw [List.length_set]; exact M.len, M.le, M.old, M.gr, M.fr, M.ioT, M.ioH, fun j z hz => M.cell j z (back j z hz), fun j k z w v h1 h2 m1 m2 h3 h4 => M.apart j k z w v (back j z h1) (back k w h2) m1 m2 h3 h4⟩
theorem Mt.forget (M : Mt P F c σ H) : ∀ l : List Nat, Mt P F (wipeE l c) σ H
  | [] => M
  | i :: l => Mt.clear i (M.forget l)
/-- a list of one's own is frozen -/
theorem Mt.freeze {i : Nat} {d : D} (M : Mt P F c σ H) (h : c.cell i = some ⟨.own, d⟩) : ∃ F', Le F F' ∧ Mt P F' (c.set i (some ⟨.fz, d⟩)) σ H := by
  obtain ⟨v, hv, hc⟩ := M.cell i _ h
  have hown : OwnOk P.K F H v d ∧ ∀ a, v = .ref a → P.H0 a = none := hc
  have hi := cell_lt h
  have core : ∀ (a : Addr) (o : HO), v = .ref a → F a = none → H a = some o → Dq P.K (upd F a o) v d → ∃ F', Le F F' ∧ Mt P F' (c.set i (some ⟨.fz, d⟩)) σ H := fun a o e1 e2 e3 dq => by
    subst e1
    have lF : Le F (upd F a o) := Le.new e2
    refine ⟨upd F a o, lF, by rw [List.length_set]; exact M.len, fun b u e => ?_, M.old.trans lF, fun b u e => ?_, M.fr, fun b e => ?_, M.ioH, fun j z hz => ?_, fun j k z w v' h1 h2 m1 m2 h3 h4 => ?_⟩
    · by_cases hb : b = a
      · subst hb; rw [upd_same] at e; cases e; exact e3
      · rw [upd_ne hb] at e; exact M.le b u e
    · by_cases hb : b = a
      · subst hb; exact .inr (hown.2 b rfl)
      · rw [upd_ne hb] at e; exact M.gr b u e
    · obtain ⟨q1, q2⟩ := M.ioT b e
      refine ⟨?_, q2⟩
      by_cases hb : b = a
      · subst hb
        exfalso
        exact M.ioH b e (hown.2 b rfl)
      · rw [upd_ne hb]; exact q1
    · by_cases e : j = i
      · subst e
        rw [cell_set_self hi] at hz
        cases hz
        exact ⟨_, hv, dq⟩
      · rw [cell_set_ne e] at hz
        obtain ⟨w, q1, q2⟩ := M.cell j z hz
        refine ⟨w, q1, q2.up lF (fun b m eb => ?_) fun _ _ _ _ q => q⟩
        have nb : b ≠ a := fun z' => by
          subst z'; subst eb
          exact e (M.apart j i z _ _ hz h m rfl q1 hv)
        rw [upd_ne nb]
        subst eb
        obtain ⟨b', o', z1, z2, _⟩ := (q2.own m).ref
        cases z1
        exact z2
    · have back : ∀ j z, Env.cell (c.set i (some ⟨.fz, d⟩)) j = some z → z.st.mut = true → c.cell j = some z := fun j z hz m => by
        by_cases e : j = i
        · subst e
          rw [cell_set_self hi] at hz
          cases hz
          exact (Bool.false_ne_true m).elim
        · rw [cell_set_ne e] at hz
          exact hz
      exact M.apart j k z w v' (back j z h1 m1) (back k w h2 m2) m1 m2 h3 h4
  cases d <;> first | exact False.elim hown.1 | skip
  · obtain ⟨a, xs, e1, e2, e3, t⟩ := hown.1
    exact core a _ e1 e2 e3 (by rw [e1]; exact .lst (.of upd_same) (t.up (Le.new e2)))
  · obtain ⟨a, xs, e1, e2, e3, l, t⟩ := hown.1
    exact core a _ e1 e2 e3 (by rw [e1]; exact .dic upd_same l (t.up (Le.new e2)))
end
end T

set_option Elab.async false
set_option linter.all false
set_option maxRecDepth 100000
set_option maxHeartbeats 1000000
/-! Stores, writes, calls; a def's promise. -/
namespace T
open PySem PySem.Spec PyProof.Rows L2
section
variable {P : Par} {F H : Hp} {c c' T : Env} {σ σ' τ : L2.St}
theorem Mt.reindex (M : Mt P F c σ H) (f : Nat → Nat) (hl : c'.length = σ'.length) (h : ∀ j y, c'.cell j = some y → c.cell (f j) = some y ∧ σ'[j]? = σ[f j]?)
    (inj : ∀ j k y z, c'.cell j = some y → c'.cell k = some z → f j = f k → j = k) : Mt P F c' σ' H := by
  refine ⟨hl, M.le, M.old, M.gr, M.fr, M.ioT, M.ioH, fun j y hy => ?_, fun j k y z v h1 h2 m1 m2 h3 h4 => ?_⟩
  · obtain ⟨a, b⟩ := h j y hy
    obtain ⟨v, q1, q2⟩ := M.cell _ y a
    exact ⟨v, by rw [b]; exact q1, q2⟩
  · obtain ⟨a1, b1⟩ := h j y h1
    obtain ⟨a2, b2⟩ := h k z h2
    rw [b1] at h3
    rw [b2] at h4
    exact inj j k y z h1 h2 (M.apart _ _ y z v a1 a2 m1 m2 h3 h4)
/-- the first of the further places goes into a slot -/
theorem Mt.store {i : Nat} {x : Option Cell} {v : Option V} (M : Mt P F (c ++ (x :: T)) (σ ++ (v :: τ)) H) (hl : c.length = σ.length) (hi : i < c.length) : Mt P F (c.set i x ++ T) (σ.set i v ++ τ) H := by
  have hT : T.length = τ.length := by have := M.len; simp only [List.length_append, List.length_cons] at this; omega
  refine M.reindex (fun j => if j = i then c.length else if j < c.length then j else j + 1) (by simp only [List.length_append, List.length_set]; omega) (fun j y hy => ?_) (fun j k y z _ _ e => ?_)
  · by_cases e : j = i
    · subst e
      rw [if_pos rfl]
      have h0 : Env.cell (c.set j x ++ T) j = x := by rw [cell_left (by rw [List.length_set]; exact hi), cell_set_self hi]
      rw [h0] at hy
      refine ⟨?_, ?_⟩
      · rw [show c.length = c.length + 0 from rfl, cell_right]
        subst hy; rfl
      · rw [List.getElem?_append_left (by rw [List.length_set]; omega), List.getElem?_set_self (by omega), hl, List.getElem?_append_right (Nat.le_refl _), Nat.sub_self]; rfl
    · by_cases e2 : j < c.length
      · rw [if_neg e, if_pos e2]
        rw [cell_left (by rw [List.length_set]; exact e2), cell_set_ne e] at hy
        refine ⟨cell_left' hy, ?_⟩
        rw [List.getElem?_append_left (by rw [List.length_set]; omega), List.getElem?_set_ne (Ne.symm e), List.getElem?_append_left (by omega)]
      · rw [if_neg e, if_neg e2]
        obtain ⟨m, rfl⟩ : ∃ m, j = c.length + m := ⟨j - c.length, by omega⟩
        have h1 : Env.cell (c.set i x ++ T) (c.length + m) = Env.cell T m := by
          have := cell_right (c := c.set i x) (T := T) (i := m)
          rw [List.length_set] at this
          exact this
        rw [h1] at hy
        refine ⟨?_, ?_⟩
        · rw [show c.length + m + 1 = c.length + (m + 1) from rfl, cell_right]
          exact hy
        · rw [List.getElem?_append_right (by rw [List.length_set]; omega), List.length_set, List.getElem?_append_right (by omega)]
          rw [show c.length + m + 1 - σ.length = (c.length + m - σ.length) + 1 by omega]
          rfl
  · split at e <;> split at e <;> (try split at e) <;> (try split at e) <;> omega
/-- one list of one's own changes, new things may come -/
theorem Mt.change {i : Nat} {x : Cell} {a : Addr} {F' H' : Hp} {d : D} (M : Mt P F c σ H) (h : c.cell i = some x) (hv : σ[i]? = some (some (.ref a))) (m : x.st.mut = true)
    (hF : Le F F') (hH : ∀ b o, b ≠ a → H b = some o → H' b = some o) (le : Le F' H') (new : ∀ b o, F' b = some o → F b = some o ∨ H b = none) (ow : OwnOk P.K F' H' (.ref a) d) : Mt P F' (c.set i (some ⟨x.st, d⟩)) σ H' := by
  have hi := cell_lt h
  have none_of : ∀ b, F b = none → H b ≠ none → F' b = none := fun b h1 h2 => by
    cases e : F' b with
    | none => rfl
    | some o =>
      rcases new b o e with z | z
      · rw [h1] at z; cases z
      · exact absurd z h2
  obtain ⟨w, hw, hc⟩ := M.cell i x h
  rw [hv] at hw; cases hw
  have tag : (P.H0 a = none) ∨ P.io = some a := by
    unfold COk at hc
    cases e : x.st <;> rw [e] at hc m <;> first | exact .inl (hc.2 a rfl) | exact .inr (hc.2 a rfl) | exact (Bool.false_ne_true m).elim
  have there : H' a ≠ none := by
    obtain ⟨b, o, e1, _, e3⟩ := ow.ref
    cases e1
    rw [e3]; exact fun z => by cases z
  refine ⟨by rw [List.length_set]; exact M.len, le, M.old.trans hF, fun b o e => ?_, fun b o e n => ?_, fun b e => ?_, M.ioH, fun j z hz => ?_, fun j k z w v h1 h2 m1 m2 h3 h4 => ?_⟩
  · rcases new b o e with z | z
    · exact M.gr b o z
    · exact .inr (M.h0 z)
  · refine hH b o (fun z => ?_) (M.fr b o e n)
    subst z
    rcases tag with z | z
    · rw [z] at e; cases e
    · exact n z
  · obtain ⟨h1, h2⟩ := M.ioT b e
    refine ⟨none_of b h1 h2, ?_⟩
    by_cases hb : b = a
    · subst hb; exact there
    · cases q : H b with
      | none => exact absurd q h2
      | some o => rw [hH b o hb q]; exact fun z => by cases z
  · by_cases e : j = i
    · subst e
      rw [cell_set_self hi] at hz
      cases hz
      refine ⟨_, hv, ?_⟩
      unfold COk at hc ⊢
      cases e : x.st <;> rw [e] at hc m <;> first | exact ⟨ow, hc.2⟩ | exact (Bool.false_ne_true m).elim
    · rw [cell_set_ne e] at hz
      obtain ⟨w, q1, q2⟩ := M.cell j z hz
      have nb : ∀ b, z.st.mut = true → w = .ref b → b ≠ a := fun b m' eb z' => by
        subst z'; subst eb
        exact e (M.apart j i z _ _ hz h m' m q1 hv)
      refine ⟨w, q1, q2.up hF (fun b m' eb => ?_) fun b o m' eb q => hH b o (nb b m' eb) q⟩
      subst eb
      obtain ⟨b', o', z1, z2, z3⟩ := (q2.own m').ref
      cases z1
      exact none_of b z2 (by rw [z3]; exact fun z => by cases z)
  · have back : ∀ j z, Env.cell (c.set i (some ⟨x.st, d⟩)) j = some z → z.st.mut = true → ∃ z', c.cell j = some z' ∧ z'.st.mut = true := fun j z hz m' => by
      by_cases e : j = i
      · subst e
        exact ⟨x, h, m⟩
      · rw [cell_set_ne e] at hz
        exact ⟨z, hz, m'⟩
    obtain ⟨z', k1, k2⟩ := back j z h1 m1
    obtain ⟨w', k3, k4⟩ := back k w h2 m2
    exact M.apart j k z' w' v k1 k3 k2 k4 h3 h4
theorem Mt.write {i : Nat} {x : Cell} {a : Addr} {xs : List V} {ds : List D} (M : Mt P F c σ H) (h : c.cell i = some x) (hv : σ[i]? = some (some (.ref a))) (m : x.st.mut = true) (t : DqAll P.K F xs ds) :
    Mt P F (c.set i (some ⟨x.st, .lst ds⟩)) σ (upd H a (.lst xs)) := by
  obtain ⟨b, o, e1, e2, e3⟩ := (M.own h hv m).ref
  cases e1
  exact M.change h hv m (Le.refl F) (fun b o hb q => by rw [upd_ne hb]; exact q) (M.le.upd e2) (fun b o e => .inl e) ⟨a, xs, rfl, e2, upd_same, t⟩
end

/-! ### promises -/
def ArgsOk (K : PySem.W.Frag) (G H : Hp) : Option Nat → List V → List D → Prop
  | _, [], [] => True
  | none, v :: vs, d :: ds => Dq K G v d ∧ ArgsOk K G H none vs ds
  | some 0, v :: vs, d :: ds => OwnOk K G H v d ∧ ArgsOk K G H none vs ds
  | some (n + 1), v :: vs, d :: ds => Dq K G v d ∧ ArgsOk K G H (some n) vs ds
  | _, _, _ => False
def ResOk (K : PySem.W.Frag) (G' H H' : Hp) (fr : Bool) (v : V) (d : D) : Prop := if fr = true then OwnOk K G' H' v d ∧ ∀ a, v = .ref a → H a = none else Dq K G' v d
structure Post (K : PySem.W.Frag) (io : Option Nat) (vs : List V) (G H : Hp) (fr : Bool) (d out : D) (v : V) (G' H' : Hp) : Prop where
  le : Le G G'
  le' : Le G' H'
  keep : ∀ b o, H b = some o → (∀ k, io = some k → vs[k]? ≠ some (.ref b)) → H' b = some o
  new : ∀ b o, G' b = some o → G b = some o ∨ H b = none
  out : ∀ k w, io = some k → vs[k]? = some w → OwnOk K G' H' w out
  res : ResOk K G' H H' fr v d
def SpF (K : PySem.W.Frag) (f : Fn) : Sp := fun vs H Q _ => ∃ G ds fr d out, Le G H ∧ vs.length = f.ar ∧ ArgsOk K G H f.io vs ds ∧ f.run ds = .ret fr d out ∧ ∀ v H' G', Post K f.io vs G H fr d out v G' H' → Q v H'
theorem ArgsOk.length {K : PySem.W.Frag} {G H : Hp} : ∀ {io : Option Nat} {vs : List V} {ds : List D}, ArgsOk K G H io vs ds → vs.length = ds.length
  | none, [], [], _ => rfl
  | some _, [], [], _ => rfl
  | none, _ :: vs, _ :: ds, h => by rw [List.length_cons, List.length_cons, ArgsOk.length h.2]
  | some 0, _ :: vs, _ :: ds, h => by rw [List.length_cons, List.length_cons, ArgsOk.length h.2]
  | some (n + 1), _ :: vs, _ :: ds, h => by rw [List.length_cons, List.length_cons, ArgsOk.length h.2]
  | none, [], _ :: _, h => h.elim
  | some 0, [], _ :: _, h => h.elim
  | some (_ + 1), [], _ :: _, h => h.elim
  | none, _ :: _, [], h => h.elim
  | some 0, _ :: _, [], h => h.elim
  | some (_ + 1), _ :: _, [], h => h.elim
/-- how keywords (ks, behind n arguments by place) come to the parameters -/
def KwOk (K : PySem.W.Frag) (fd : FuncData) (ps : List Str) (n : Nat) (ks : List Str) (pm : List Nat) : Prop :=
  ∀ (s : Shared) (us ws : List Value), K.In s.heap → us.length = n → ws.length = ks.length → BindsTo s fd ⟨us, ks.zip ws⟩ (ps.zip (permL pm (us ++ ws)))
/-- a def as the module knows it -/
structure DefOk (P : Program) (w : World) (K : PySem.W.Frag) (mg : Str → Option Value) (base : Heap) (k : Nat) (x : Str) (kw : List (Nat × List Str × List Nat)) (f : Fn) : Prop where
  ex : ∃ (fa : Addr) (fd : FuncData) (ps : List Str), mg x = some (.ref fa) ∧ PySem.W.keepIn K (.ref fa) = true ∧ Binds K fd ps [] ∧ FnG P w K mg base CX0 k fa fd ps (SpF K f) ∧ ∀ n ks pm, (n, ks, pm) ∈ kw → KwOk K fd ps n ks pm
theorem permL_q {K : PySem.W.Frag} {F : Hp} {vs : List V} {ds : List D} (t : DqAll K F vs ds) : ∀ pm : List Nat, DqAll K F (permL pm vs) (permL pm ds)
  | [] => .nil
  | i :: pm => by
    have ih := permL_q t pm
    unfold permL at ih ⊢
    rw [List.filterMap_cons, List.filterMap_cons]
    cases h : ds[i]? with
    | none =>
      have : vs[i]? = none := by
        rw [List.getElem?_eq_none_iff] at h ⊢
        rw [t.length]; exact h
      rw [this]
      exact ih
    | some d =>
      obtain ⟨v, h1, h2⟩ := t.get h
      rw [h1]
      exact .cons h2 ih
theorem permL_vals {vs : List V} {us : List Value} (t : Vals vs us) : ∀ pm : List Nat, Vals (permL pm vs) (permL pm us)
  | [] => .nil
  | i :: pm => by
    have ih := permL_vals t pm
    unfold permL at ih ⊢
    rw [List.filterMap_cons, List.filterMap_cons]
    cases h : vs[i]? with
    | none =>
      rw [Vals.none_of t h]
      exact ih
    | some d =>
      obtain ⟨v, h1, h2⟩ := Vals.get t h
      rw [h1]
      exact .cons h2 ih
end T

set_option Elab.async false
set_option linter.all false
set_option maxRecDepth 100000
set_option maxHeartbeats 1000000
/-! enumerate and zip of lists and tuples. -/
namespace T
open PySem PySem.Spec PyProof.Rows L2

/-- a list (false) or a tuple (true) -/
def Sq (t : Bool) (K : PySem.W.Frag) (H : Hp) (a : Addr) (xs : List V) : Prop := match t with
  | false => SqL K H a xs
  | true => SqT K H a xs
def SqA (t : Bool) (h : Heap) (a : Addr) (its : Array Value) : Prop := match t with
  | false => h.IsList a its
  | true => h.IsTuple a its
def SqI (t : Bool) (h : Heap) (it a : Addr) (i : Nat) : Prop := match t with
  | false => h.IsListIter it a i
  | true => h.IsTupleIter it a i
theorem SqI.at {t : Bool} {h h' : Heap} {it a : Addr} {i : Nat} (x : SqI t h it a i) (k : ∀ o, h.get? it = some o → h'.get? it = some o) : SqI t h' it a i := by
  cases t
  · exact Heap.IsListIter.at x k
  · exact Heap.IsTupleIter.at x k
theorem SqI.get {t : Bool} {h : Heap} {it a : Addr} {i : Nat} (x : SqI t h it a i) : ∃ o, h.get? it = some o ∧ ∀ v, o.data ≠ .cell v := by
  cases t
  · obtain ⟨o, e, _, d⟩ := x; exact ⟨o, e, fun v q => by rw [d] at q; cases q⟩
  · obtain ⟨o, e, _, d⟩ := x; exact ⟨o, e, fun v q => by rw [d] at q; cases q⟩
theorem SqA.lt {t : Bool} {h : Heap} {a : Addr} {its : Array Value} (x : SqA t h a its) : a < h.objs.size := by
  cases t
  · obtain ⟨o, e, _⟩ := x; exact Heap.lt_size e
  · obtain ⟨o, e, _⟩ := x; exact Heap.lt_size e
def iterObj (t : Bool) (a : Addr) : Obj := { cls := .type (if t then "tuple_iterator" else "list_iterator"), data := .fields #[.ref a, .int 0 0] }
theorem sq_begins (t : Bool) (a : Addr) (its : Array Value) : Begins (.ref a) (iterObj t a) fun h => SqA t h a its := by
  cases t
  · exact begins_list a its
  · exact begins_tuple a its
theorem SqI.of {t : Bool} {h : Heap} {it a : Addr} (e : h.get? it = some (iterObj t a)) : SqI t h it a 0 := by
  cases t
  · exact ⟨_, e, rfl, rfl⟩
  · exact ⟨_, e, rfl, rfl⟩
theorem sq_draws {prog : Program} {w : World} {A : Around} (hh : A.handled = none) (t : Bool) (it a : Addr) (hne : a ≠ it) (items : Array Value) :
    Draws prog w A it [it, a] items.size (fun i v => items[i]? = some v) (fun i h => SqI t h it a i ∧ SqA t h a items) := by
  cases t
  · exact Draws.list hh it a hne items
  · exact Draws.tuple hh it a hne items
section
variable {X : Cx} {pins : List (Addr × Obj)} {σ : L2.St} {H : Hp} {s : Shared} {a : Addr} {xs ys : List V}
theorem sq_its {t : Bool} (I : L2.Inv X pins σ H s) (h : Sq t X.K H a xs) : ∃ its : List Value, Vals xs its ∧ SqA t s.heap a its.toArray := by
  cases t
  · obtain ⟨its, r, p, _⟩ := I.list h; exact ⟨its, r, p.isList⟩
  · obtain ⟨its, r, p, _⟩ := I.tuple h; exact ⟨its, r, p⟩
theorem sq_inj {t : Bool} (I : L2.Inv X pins σ H s) (h : Sq t X.K H a xs) (h' : Sq t X.K H a ys) : xs = ys := by
  cases t
  · exact I.list_inj h h'
  · exact I.tuple_inj h h'
end

/-! ### enumerate(xs), from k -/
def IteS (t : Bool) (k : Int) (K : PySem.W.Frag) (a : Addr) : It :=
  ⟨fun i H => ∃ (xs : List V) (x : V), Sq t K H a xs ∧ xs[i]? = some x, fun i H v H' => ∃ T x, v = .ref T ∧ H T = none ∧ H' = upd H T (.tup [.int (k + (i : Nat)), x]) ∧ ∀ xs, Sq t K H a xs → xs[i]? = some x, fun i H => ∃ xs : List V, Sq t K H a xs ∧ xs.length = i⟩
theorem turn_enumS {P : Program} {w : World} {K : PySem.W.Frag} {elts : List Expr} {kk : Nat} {tpos : Pos} (t : Bool) (k : Int) (a e it : Addr) (hae : a ≠ e) (hai : a ≠ it) :
    Turn P w K (.Tuple elts kk tpos) (IteS t k K a) [e, it] e (fun i h => (∃ old, IsEnum h e it (k + ((i : Nat) : Int)) old) ∧ SqI t h it a i ∧ e ≠ it) where
  mem := by simp
  obj := fun i h st b hb => by
    obtain ⟨⟨old, he⟩, hi, _⟩ := st
    have e' : b = e ∨ b = it := by simpa using hb
    rcases e' with z | z
    · rw [z]; exact ⟨_, he, fun v q => nomatch q⟩
    · rw [z]; exact hi.get
  keep := fun i h h' st k => let ⟨⟨old, he⟩, hi, hne⟩ := st; ⟨⟨old, k e (by simp) _ he⟩, hi.at fun o q => k it (by simp) o q, hne⟩
  item := by
    intro X hP hw hK hc i pins s σ H E I hf st hg
    subst hP hw hK
    obtain ⟨⟨old, he⟩, hit, hne⟩ := st
    obtain ⟨xs, x, hq, hx⟩ := hg
    obtain ⟨its, rv, p⟩ := sq_its I hq
    obtain ⟨u, hu, ru⟩ := rv.get hx
    have hel : e < s.heap.objs.size := Heap.lt_size he
    have hil : it < s.heap.objs.size := by obtain ⟨_, q, _⟩ := hit.get; exact Heap.lt_size q
    have hlt : i < its.toArray.size := by
      rw [List.size_toArray]
      exact (List.getElem?_eq_some_iff.mp hu).1
    refine wpAny_pyNext_enum_itemC (sq_draws (A := X.A.in1) (I.ok.hd hc) t it a hai its.toArray) he ⟨hit, p⟩ hlt hne (by simp [hne, hae.symm]) fun x' h' tk hx' ho hst' hT hsz hk => ?_
    have hx'' : x' = u := by
      have h1 : its.toArray[i]? = some x' := hx'
      rw [List.getElem?_toArray, hu] at h1
      exact (Option.some.inj h1).symm
    subst hx''
    refine ⟨_, rfl, wpAny_letOwnedTupleGo_enum (s := { s with heap := h', toks := tk + 1 }) ho fun h'' he' sb => ?_⟩
    have hT2 : h''.get? s.heap.objs.size = some { cls := .type "tuple", data := .seq #[.int (k + (i : Nat)) tk, x'] } := (sb.2 _ (Nat.ne_of_gt hel)).trans hT
    have new : ObjOk X.prog X.w (upd H s.heap.objs.size (.tup [.int (k + (i : Nat)), x])) h'' s.heap.objs.size (.tup [.int (k + (i : Nat)), x]) :=
      ⟨by show 2 ≤ sizeLine; decide, [.int (k + (i : Nat)) tk, x'], .cons ⟨_, rfl⟩ (.cons ru .nil), ⟨_, hT2, rfl, _, rfl⟩⟩
    have I1 : L2.Inv X pins σ (upd H s.heap.objs.size (.tup [.int (k + (i : Nat)), x])) { s with heap := h'', toks := tk + 1 } :=
      I.turnedNew (ch := [e, it]) (fun b ob hb q => (sb.2 b (fun z => hb (by simp [z]))).trans (hk b ob (fun z => hb (by simp [z])) (fun z => hb (by simp [z])) q)) hf (Nat.le_refl _) new
    refine ⟨.ref s.heap.objs.size, _, I1, rfl, ⟨_, x, rfl, I.hok.fresh (Nat.le_refl _), rfl, fun ys hy => by rw [sq_inj I hy hq]; exact hx⟩, ⟨⟨x', ?_⟩, hst'.1.at fun o q => (sb.2 it (Ne.symm hne)).trans q, hne⟩, fun b hb => ?_⟩
    · have e1 : k + ((i + 1 : Nat) : Int) = (k + (i : Int)) + 1 := by omega
      rw [e1]; exact he'
    · have hb' : b < s.heap.objs.size := by
        have e' : b = e ∨ b = it := by simpa using hb
        rcases e' with z | z
        · rw [z]; exact hel
        · rw [z]; exact hil
      rw [upd_ne (Nat.ne_of_lt hb')]
      exact (hf b hb).1
  done := by
    intro X hP hw hK hc i pins s σ H E I hf st hg
    subst hP hw hK
    obtain ⟨⟨old, he⟩, hit, hne⟩ := st
    obtain ⟨xs, hq, hx⟩ := hg
    obtain ⟨its, rv, p⟩ := sq_its I hq
    obtain ⟨f0, f1, f2, f3, f4, f5⟩ := hf it (by simp)
    have hl := rv.length
    have en : its.toArray.size = i := by rw [List.size_toArray, ← hl]; exact hx
    subst en
    exact wpAny_pyNext_enum_endD (sq_draws (A := X.A.in1) (I.ok.hd hc) t it a hai its.toArray) he ⟨hit, p⟩ fun h' eb => ⟨rfl, I.turned (t' := s.toks) (fun b o hb q => eb b o hb q) f0 f1 f3 f4 f5⟩
  self := fun A i s Q E st h => let ⟨⟨_, he⟩, _⟩ := st; wpAny_pyIter_enum he h

set_option maxHeartbeats 2000000 in
theorem meets_enumerate_new0 {v : Value} {o : Obj} {H : Heap → Prop} (B : Begins v o H) :
    Meets (Builtin.«enumerate.__new__» ⟨[.type "enumerate", v], []⟩) (fun _ R s => H s.heap ∧
      R (.ok (.ret (.ref (s.heap.push o).objs.size))) { s with heap := (s.heap.push o).push { cls := .type "enumerate", data := .fields #[.none, .bool false, .ref s.heap.objs.size, rawInt 0, .none, .none] } }) :=
  .of_wp fun prog w A R s h => by
    obtain ⟨hp, g, d, tk, os⟩ := s; obtain ⟨h1, h⟩ := h
    have hsub := sub_enumerate
    have q1 : ∀ {A' : Around} {E : Value → Shared → Prop} {Q : Value → Shared → Prop}, Q (.ref hp.objs.size) ⟨hp.push o, g, d, tk, os⟩ → wpAny (model prog w) A' (pyIter v) Q E ⟨hp, g, d, tk, os⟩ :=
      fun q => B.iter prog w _ _ ⟨hp, g, d, tk, os⟩ _ h1 q
    wp_walk using q1
    refine wpAny_stack_any fun st => wpAny_pure ?_
    split
    · rename_i c _ _ _ _ _
      cases (c == Value.type "enumerate")
      · wp_walk using q1
        exact ⟨_, rfl, h⟩
      · wp_walk using q1
        exact ⟨_, rfl, h⟩
    · wp_walk using q1
      exact ⟨_, rfl, h⟩
section
variable {prog : Program} {w : World} {A : Around} {E : Value → Shared → Prop} {s : Shared}
theorem enum_begins0 {v : Value} {o : Obj} {H : Heap → Prop} {Q : Value → Shared → Prop} (B : Begins v o H) (h1 : H s.heap)
    (h : ∀ h', IsEnum h' (s.heap.objs.size + 1) s.heap.objs.size 0 .none → h'.get? s.heap.objs.size = some o → h'.objs.size = s.heap.objs.size + 2 →
      (∀ b o, s.heap.get? b = some o → h'.get? b = some o) → Q (.ref (s.heap.objs.size + 1)) { s with heap := h' }) :
    wpAny (model prog w) A (call (.type "enumerate") [v]) Q E s := by
  refine callType_new F.called_enumerate (by decide) (F.typeCall_enumerate_1 _) (F.newCall_enumerate_1 _) (fun obj => F.args_object_init_2 obj _) F.entry_enumerate_new
    (meets_enumerate_new0 B) ⟨h1, ?_⟩
  have hz : (s.heap.push o).objs.size = s.heap.objs.size + 1 := Heap.size_push ..
  show _ ∧ _
  rw [hz]
  have he : IsEnum ((s.heap.push o).push { cls := .type "enumerate", data := .fields #[.none, .bool false, .ref s.heap.objs.size, rawInt 0, .none, .none] }) (s.heap.objs.size + 1) s.heap.objs.size 0 .none := by
    have := Heap.get?_push_size (s.heap.push o) (o := { cls := .type "enumerate", data := .fields #[.none, .bool false, .ref s.heap.objs.size, rawInt 0, .none, .none] }) rfl
    rw [hz] at this; exact this
  refine ⟨⟨_, he, rfl⟩, h _ he (Heap.get?_push_of_some _ (Heap.get?_push_size _ B.free)) (by rw [Heap.size_push, hz]) fun b o x => Heap.get?_push_of_some _ (Heap.get?_push_of_some _ x)⟩
end
def iEnumS (K : PySem.W.Frag) (ta : TA) : TI := fun σ H R => ta σ H fun vs H1 => ∃ t a xs, vs = [.ref a] ∧ Sq t K H1 a xs ∧ R (IteS t 0 K a) H1
theorem pi_enumS {X : Cx} {e : Expr} {ta : TA} {p pos tpos : Pos} {elts : List Expr} {kk : Nat} (hg : Gl X "enumerate") (hm : X.mg "enumerate" = none) (ha : PA X [e] ta) (hs : starEach [e] X.env = [(false, eval e X.env)]) :
    PI X (.Tuple elts kk tpos) (.Call (.Name "enumerate" p) [e] [] pos) (iEnumS X.K ta) := by
  refine ⟨fun pins s σ H R I h => ?_⟩
  refine Call_ (ld_blt I hg hm boot_enumerate (PyProof.Rows.callWith_type1 (thn (ha.run pos pins s σ H _ I h) fun us s1 ⟨vs, H1, I1, r1, q1⟩ => ?_) hs rfl))
  obtain ⟨t, a, xs, ex, hq, q⟩ := q1
  subst ex
  cases r1 with
  | cons r rr =>
    cases rr
    cases r
    obtain ⟨its, rv, p'⟩ := sq_its I1 hq
    have hlt := p'.lt
    refine enum_begins0 (sq_begins t a its.toArray) p' fun h' he hit hsz hk => wpAny_pyIter_enum he ?_
    have I2 : L2.Inv X pins σ H1 { s1 with heap := h' } := I1.kept (t' := s1.toks) hk
    refine ⟨s1.heap.objs.size + 1, [s1.heap.objs.size + 1, s1.heap.objs.size], _, _, H1, rfl, I2, turn_enumS t 0 a (s1.heap.objs.size + 1) s1.heap.objs.size (Nat.ne_of_lt (Nat.lt_succ_of_lt hlt)) (Nat.ne_of_lt hlt), ⟨⟨.none, he⟩, .of hit, Nat.succ_ne_self _⟩, fun b hb => ?_, q⟩
    have e' : b = s1.heap.objs.size + 1 ∨ b = s1.heap.objs.size := by simpa using hb
    have hle : s1.heap.objs.size ≤ b := by
      rcases e' with z | z
      · rw [z]; exact Nat.le_add_right _ _
      · rw [z]; exact Nat.le_refl _
    exact I1.fpOk hle (I1.hok.fresh hle)

/-! ### zip(xs, ys) -/
def ItzS (t u : Bool) (K : PySem.W.Frag) (a b : Addr) : It :=
  ⟨fun i H => ∃ (xs ys : List V) (x y : V), Sq t K H a xs ∧ Sq u K H b ys ∧ xs[i]? = some x ∧ ys[i]? = some y,
    fun i H v H' => ∃ T x y, v = .ref T ∧ H T = none ∧ H' = upd H T (.tup [x, y]) ∧ (∀ xs, Sq t K H a xs → xs[i]? = some x) ∧ ∀ ys, Sq u K H b ys → ys[i]? = some y,
    fun i H => ∃ xs ys : List V, Sq t K H a xs ∧ Sq u K H b ys ∧ i ≤ xs.length ∧ i ≤ ys.length ∧ (i = xs.length ∨ i = ys.length)⟩
theorem turn_zipS {P : Program} {w : World} {K : PySem.W.Frag} {elts : List Expr} {kk : Nat} {tpos : Pos} {t u : Bool} {a b z TI TO i1 i2 : Addr} (D : ZipSep2 z TI TO i1 i2 [i1, a] [i2, b]) (ha : a ≠ i1) (hb : b ≠ i2) :
    Turn P w K (.Tuple elts kk tpos) (ItzS t u K a b) [z, TI, TO, i1, i2] z (fun i h => IsZip h z TI TO .none ∧ IsTupOf2 h TI (.ref i1) (.ref i2) ∧ (∃ x y, IsTupOf2 h TO x y) ∧ SqI t h i1 a i ∧ SqI u h i2 b i) where
  mem := by simp
  obj := fun i h st c hc => by
    obtain ⟨hz, hTI, ⟨x, y, hTO⟩, h1, h2⟩ := st
    have e' : c = z ∨ c = TI ∨ c = TO ∨ c = i1 ∨ c = i2 := by simpa using hc
    rcases e' with q | q | q | q | q
    · rw [q]; exact ⟨_, hz, fun v q => nomatch q⟩
    · rw [q]; exact ⟨_, hTI, fun v q => nomatch q⟩
    · rw [q]; exact ⟨_, hTO, fun v q => nomatch q⟩
    · rw [q]; exact h1.get
    · rw [q]; exact h2.get
  keep := fun i h h' st k => by
    obtain ⟨hz, hTI, ⟨x, y, hTO⟩, h1, h2⟩ := st
    exact ⟨k z (by simp) _ hz, k TI (by simp) _ hTI, ⟨x, y, k TO (by simp) _ hTO⟩, h1.at fun o q => k i1 (by simp) o q, h2.at fun o q => k i2 (by simp) o q⟩
  item := by
    intro X hP hw hK hc i pins s σ H E I hf st hg
    subst hP hw hK
    obtain ⟨hz, hTI, ⟨x0, y0, hTO⟩, h1, h2⟩ := st
    obtain ⟨xs, ys, x, y, hqx, hqy, hx, hy⟩ := hg
    obtain ⟨its, rv, p⟩ := sq_its I hqx
    obtain ⟨its2, rv2, p2⟩ := sq_its I hqy
    obtain ⟨v1, hu, ru⟩ := rv.get hx
    obtain ⟨v2, hu2, ru2⟩ := rv2.get hy
    have hzl : z < s.heap.objs.size := Heap.lt_size hz
    have hlt1 : i < its.toArray.size := by rw [List.size_toArray]; exact (List.getElem?_eq_some_iff.mp hu).1
    have hlt2 : i < its2.toArray.size := by rw [List.size_toArray]; exact (List.getElem?_eq_some_iff.mp hu2).1
    refine wpAny_pyNext_zipD2_item D (sq_draws (A := X.A.in1) (I.ok.hd hc) t i1 a ha its.toArray) (sq_draws (A := X.A.in1) (I.ok.hd hc) u i2 b hb its2.toArray) hz hTI hTO ⟨h1, p⟩ ⟨h2, p2⟩ hlt1 hlt2
      fun w1 w2 h' tk hw1 hw2 z' TO' s1' s2' hT hsz hk => ?_
    have q1 : w1 = v1 := by
      have h1 : its.toArray[i]? = some w1 := hw1
      rw [List.getElem?_toArray, hu] at h1
      exact (Option.some.inj h1).symm
    have q2 : w2 = v2 := by
      have h1 : its2.toArray[i]? = some w2 := hw2
      rw [List.getElem?_toArray, hu2] at h1
      exact (Option.some.inj h1).symm
    subst q1 q2
    refine ⟨_, rfl, wpAny_letOwnedTupleGo_zip (s := { s with heap := h', toks := tk }) z' fun h'' z'' sb => ?_⟩
    have hT2 : h''.get? s.heap.objs.size = some { cls := .type "tuple", data := .seq #[w1, w2] } := (sb.2 _ (Nat.ne_of_gt hzl)).trans hT
    have new : ObjOk X.prog X.w (upd H s.heap.objs.size (.tup [x, y])) h'' s.heap.objs.size (.tup [x, y]) :=
      ⟨by show 2 ≤ sizeLine; decide, [w1, w2], .cons ru (.cons ru2 .nil), ⟨_, hT2, rfl, _, rfl⟩⟩
    have I1 : L2.Inv X pins σ (upd H s.heap.objs.size (.tup [x, y])) { s with heap := h'', toks := tk } :=
      I.turnedNew (t' := tk) (ch := [z, TI, TO, i1, i2]) (fun c o hb q => (sb.2 c (fun q' => hb (by simp [q']))).trans (hk c o (fun q' => hb (by simp [q'])) (fun q' => hb (by simp [q'])) (fun q' => hb (by simp [q'])) (fun q' => hb (by simp [q'])) q)) hf (Nat.le_refl _) new
    refine ⟨.ref s.heap.objs.size, _, I1, rfl, ⟨_, x, y, rfl, I.hok.fresh (Nat.le_refl _), rfl, fun l hl => by rw [sq_inj I hl hqx]; exact hx, fun l hl => by rw [sq_inj I hl hqy]; exact hy⟩, ⟨z'', ?_, ⟨w1, w2, ?_⟩, ?_, ?_⟩, fun c hcm => ?_⟩
    · exact (sb.2 _ D.TIz).trans (hk _ _ D.TIz D.TITO D.TIi1 D.TIi2 hTI)
    · exact (sb.2 _ D.TOz).trans TO'
    · exact s1'.1.at fun o q => (sb.2 _ (Ne.symm D.zi1)).trans q
    · exact s2'.1.at fun o q => (sb.2 _ (Ne.symm D.zi2)).trans q
    · have hlt : c < s.heap.objs.size := by
        have e' : c = z ∨ c = TI ∨ c = TO ∨ c = i1 ∨ c = i2 := by simpa using hcm
        rcases e' with q | q | q | q | q
        · rw [q]; exact hzl
        · rw [q]; exact Heap.lt_size hTI
        · rw [q]; exact Heap.lt_size hTO
        · rw [q]; obtain ⟨_, e1, _⟩ := h1.get; exact Heap.lt_size e1
        · rw [q]; obtain ⟨_, e2, _⟩ := h2.get; exact Heap.lt_size e2
      rw [upd_ne (Nat.ne_of_lt hlt)]
      exact (hf c hcm).1
  done := by
    intro X hP hw hK hc i pins s σ H E I hf st hg
    subst hP hw hK
    obtain ⟨hz, hTI, ⟨x0, y0, hTO⟩, h1, h2⟩ := st
    obtain ⟨xs, ys, hqx, hqy, l1, l2, hend⟩ := hg
    obtain ⟨its, rv, p⟩ := sq_its I hqx
    obtain ⟨its2, rv2, p2⟩ := sq_its I hqy
    have e1 : its.toArray.size = xs.length := by rw [List.size_toArray]; exact rv.length.symm
    have e2 : its2.toArray.size = ys.length := by rw [List.size_toArray]; exact rv2.length.symm
    exact wpAny_pyNext_zipD2_end D (sq_draws (A := X.A.in1) (I.ok.hd hc) t i1 a ha its.toArray) (sq_draws (A := X.A.in1) (I.ok.hd hc) u i2 b hb its2.toArray) hz hTI hTO ⟨h1, p⟩ ⟨h2, p2⟩ (by omega) (by omega) (by omega)
      fun h' tk hk => ⟨rfl, I.turnedL (t' := tk) (ch := [z, TI, TO, i1, i2]) (fun c o hb q =>
      hk c o (fun q' => hb (by simp [q'])) (fun q' => hb (by simp [q'])) (fun q' => hb (by simp [q'])) (fun q' => hb (by simp [q'])) q) hf⟩
  self := fun A i s Q E st h => wpAny_pyIter_zip st.1 h
def iZipS (K : PySem.W.Frag) (ta : TA) : TI := fun σ H R => ta σ H fun vs H1 => ∃ t u a b xs ys, vs = [.ref a, .ref b] ∧ Sq t K H1 a xs ∧ Sq u K H1 b ys ∧ R (ItzS t u K a b) H1
theorem pi_zipS {X : Cx} {e e2 : Expr} {ta : TA} {p pos tpos : Pos} {elts : List Expr} {kk : Nat} (hg : Gl X "zip") (hm : X.mg "zip" = none) (ha : PA X [e, e2] ta)
    (hs : starEach [e, e2] X.env = (false, eval e X.env) :: starEach [e2] X.env) (hpl : (backTo pos (starEach [e2] X.env)).any (·.1) = false) :
    PI X (.Tuple elts kk tpos) (.Call (.Name "zip" p) [e, e2] [] pos) (iZipS X.K ta) := by
  refine ⟨fun pins s σ H R I h => ?_⟩
  refine Call_ (ld_blt I hg hm PyProof.Rows.boot_zip (PyProof.Rows.callWith_type1 (thn (ha.run pos pins s σ H _ I h) fun us s1 ⟨vs, H1, I1, r1, q1⟩ => ?_) hs hpl))
  obtain ⟨t, u, a, b, xs, ys, ex, hqx, hqy, q⟩ := q1
  subst ex
  cases r1 with
  | cons r rr =>
    cases rr with
    | cons r' rr =>
      cases rr
      cases r
      cases r'
      obtain ⟨its, rv, p1⟩ := sq_its I1 hqx
      obtain ⟨its2, rv2, p2⟩ := sq_its I1 hqy
      have la := p1.lt
      have lb := p2.lt
      refine zip_begins2 (sq_begins t a its.toArray) (sq_begins u b its2.toArray) p1 p2 fun h' hz hTI hTO h1 h2 hsz hk => wpAny_pyIter_zip hz ?_
      have I2 : L2.Inv X pins σ H1 { s1 with heap := h' } := I1.kept (t' := s1.toks) hk
      refine ⟨s1.heap.objs.size + 4, [s1.heap.objs.size + 4, s1.heap.objs.size + 2, s1.heap.objs.size + 3, s1.heap.objs.size, s1.heap.objs.size + 1], _, _, H1, rfl, I2,
        turn_zipS (zip_sep2 (fp1 := [a]) (fp2 := [b]) (by simpa using la) (by simpa using lb)) (Nat.ne_of_lt la) (Nat.ne_of_lt (Nat.lt_succ_of_lt lb)), ⟨hz, hTI, ⟨_, _, hTO⟩, .of h1, .of h2⟩, fun c hcm => ?_, q⟩
      have e' : c = s1.heap.objs.size + 4 ∨ c = s1.heap.objs.size + 2 ∨ c = s1.heap.objs.size + 3 ∨ c = s1.heap.objs.size ∨ c = s1.heap.objs.size + 1 := by simpa using hcm
      have hle : s1.heap.objs.size ≤ c := by
        rcases e' with z | z | z | z | z
        · rw [z]; exact Nat.le_add_right _ _
        · rw [z]; exact Nat.le_add_right _ _
        · rw [z]; exact Nat.le_add_right _ _
        · rw [z]; exact Nat.le_refl _
        · rw [z]; exact Nat.le_add_right _ _
      exact I1.fpOk hle (I1.hok.fresh hle)

/-! ### the walks' turns -/
theorem walk_enumS {t : Bool} {k : Int} {K : PySem.W.Frag} {a : Addr} {xs : List V} : Walk (IteS t k K a) xs.length (fun H => Sq t K H a xs) (YPair (fun i => some (.int (k + (i : Nat)))) (fun i => xs[i]?)) := by
  refine ⟨fun i _ hi q => ⟨xs, xs[i], q, by simp [hi]⟩, fun _ q => ⟨xs, q, rfl⟩, fun i H v H' _ q y => ?_⟩
  obtain ⟨T, x, h1, h2, h3, h4⟩ := y
  exact ⟨T, .int (k + (i : Nat)), x, h1, h2, h3, rfl, h4 xs q⟩
theorem walk_zipS {t u : Bool} {K : PySem.W.Frag} {a b : Addr} {xs ys : List V} {n : Nat} (hn : n = min xs.length ys.length) : Walk (ItzS t u K a b) n (fun H => Sq t K H a xs ∧ Sq u K H b ys) (YPair (fun i => xs[i]?) (fun i => ys[i]?)) := by
  subst hn
  refine ⟨fun i _ hi q => ?_, fun _ q => ⟨xs, ys, q.1, q.2, by omega, by omega, by omega⟩, fun i H v H' _ q y => ?_⟩
  · have h1 : i < xs.length := by omega
    have h2 : i < ys.length := by omega
    exact ⟨xs, ys, xs[i], ys[i], q.1, q.2, by simp [h1], by simp [h2]⟩
  · obtain ⟨T, x, z, h1, h2, h3, h4, h5⟩ := y
    exact ⟨T, x, z, h1, h2, h3, h4 xs q.1, h5 ys q.2⟩
/-- a list or a tuple walked -/
def iSeq (K : PySem.W.Frag) (tl : TE) : TI := fun σ H R => tl σ H fun x H1 => ∃ a, x = .ref a ∧ ((∃ xs, SqL K H1 a xs ∧ R (Itl K a) H1) ∨ ∃ xs, SqT K H1 a xs ∧ R (Itt K a) H1)
theorem pi_seq {X : Cx} {tg l : Expr} {tl : TE} (hl : PE X l tl) : PI X tg l (iSeq X.K tl) := by
  refine ⟨fun pins s σ H R I h => ?_⟩
  refine thn (hl.run pins s σ H _ I h) fun v s1 ⟨x, H1, I1, r1, q1⟩ => ?_
  obtain ⟨a, e, q⟩ := q1
  subst e
  cases r1
  rcases q with ⟨xs, hq, q⟩ | ⟨xs, hq, q⟩
  · obtain ⟨its, rv, p, hz⟩ := I1.list hq
    refine wpAny_pyIter_list p.isList ?_
    refine ⟨s1.heap.objs.size, [s1.heap.objs.size], _, _, H1, rfl, I1.kept (t' := s1.toks) fun b o e => Heap.get?_push_of_some _ e, turn_list a _, ⟨_, Heap.get?_push_size _ rfl, rfl, rfl⟩, fun b hb => ?_, q⟩
    have e : b = s1.heap.objs.size := by simpa using hb
    subst e
    exact I1.fpOk (Nat.le_refl _) (I1.hok.fresh (Nat.le_refl _))
  · obtain ⟨its, rv, p, hz⟩ := I1.tuple hq
    refine wpAny_pyIter_tuple (show s1.heap.IsTuple a its.toArray from p) ?_
    refine ⟨s1.heap.objs.size, [s1.heap.objs.size], _, _, H1, rfl, I1.kept (t' := s1.toks) fun b o e => Heap.get?_push_of_some _ e, turn_tuple a _, ⟨_, Heap.get?_push_size _ rfl, rfl, rfl⟩, fun b hb => ?_, q⟩
    have e : b = s1.heap.objs.size := by simpa using hb
    subst e
    exact I1.fpOk (Nat.le_refl _) (I1.hok.fresh (Nat.le_refl _))
end T

set_option Elab.async false
set_option linter.all false
set_option maxRecDepth 100000
set_option maxHeartbeats 1000000
/-! A text and its code. -/
namespace T
open PySem PySem.Spec PyProof.Rows L2

structure Ctx where
  N : List Str
  sc : Scope
  fnb : Str → Bool
  nm : Nat → Str
  kw : Nat → List (Nat × List Str × List Nat)
  gls : List (Str × D)
  bls : List Str

def Ctx.vis (C : Ctx) (x : Str) : Bool := match C.sc.names.lookup x with
  | some .local => true
  | some .cell => true
  | some .free => true
  | _ => false
def Ctx.loc (C : Ctx) (x : Str) : Bool := match C.sc.names.lookup x with
  | some .local => true
  | some .cell => C.fnb x
  | _ => false
def Ctx.glob (C : Ctx) (x : Str) : Bool := (match C.sc.names.lookup x with
  | some .globalImplicit => true
  | _ => false) && !(x == ("__debug__" : Str))
def Ctx.blt (C : Ctx) (x : Str) : Bool := C.glob x && decide (x ∈ C.bls)
def Ctx.isVar (C : Ctx) (i : Nat) (x : Str) : Bool := decide (C.N[i]? = some x) && C.vis x && !(x == ("__debug__" : Str)) && !(x == ("__classdict__" : Str))
def sEq : D → D → Bool
  | .int i, .int j => decide (i = j)
  | .str x, .str y => decide (x = y)
  | _, _ => false
theorem sEq_eq {d e : D} (h : sEq d e = true) : d = e := by
  unfold sEq at h
  split at h
  · rw [of_decide_eq_true h]
  · rw [of_decide_eq_true h]
  · cases h
def noStar : Expr → Bool
  | .Starred .. => false
  | _ => true
def noSet : Expr → Bool
  | .Set .. => false
  | _ => true
def noSlice : Expr → Bool
  | .Slice .. => false
  | _ => true
def plainT : Expr → Bool
  | .UnaryOp .Not _ _ => false
  | .BoolOp .. => false
  | .IfExp .. => false
  | .Compare .. => false
  | _ => true
def noSuper : Expr → Bool
  | .Call .. => false
  | _ => true
def chkTys (C : Ctx) : List Ty → List Expr → Bool
  | [], [] => true
  | t :: ts, .Name x _ :: es => decide (x = Str.ofString t.nm) && C.blt x && chkTys C ts es
  | _, _ => false
def chkX (C : Ctx) : Tg → Expr ⊕ List Expr → Bool
  | .nm i, x0 => match x0 with
    | .inl (.Name x _) => decide (C.N[i]? = some x) && C.loc x
    | _ => false
  | .tp l, x0 => match x0 with
    | .inl (.Tuple es _ _) => chkX C l (.inr es)
    | _ => false
  | .nil, x0 => match x0 with
    | .inr [] => true
    | _ => false
  | .cons a b, x0 => match x0 with
    | .inr (e :: es) => noStar e && chkX C a (.inl e) && chkX C b (.inr es)
    | _ => false
def chkG (C : Ctx) (t : Tg) (e : Expr) : Bool := chkX C t (.inl e)
def Tg.slots : Tg → List Nat
  | .nm i => [i]
  | .tp l => l.slots
  | .nil => []
  | .cons a b => a.slots ++ b.slots
def Ctx.blk (C : Ctx) (scope : Scope) : Ctx := { C with sc := relS scope C.sc, fnb := fun x => scope.names.lookup x == some .cell }
def isYes : E → Bool
  | .yes => true
  | _ => false
def ownOf (N : List Str) (own : List Nat) : List (Str × Nat) := own.map fun i => (N.getD i Str.empty, i)

mutual
def chkE : E → Ctx → Expr → Bool
  | .var i, C, x0 => match x0 with
    | .Name x _ => C.isVar i x
    | _ => false
  | .non, C, x0 => match x0 with
    | .Constant .none _ _ => true
    | _ => false
  | .bl b, C, x0 => match x0 with
    | .Constant (.bool b') _ _ => b == b'
    | _ => false
  | .int i, C, x0 => match x0 with
    | .Constant (.int j) _ _ => decide (i = j)
    | _ => false
  | .str x, C, x0 => match x0 with
    | .Constant (.str y) _ _ => decide (x = y)
    | _ => false
  | .gl x d, C, x0 => match x0 with
    | .Name y _ => decide (x = y) && C.glob y && C.gls.any fun p => decide (p.1 = y) && sEq p.2 d
    | _ => false
  | .bin op a b, C, x0 => match x0 with
    | .BinOp ea o eb _ => decide (o = op.op) && chkE a C ea && chkE b C eb
    | _ => false
  | .neg a, C, x0 => match x0 with
    | .UnaryOp .USub ea _ => chkE a C ea
    | _ => false
  | .nt a, C, x0 => match x0 with
    | .UnaryOp .Not ea _ => chkE a C ea
    | _ => false
  | .andE a b, C, x0 => match x0 with
    | .BoolOp .And [x, y] _ => chkE a C x && chkE b C y
    | .BoolOp .And (x :: y :: z :: r) p => chkE a C x && chkE b C (.BoolOp .And (y :: z :: r) p)
    | _ => false
  | .orE a b, C, x0 => match x0 with
    | .BoolOp .Or [x, y] _ => chkE a C x && chkE b C y
    | .BoolOp .Or (x :: y :: z :: r) p => chkE a C x && chkE b C (.BoolOp .Or (y :: z :: r) p)
    | _ => false
  | .ite t a b, C, x0 => match x0 with
    | .IfExp et ea eb _ => chkT t C et && chkE a C ea && chkE b C eb
    | _ => false
  | .cmp op a b, C, x0 => match x0 with
    | .Compare ea [o] [eb] _ => decide (o = op.op) && noSet eb && chkE a C ea && chkE b C eb
    | _ => false
  | .chain o1 o2 a b c, C, x0 => match x0 with
    | .Compare ea [p1, p2] [eb, ec] _ => decide (p1 = o1.op) && decide (p2 = o2.op) && noSet ec && chkE a C ea && chkE b C eb && chkE c C ec
    | _ => false
  | .tupE args, C, x0 => match x0 with
    | .Tuple es _ _ => chkA args C es
    | _ => false
  | .lstE args, C, x0 => match x0 with
    | .List es _ => chkA args C es
    | _ => false
  | .sl a lo hi, C, x0 => match x0 with
    | .Subscript ea (.Slice l h none _) _ => chkE a C ea &&
      (match l with
        | none => isNopart lo
        | some x => !isNopart lo && chkE lo C x) &&
      (match h with
        | none => isNopart hi
        | some x => !isNopart hi && chkE hi C x)
    | _ => false
  | .rvs a, C, x0 => match x0 with
    | .Subscript ea (.Slice none none (some (.UnaryOp .USub (.Constant (.int 1) _ _) _)) _) _ => chkE a C ea
    | _ => false
  | .ix a b, C, x0 => match x0 with
    | .Subscript ea eb _ => noSlice eb && chkE a C ea && chkE b C eb
    | _ => false
  | .isi a one ts, C, x0 => match one, ts, x0 with
    | true, [t], .Call (.Name x _) [ea, .Name y _] [] _ => decide (x = ("isinstance" : Str)) && C.blt x && noStar ea && chkE a C ea && decide (y = Str.ofString t.nm) && C.blt y
    | false, ts, .Call (.Name x _) [ea, .Tuple es _ _] [] _ => decide (x = ("isinstance" : Str)) && C.blt x && noStar ea && chkE a C ea && chkTys C ts es && decide (ts.length ≤ 100)
    | _, _, _ => false
  | .call f args, C, x0 => match x0 with
    | .Call (.Name x _) (e :: es) [] _ => decide (x = C.nm f) && C.glob x && chkA args C (e :: es)
    | _ => false
  | .callK f args kws ks pm, C, x0 => match x0 with
    | .Call (.Name x _) es (w :: kws') _ => decide (x = C.nm f) && C.glob x && chkA args C es && chkK kws C (w :: kws') && decide ((w :: kws').filterMap Keyword.arg = ks) && decide ((es.length, ks, pm) ∈ C.kw f)
    | _ => false
  | .bi b args, C, x0 => match x0 with
    | .Call (.Name x _) (e :: es) [] _ => decide (x = b.nm) && C.blt x && chkA args C (e :: es)
    | _ => false
  | .mth m a args, C, x0 => match x0 with
    | .Call (.Attribute ea x p0) (e :: es) [] p1 => (p0.endLine == p1.line) && decide (x = ("index" : Str)) && noSuper ea && chkE a C ea && chkA args C (e :: es) && decide (es.length < 20)
    | _ => false
  | .lc own elt tg it cond, C, x0 => match x0 with
    | .ListComp eelt [⟨etg, eit, ifs, 0⟩] scope _ => blkC C.N C.sc scope (ownOf C.N own) && noSet eit && chkI it C eit etg && chkG (C.blk scope) tg etg && tg.slots.all (fun i => own.contains i) &&
      (match ifs with
        | [] => isYes cond
        | [t] => !isYes cond && chkT cond (C.blk scope) t
        | _ => false) && chkE elt (C.blk scope) eelt
    | _ => false
  | _, _, _ => false
def chkT : E → Ctx → Expr → Bool
  | .nt a, C, x0 => match x0 with
    | .UnaryOp .Not ea _ => chkT a C ea
    | _ => false
  | .andE a b, C, x0 => match x0 with
    | .BoolOp .And [x, y] _ => chkT a C x && chkT b C y
    | .BoolOp .And (x :: y :: z :: r) p => chkT a C x && chkT b C (.BoolOp .And (y :: z :: r) p)
    | _ => false
  | .orE a b, C, x0 => match x0 with
    | .BoolOp .Or [x, y] _ => chkT a C x && chkT b C y
    | .BoolOp .Or (x :: y :: z :: r) p => chkT a C x && chkT b C (.BoolOp .Or (y :: z :: r) p)
    | _ => false
  | .cmp op a b, C, x0 => match x0 with
    | .Compare ea [o] [eb] _ => decide (o = op.op) && noSet eb && chkE a C ea && chkE b C eb
    | _ => false
  | .chain o1 o2 a b c, C, x0 => match x0 with
    | .Compare ea [p1, p2] [eb, ec] _ => decide (p1 = o1.op) && decide (p2 = o2.op) && noSet ec && chkE a C ea && chkE b C eb && chkE c C ec
    | _ => false
  | .val a, C, e => plainT e && chkE a C e
  | .tru a, C, e => plainT e && chkE a C e
  | _, _, _ => false
def chkA : E → Ctx → List Expr → Bool
  | .nil, C, x0 => match x0 with
    | [] => true
    | _ => false
  | .cons a b, C, x0 => match x0 with
    | e :: es => noStar e && chkE a C e && chkA b C es
    | _ => false
  | _, _, _ => false
def chkK : E → Ctx → List Keyword → Bool
  | .nil, C, x0 => match x0 with
    | [] => true
    | _ => false
  | .cons a b, C, x0 => match x0 with
    | w :: ws => w.arg.isSome && chkE a C w.value && chkK b C ws
    | _ => false
  | _, _, _ => false
def chkI : E → Ctx → Expr → Expr → Bool
  | .seq a, C, e, _ => noSet e && chkE a C e
  | .range1 a, C, x0, x1 => match x0, x1 with
    | .Call (.Name x _) [ea] [] _, _ => decide (x = ("range" : Str)) && C.blt x && noStar ea && chkE a C ea
    | _, _ => false
  | .range2 a b, C, x0, x1 => match x0, x1 with
    | .Call (.Name x _) [ea, eb] [] _, _ => decide (x = ("range" : Str)) && C.blt x && noStar ea && noStar eb && chkE a C ea && chkE b C eb
    | _, _ => false
  | .enum a, C, x0, x1 => match x0, x1 with
    | .Call (.Name x _) [ea] [] _, .Tuple .. => decide (x = ("enumerate" : Str)) && C.blt x && noStar ea && chkE a C ea
    | _, _ => false
  | .zip a b, C, x0, x1 => match x0, x1 with
    | .Call (.Name x _) [ea, eb] [] _, .Tuple .. => decide (x = ("zip" : Str)) && C.blt x && noStar ea && noStar eb && chkE a C ea && chkE b C eb
    | _, _ => false
  | _, _, _, _ => false
end

def locB (C : Ctx) (x : Str) : Bool := match C.sc.names.lookup x with
  | some .local => true
  | _ => false
def cellB (C : Ctx) (x : Str) : Bool := match C.sc.names.lookup x with
  | some .cell => true
  | _ => false
def noComp : Expr → Bool
  | .ListComp .. => false
  | .SetComp .. => false
  | .DictComp .. => false
  | _ => true
def isTup : Expr → Bool
  | .Tuple .. => true
  | _ => false
def foldT : Expr → Bool
  | .Tuple vs _ _ => vs.all (foldedForSure 8)
  | _ => false
def isLc : E → Bool
  | .lc .. => true
  | _ => false
/-- x = value: the value a comprehension, stored within its frame or not; or another value -/
def chkV (C : Ctx) (x : Str) (px : Pos) (e : E) (v : Expr) : Bool := match v with
  | .ListComp _ _ scope p => isLc e && ((locB C x && decide (C.sc.kind = .function) && (px.line == p.line) && !(scope.names.any fun (n, k) => n == x && (k == .local || k == .cell))) || cellB C x)
  | .SetComp .. => false
  | .DictComp .. => false
  | _ => true
/-- a tuple's items stored at once: (two or three local names) from the right; or by the tuple -/
def chkIs (C : Ctx) : List Nat → List Expr → Bool
  | [], [] => true
  | i :: is, .Name x _ :: es => decide (C.N[i]? = some x) && C.loc x && chkIs C is es
  | _, _ => false
def swapOk (C : Ctx) (ts vs : List Expr) : Bool := match ts, vs with
  | [.Name x px, .Name y py], [a, b] => locB C x && locB C y && (py.line == px.line) && !(x == y) && noStar a && noStar b && !([a, b].all (foldedForSure 8)) && !([a, b].all (constantsAlone 8)) && decide (C.sc.kind = .function)
  | [.Name x px, .Name y py, .Name z pz], [a, b, c] => locB C x && locB C y && locB C z && (py.line == px.line) && (pz.line == px.line) && !(x == y) && !(x == z) && !(y == z) && noStar a && noStar b && noStar c && !([a, b, c].all (foldedForSure 8)) && !([a, b, c].all (constantsAlone 8)) && decide (C.sc.kind = .function)
  | _, _ => false
def isCellN (C : Ctx) : Expr → Bool
  | .Name x _ => cellB C x
  | _ => true
def noSwap (C : Ctx) (ts vs : List Expr) : Bool := (decide (4 ≤ ts.length) || ts.any (isCellN C)) && decide (ts.length ≤ 100)

mutual
def chkS : S → Ctx → Stmt → Bool
  | .pass, _, st => match st with
    | .Pass _ => true
    | _ => false
  | .brk, _, st => match st with
    | .Break _ => true
    | _ => false
  | .cont, _, st => match st with
    | .Continue _ => true
    | _ => false
  | .asg i e, C, st => match st with
    | .Assign [.Name x px] v _ => decide (C.N[i]? = some x) && C.loc x && chkV C x px e v && chkE e C v
    | _ => false
  | .par is es, C, st => match st with
    | .Assign [.Tuple ts _ _] (.Tuple vs _ _) _ => chkIs C is ts && decide (is.Nodup) && chkA es C vs && (swapOk C ts vs || noSwap C ts vs)
    | _ => false
  | .unp tg e, C, st => match st with
    | .Assign [.Tuple ts k p] v _ => noComp v && (!(isTup v) || foldT v || ts.any (isCellN C)) && chkG C tg (.Tuple ts k p) && chkE e C v
    | _ => false
  | .drop e, C, st => match st with
    | .Expr v _ => noComp v && chkE e C v
    | _ => false
  | .aug i op e, C, st => match st with
    | .AugAssign (.Name x _) o v _ => decide (C.N[i]? = some x) && C.loc x && decide (o = op.op) && chkE e C v
    | _ => false
  | .setI x i e, C, st => match st with
    | .Assign [.Subscript (.Name xn _) ei _] v _ => C.isVar x xn && noSlice ei && chkE i C ei && noComp v && chkE e C v
    | _ => false
  | .augI _ _ _ _, _, _ => false
  | .app x e, C, st => match st with
    | .Expr (.Call (.Attribute (.Name xn _) nm p0) [ee] [] p1) _ => C.isVar x xn && decide (nm = ("append" : Str)) && noStar ee && (p0.endLine == p1.line) && chkE e C ee
    | _ => false
  | .ext x e, C, st => match st with
    | .Expr (.Call (.Attribute (.Name xn _) nm p0) [ee] [] p1) _ => C.isVar x xn && decide (nm = ("extend" : Str)) && noStar ee && (p0.endLine == p1.line) && chkE e C ee
    | _ => false
  | .ret e, C, st => match st with
    | .Return (some v) _ => chkE e C v
    | _ => false
  | .retN, _, st => match st with
    | .Return none _ => true
    | _ => false
  | .ifS t a b, C, st => match st with
    | .If et ba bb _ => chkT t C et && chkB a C ba && chkB b C bb
    | _ => false
  | .forS tg it body, C, st => match st with
    | .For etg eit sb [] _ => noSet eit && chkI it C eit etg && chkG C tg etg && chkB body C sb
    | _ => false
  | .whl t body, C, st => match st with
    | .While et sb [] _ => chkT t C et && chkB body C sb
    | _ => false
  | .never, _, _ => true
  | .fga _ s, C, st => chkS s C st
  | .nil, _, _ => false
  | .cons _ _, _, _ => false
def chkB : S → Ctx → List Stmt → Bool
  | .nil, _, sts => match sts with
    | [] => true
    | _ => false
  | .cons a b, C, sts => match sts with
    | st :: sts => chkS a C st && chkB b C sts
    | _ => false
  | .never, _, _ => true
  | _, _, _ => false
end
end T

set_option Elab.async false
set_option linter.all false
set_option maxRecDepth 100000
set_option maxHeartbeats 1000000
/-! What a code's reading is; the simple rules. -/
namespace T
open PySem PySem.Spec PyProof.Rows L2

structure Good (Γ : Nat → Option Fn) (C : Ctx) (P : Par) (k : Nat) (X : Cx) : Prop where
  kp : P.K = X.K
  calm : X.calm = true
  N : X.N = C.N
  nd : C.N.Nodup
  sc : X.env.scope = C.sc
  fnb : ∀ x, C.fnb x = true → X.fn x = true
  room : RoomG k X.A
  xe : X.xe = fun _ _ => False
  defs : ∀ i f, Γ i = some f → DefOk X.prog X.w X.K X.mg X.base k (C.nm i) (C.kw i) f
  gl : ∀ x d, (x, d) ∈ C.gls → ∃ u v, X.mg x = some u ∧ RelV v u ∧ ∀ F, Dq X.K F v d
  bl : ∀ x, x ∈ C.bls → X.mg x = none

def tcB : BV → Option Cell
  | .slot _ => none
  | .dt x => some ⟨.fz, x⟩
  | .fr x => some ⟨.own, x⟩
def SlotAt (σ : L2.St) (v : V) (b : BV) : Prop := ∀ i, b = .slot i → σ[i]? = some (some v)
section
variable (P : Par) (Γ : Nat → Option Fn)
def tE (e : E) : TE := fun σ H Q => ∃ F c T τ r c', Mt P F (c ++ T) (σ ++ τ) H ∧ c.length = σ.length ∧ ev Γ e c = .ok r c' ∧
  ∀ v H' F', Mt P F' ((c' ++ T) ++ [tcB r]) ((σ ++ τ) ++ [some v]) H' → c'.length = σ.length → SlotAt σ v r → Q v H'
def tT (e : E) : TT := fun σ H Q => ∃ F c T τ r c' b, Mt P F (c ++ T) (σ ++ τ) H ∧ c.length = σ.length ∧ ev Γ e c = .ok r c' ∧ r.rd c' = some (.bl b) ∧
  ∀ H' F', Mt P F' (c' ++ T) (σ ++ τ) H' → c'.length = σ.length → Q b H'
def tA (e : E) : TA := fun σ H Q => ∃ F c T τ bs c', Mt P F (c ++ T) (σ ++ τ) H ∧ c.length = σ.length ∧ evs Γ e c = .ok bs c' ∧
  ∀ vs H' F', Mt P F' ((c' ++ T) ++ bs.map tcB) ((σ ++ τ) ++ vs.map some) H' → c'.length = σ.length → Paired (SlotAt σ) vs bs → Q vs H'
/-- what an iterator supplies: the items xs -/
structure Supply (K : PySem.W.Frag) (F0 : Hp) (J : It) (xs : List D) : Prop where
  go : ∀ i F H, i < xs.length → Le F0 F → Le F H → J.go i H
  stop : ∀ F H, Le F0 F → Le F H → J.stop xs.length H
  yld : ∀ i F H v H', i < xs.length → Le F0 F → Le F H → J.yld i H v H' → ∃ d, xs[i]? = some d ∧ New K F H false d v H'
def tI (e : E) : TI := fun σ H R => ∃ F c T τ xs c', Mt P F (c ++ T) (σ ++ τ) H ∧ c.length = σ.length ∧ evi Γ e c = .ok xs c' ∧
  ∀ J H' F', Mt P F' (c' ++ T) (σ ++ τ) H' → c'.length = σ.length → Supply P.K F' J xs → R J H'
end
theorem _root_.L2.PE.imp {X : Cx} {e : Expr} {t t' : TE} (h : PE X e t) (i : ∀ σ H Q, t' σ H Q → t σ H Q) : PE X e t' := ⟨fun pins s σ H Q I q => h.run pins s σ H Q I (i σ H Q q)⟩
theorem _root_.L2.PT.imp {X : Cx} {e : Expr} {t t' : TT} (h : PT X e t) (i : ∀ σ H Q, t' σ H Q → t σ H Q) : PT X e t' := ⟨fun pins s σ H Q I q => h.run pins s σ H Q I (i σ H Q q)⟩
theorem _root_.L2.PA.imp {X : Cx} {e : List Expr} {t t' : TA} (h : PA X e t) (i : ∀ σ H Q, t' σ H Q → t σ H Q) : PA X e t' := ⟨fun p pins s σ H Q I q => h.run p pins s σ H Q I (i σ H Q q)⟩
theorem _root_.L2.PI.imp {X : Cx} {tg e : Expr} {t t' : TI} (h : PI X tg e t) (i : ∀ σ H Q, t' σ H Q → t σ H Q) : PI X tg e t' := ⟨fun pins s σ H Q I q => h.run pins s σ H Q I (i σ H Q q)⟩
theorem _root_.L2.PO.imp {X : Cx} {e : Option Expr} {t t' : TO} (h : PO X e t) (i : ∀ σ H Q, t' σ H Q → t σ H Q) : PO X e t' := ⟨fun pins s σ H Q I q => h.run pins s σ H Q I (i σ H Q q)⟩

/-! ### the evaluator, inverted -/
theorem bind_ok {α β : Type} {r : Res α} {f : α → Env → Res β} {b : β} {c' : Env} (h : r.bind f = .ok b c') : ∃ a c, r = .ok a c ∧ f a c = .ok b c' := by
  cases r with
  | ok a c => exact ⟨a, c, rfl, h⟩
  | ex x c => cases h
  | no => cases h
theorem opt_ok {α : Type} {o : Option α} {c c' : Env} {a : α} (h : Res.opt o c = .ok a c') : o = some a ∧ c' = c := by
  cases o with
  | none => cases h
  | some x => cases h; exact ⟨rfl, rfl⟩
theorem obind_some {α β : Type} {o : Option α} {f : α → Option β} {b : β} (h : o.bind f = some b) : ∃ a, o = some a ∧ f a = some b := by
  cases o with
  | none => cases h
  | some a => exact ⟨a, rfl, h⟩
theorem omap_some {α β : Type} {o : Option α} {f : α → β} {b : β} (h : o.map f = some b) : ∃ a, o = some a ∧ f a = b := by
  cases o with
  | none => cases h
  | some a => exact ⟨a, rfl, Option.some.inj h⟩

section
variable {P : Par} {F H : Hp} {c T A B U : Env} {σ τ α β υ : L2.St}
theorem Mt.tl (M : Mt P F (c ++ T) (σ ++ τ) H) (hl : c.length = σ.length) : T.length = τ.length := by
  have := M.len
  simp only [List.length_append] at this
  omega
/-- what a value among the further places stands for -/
theorem Mt.rdSh {r : BV} {v : V} {d : D} (M : Mt P F (A ++ tcB r :: B) (α ++ some v :: β) H) (hA : A.length = α.length) (eA : A = c ++ U) (eα : α = σ ++ υ) (hl : c.length = σ.length)
    (hs : SlotAt σ v r) (h : r.rd c = some d) : Sh P.K F H v d := by
  have at0 : (α ++ some v :: β)[A.length]? = some (some v) := by rw [hA, List.getElem?_append_right (Nat.le_refl _), Nat.sub_self]; rfl
  have ct : ∀ x, tcB r = some x → Env.cell (A ++ tcB r :: B) A.length = some x := fun x e => by
    rw [show A.length = A.length + 0 from rfl, cell_right, e]; rfl
  cases r with
  | slot i =>
    obtain ⟨x, hx, rfl⟩ := omap_some h
    have hv := hs i rfl
    have hi : i < σ.length := by rw [← hl]; exact cell_lt hx
    subst eA eα
    refine M.sh (i := i) ?_ ?_
    · exact cell_left' (cell_left' hx)
    · rw [List.getElem?_append_left (by rw [List.length_append]; omega), List.getElem?_append_left hi]; exact hv
  | dt x =>
    cases h
    exact M.sh (ct _ rfl) at0
  | fr x =>
    cases h
    exact M.sh (ct _ rfl) at0
theorem SlotAt.dt {v : V} {x : D} : SlotAt σ v (.dt x) := fun _ z => by cases z
theorem SlotAt.fr {v : V} {x : D} : SlotAt σ v (.fr x) := fun _ z => by cases z
theorem SlotAt.bv {v : V} {p : Bool × D} : SlotAt σ v (bvOf p) := by
  unfold bvOf; split
  · exact .fr
  · exact .dt
theorem tcB_bvOf (p : Bool × D) : tcB (bvOf p) = some (tmpCell p) := by
  obtain ⟨fr, d⟩ := p
  cases fr <;> rfl
/-- an operation behind its operands -/
theorem Mt.gives {p : Bool × D} {Q : VK} (M : Mt P F ((c ++ T) ++ U) ((σ ++ τ) ++ υ) H) (hl : (c ++ T).length = (σ ++ τ).length)
    (h : ∀ v H' F', Mt P F' ((c ++ T) ++ [tcB (bvOf p)]) ((σ ++ τ) ++ [some v]) H' → Q v H') : Gives P.K F H p Q := fun v H' n => by
  obtain ⟨F', _, M'⟩ := (M.take hl).new n
  refine h v H' F' ?_
  rw [tcB_bvOf]
  exact M'
theorem Mt.oldv {v : V} {d : D} {Q : VK} (M : Mt P F ((c ++ T) ++ U) ((σ ++ τ) ++ υ) H) (hl : (c ++ T).length = (σ ++ τ).length)
    (h : ∀ v H' F', Mt P F' ((c ++ T) ++ [tcB (.dt d)]) ((σ ++ τ) ++ [some v]) H' → Q v H') (x : Dq P.K F v d) : Q v H := h v H F ((M.take hl).pushF x)
/-- a value goes elsewhere: its cell among the further places -/
theorem esc_sound {b : BV} {v : V} {d : D} {c' : Env} (M : Mt P F (c ++ (A ++ tcB b :: B)) (σ ++ (α ++ some v :: β)) H) (hl : c.length = σ.length) (hA : A.length = α.length)
    (hs : SlotAt σ v b) (h : b.esc c = .ok d c') : ∃ F' x, Le F F' ∧ Mt P F' (c' ++ (A ++ x :: B)) (σ ++ (α ++ some v :: β)) H ∧ Dq P.K F' v d ∧ c'.length = c.length := by
  have hcl : (c ++ A).length = (σ ++ α).length := by rw [List.length_append, List.length_append]; omega
  have at0 : (σ ++ (α ++ some v :: β))[(c ++ A).length]? = some (some v) := by
    rw [← List.append_assoc, hcl, List.getElem?_append_right (Nat.le_refl _), Nat.sub_self]; rfl
  have ct : ∀ x, tcB b = some x → Env.cell (c ++ (A ++ tcB b :: B)) (c ++ A).length = some x := fun x e => by
    rw [← List.append_assoc, show (c ++ A).length = (c ++ A).length + 0 from rfl, cell_right, e]; rfl
  cases b with
  | slot i =>
    unfold BV.esc at h
    simp only at h
    split at h
    · rename_i d' hc
      cases h
      have hi := cell_lt hc
      obtain ⟨F', le, M'⟩ := M.freeze (i := i) (cell_left' hc)
      have hset : (c ++ (A ++ tcB (.slot i) :: B)).set i (some ⟨.fz, d⟩) = c.set i (some ⟨.fz, d⟩) ++ (A ++ tcB (.slot i) :: B) := by rw [List.set_append_left _ _ hi]
      rw [hset] at M'
      refine ⟨F', _, le, M', ?_, by rw [List.length_set]⟩
      obtain ⟨w, hw, hc'⟩ := M'.cell i ⟨.fz, d⟩ (cell_left' (cell_set_self hi))
      rw [List.getElem?_append_left (by omega), hs i rfl] at hw
      cases hw
      exact hc'
    · cases h
  | dt x =>
    cases h
    obtain ⟨w, hw, hc'⟩ := M.cell _ ⟨.fz, d⟩ (ct _ rfl)
    rw [at0] at hw; cases hw
    exact ⟨F, _, Le.refl F, M, hc', rfl⟩
  | fr x =>
    cases h
    obtain ⟨F', le, M'⟩ := M.freeze (i := (c ++ A).length) (ct ⟨.own, d⟩ rfl)
    have hset : (c ++ (A ++ tcB (.fr d) :: B)).set (c ++ A).length (some ⟨.fz, d⟩) = c ++ (A ++ some ⟨.fz, d⟩ :: B) := by
      rw [← List.append_assoc, ← List.append_assoc, List.set_append_right _ _ (Nat.le_refl _), Nat.sub_self]; rfl
    rw [hset] at M'
    refine ⟨F', _, le, M', ?_, rfl⟩
    obtain ⟨w, hw, hc'⟩ := M'.cell (c ++ A).length ⟨.fz, d⟩ (by rw [← List.append_assoc, show (c ++ A).length = (c ++ A).length + 0 from rfl, cell_right]; rfl)
    rw [at0] at hw; cases hw
    exact hc'
theorem escAll_sound : ∀ {bs : List BV} {vs : List V} {ds : List D} {c c' T : Env} {τ : L2.St} {F : Hp}, Mt P F ((c ++ T) ++ bs.map tcB) ((σ ++ τ) ++ vs.map some) H → c.length = σ.length → Paired (SlotAt σ) vs bs → escAll bs c = .ok ds c' →
    ∃ F', Le F F' ∧ Mt P F' (c' ++ T) (σ ++ τ) H ∧ DqAll P.K F' vs ds ∧ c'.length = c.length
  | [], vs, ds, c, c', T, τ, F, M, hl, hs, h => by
    cases hs
    cases h
    rw [List.map_nil, List.append_nil, List.map_nil, List.append_nil] at M
    exact ⟨F, Le.refl F, M, .nil, rfl⟩
  | b :: bs, v :: vs, ds, c, c', T, τ, F, M, hl, .cons s0 hs, h => by
    obtain ⟨d, c1, h1, h2⟩ := bind_ok (show (b.esc c).bind _ = _ from h)
    obtain ⟨ds', c2, h3, h4⟩ := bind_ok h2
    cases h4
    have hT : T.length = τ.length := by
      have := M.len
      have hp := Paired.length hs
      simp only [List.length_append, List.length_map, List.length_cons] at this
      omega
    rw [List.map_cons, List.map_cons, List.append_assoc, List.append_assoc] at M
    obtain ⟨F1, x, le1, M1, q1, l1⟩ := esc_sound M hl hT s0 h1
    have M1' : Mt P F1 ((c1 ++ (T ++ [x])) ++ bs.map tcB) ((σ ++ (τ ++ [some v])) ++ vs.map some) H := by
      have e1 : (c1 ++ (T ++ [x])) ++ bs.map tcB = c1 ++ (T ++ x :: bs.map tcB) := by simp
      have e2 : (σ ++ (τ ++ [some v])) ++ vs.map some = σ ++ (τ ++ some v :: vs.map some) := by simp
      rw [e1, e2]; exact M1
    obtain ⟨F2, le2, M2, q2, l2⟩ := escAll_sound (bs := bs) M1' (by omega) hs h3
    refine ⟨F2, le1.trans le2, ?_, .cons (q1.up le2) q2, by omega⟩
    rw [← List.append_assoc, ← List.append_assoc] at M2
    exact M2.take (by rw [List.length_append, List.length_append]; omega)
end

/-! ### side conditions -/
section
variable {X : Cx} {env : PySem.Env}
theorem star_of {e : Expr} {es : List Expr} (h : noStar e = true) : starEach (e :: es) env = (false, eval e env) :: starEach es env := by
  cases e <;> first | rfl | cases h
theorem stars_of : ∀ {es : List Expr}, es.all noStar = true → starEach es env = es.map fun e => (false, eval e env)
  | [], _ => rfl
  | e :: es, h => by
    rw [List.all_cons, Bool.and_eq_true] at h
    rw [star_of h.1, stars_of h.2]; rfl
theorem back_any {pos : Pos} {es : List Expr} (h : es.all noStar = true) : (backTo pos (starEach es env)).any (·.1) = false := by
  rw [stars_of h]
  induction es with
  | nil => rfl
  | cons e es ih =>
    rw [List.all_cons, Bool.and_eq_true] at h
    have := ih h.2
    simp [backTo] at this ⊢
theorem mark_of {b : Expr} {op : CmpOp} (h : noSet b = true) : behindInMarks op b = false := by
  cases b <;> first | rfl | cases h
theorem plainIx_of {b : Expr} (h : noSlice b = true) : PlainIx b := fun o i => by
  cases b <;> first | rfl | cases h
theorem isTrue_of {e : Expr} (h : plainT e = true) (whole : Sem Value) : isTrue e env whole = (do let v ← whole; standAt e.pos; holding [v] (truthy v)) := by
  cases e <;> first | rfl | cases h | skip
  rename_i op x p
  cases op <;> first | rfl | cases h
theorem folded_of {e : Expr} (h : noSet e = true) (x : Value) : foldedSetIterable e env x = pure x := by
  cases e <;> first | rfl | cases h
theorem base_of {e : Expr} {n : Str} (h : noSuper e = true) : attributeBase e n env (eval e env) = eval e env := by
  cases e <;> first | rfl | cases h
end
section
variable {Γ : Nat → Option Fn} {C : Ctx} {P : Par} {k : Nat} {X : Cx}
theorem Good.vis (G : Good Γ C P k X) {x : Str} (h : C.vis x = true) : Vis X.env.scope x := by
  rw [G.sc]
  unfold Ctx.vis at h
  split at h
  · rename_i e; exact .inl e
  · rename_i e; exact .inr (.inl e)
  · rename_i e; exact .inr (.inr e)
  · cases h
theorem Good.glob (G : Good Γ C P k X) {x : Str} (h : C.glob x = true) : Gl X x ∧ (x == ("__debug__" : Str)) = false := by
  unfold Ctx.glob at h
  rw [Bool.and_eq_true] at h
  refine ⟨?_, by simpa using h.2⟩
  show X.env.scope.names.lookup x = _
  rw [G.sc]
  have := h.1
  split at this
  · assumption
  · cases this
theorem Good.blt (G : Good Γ C P k X) {x : Str} (h : C.blt x = true) : Gl X x ∧ (x == ("__debug__" : Str)) = false ∧ X.mg x = none := by
  unfold Ctx.blt at h
  rw [Bool.and_eq_true] at h
  obtain ⟨a, b⟩ := G.glob h.1
  exact ⟨a, b, G.bl x (of_decide_eq_true h.2)⟩
theorem Good.loc (G : Good Γ C P k X) {x : Str} (h : C.loc x = true) : Loc X.env.scope x ∧ (X.fn x = true ∨ X.env.scope.names.lookup x = some .local) := by
  rw [G.sc]
  unfold Ctx.loc at h
  split at h
  · rename_i e; exact ⟨.inl e, .inr e⟩
  · rename_i e; exact ⟨.inr e, .inl (G.fnb x h)⟩
  · cases h
theorem Good.hu (G : Good Γ C P k X) : X.A.units + 64 < cLine := G.room.r.units
end
end T

set_option Elab.async false
set_option linter.all false
set_option maxRecDepth 100000
set_option maxHeartbeats 1000000
/-! The evaluator is right: expressions. -/
namespace T
open PySem PySem.Spec PyProof.Rows L2

structure Snd (Γ : Nat → Option Fn) (a : E) : Prop where
  pe : ∀ C P k X x, Good Γ C P k X → chkE a C x = true → PE X x (tE P Γ a)
  pt : ∀ C P k X x, Good Γ C P k X → chkT a C x = true → PT X x (tT P Γ a)
  pa : ∀ C P k X es, Good Γ C P k X → chkA a C es = true → PA X es (tA P Γ a)
  pi : ∀ C P k X x tg, Good Γ C P k X → chkI a C x tg = true → PI X tg x (tI P Γ a)
  pk : ∀ C P k X ws, Good Γ C P k X → chkK a C ws = true → PK X ws (tA P Γ a)

section
variable {Γ : Nat → Option Fn} {a b c args : E}
theorem bool_split {p q : Bool} (h : (p && q) = true) : p = true ∧ q = true := Bool.and_eq_true_iff.mp h

theorem ok_inj {α : Type} {a b : α} {c d : Env} (h : (Res.ok a c : Res α) = .ok b d) : a = b ∧ c = d := by cases h; exact ⟨rfl, rfl⟩
/-- the value of a slot, a frozen one's -/
theorem e_var {i : Nat} {C : Ctx} {P : Par} {k : Nat} {X : Cx} {x : Expr} (G : Good Γ C P k X) (h : chkE (.var i) C x = true) : PE X x (tE P Γ (.var i)) := by
  simp only [chkE] at h
  split at h
  · unfold Ctx.isVar at h
    simp only [Bool.and_eq_true] at h
    obtain ⟨⟨⟨h1, h2⟩, h3⟩, h4⟩ := h
    refine (pe_var (i := i) (by rw [G.N]; exact of_decide_eq_true h1) (G.vis h2) (by simpa using h3) (by simpa using h4)).imp ?_
    rintro σ H Q ⟨F, c, T, τ, r, c', M, hl, hev, q⟩
    simp only [ev] at hev
    have key : ∀ y, c.cell i = some y → ∃ v, σ[i]? = some (some v) ∧ COk P F H v y := fun y hy => by
      obtain ⟨v, h1, h2⟩ := M.cell i y (cell_left' hy)
      rw [List.getElem?_append_left (by rw [← hl]; exact cell_lt hy)] at h1
      exact ⟨v, h1, h2⟩
    cases hc : c.cell i with
    | none => rw [hc] at hev; cases hev
    | some y =>
      rw [hc] at hev
      obtain ⟨v, hv, hk⟩ := key y hc
      refine ⟨v, hv, ?_⟩
      obtain ⟨st, d⟩ := y
      cases st <;> simp only at hev <;> cases hev
      · exact q v H F (M.pushF hk) hl .dt
      all_goals exact q v H F M.pushN hl fun j z => by cases z; exact hv
  · cases h
theorem e_const {d : D} {v : V} {a : E} {P : Par} {X : Cx} {x : Expr} (hx : PE X x (tC v)) (he : ∀ c, ev Γ a c = .ok (.dt d) c) (hd : ∀ F, Dq P.K F v d) : PE X x (tE P Γ a) := by
  refine hx.imp ?_
  rintro σ H Q ⟨F, c, T, τ, r, c', M, hl, hev, q⟩
  rw [he] at hev; cases hev
  exact q v H F (M.pushF (hd F)) hl .dt
theorem e_bin {op : BOp} (ha : Snd Γ a) (hb : Snd Γ b) {C : Ctx} {P : Par} {k : Nat} {X : Cx} {x : Expr} (G : Good Γ C P k X) (h : chkE (.bin op a b) C x = true) : PE X x (tE P Γ (.bin op a b)) := by
  simp only [chkE] at h
  split at h
  · simp only [Bool.and_eq_true] at h
    obtain ⟨⟨h1, h2⟩, h3⟩ := h
    have h1 := of_decide_eq_true h1
    subst h1
    refine (pe_op (op_binD op) (ha.pe _ _ _ _ _ G h2) (hb.pe _ _ _ _ _ G h3)).imp ?_
    rintro σ H Q ⟨F, c, T, τ, r, c', M, hl, hev, q⟩
    simp only [ev] at hev
    obtain ⟨ra, c1, e1, hev⟩ := bind_ok hev
    obtain ⟨rb, c2, e2, hev⟩ := bind_ok hev
    obtain ⟨hev, rfl⟩ := opt_ok hev
    obtain ⟨dx, r1, hev⟩ := obind_some hev
    obtain ⟨dy, r2, hev⟩ := obind_some hev
    obtain ⟨p, r3, rfl⟩ := omap_some hev
    refine ⟨F, c, T, τ, ra, c1, M, hl, e1, fun v H1 F1 M1 l1 s1 => ?_⟩
    have hT := M.tl hl
    refine ⟨F1, c1, T ++ [tcB ra], τ ++ [some v], rb, c', by rw [← List.append_assoc, ← List.append_assoc]; exact M1, l1, e2, fun w H2 F2 M2 l2 s2 => ?_⟩
    rw [← List.append_assoc, ← List.append_assoc] at M2
    refine ⟨F2, dx, dy, p, M2.le, ?_, ?_, r3, ?_⟩
    · rw [← G.kp]
      refine Mt.rdSh (A := c' ++ T) (α := σ ++ τ) (c := c') (σ := σ) (r := ra) (B := [tcB rb]) (β := [some w]) (by simpa using M2) ?_ rfl rfl l2 s1 r1
      rw [List.length_append, List.length_append]; omega
    · rw [← G.kp]
      refine Mt.rdSh (A := (c' ++ T) ++ [tcB ra]) (α := (σ ++ τ) ++ [some v]) (c := c') (σ := σ) (U := T ++ [tcB ra]) (υ := τ ++ [some v]) (r := rb) (B := []) (β := []) M2 ?_ (by simp) (by simp) l2 s2 r2
      simp only [List.length_append, List.length_singleton]; omega
    · rw [← G.kp]
      refine Mt.gives (c := c') (T := T) (U := [tcB ra] ++ [tcB rb]) (σ := σ) (τ := τ) (υ := [some v] ++ [some w]) (by simpa using M2) (by rw [List.length_append, List.length_append]; omega) fun u H3 F3 M3 => q u H3 F3 M3 l2 .bv
  · cases h
/-- one operand, read -/
theorem e_one (ha : Snd Γ a) {C : Ctx} {P : Par} {k : Nat} {X : Cx} {x : Expr} (G : Good Γ C P k X) (h2 : chkE a C x = true) {Z : V → Hp → Prop} {σ : L2.St} {H : Hp} {F : Hp} {c c' T : Env} {τ : L2.St} {ra : BV} (M : Mt P F (c ++ T) (σ ++ τ) H) (hl : c.length = σ.length) (e1 : ev Γ a c = .ok ra c')
    (q : ∀ v H' F', Mt P F' ((c' ++ T) ++ [tcB ra]) ((σ ++ τ) ++ [some v]) H' → c'.length = σ.length → (∀ d, ra.rd c' = some d → Sh P.K F' H' v d) → SlotAt σ v ra → Z v H') : tE P Γ a σ H Z := by
  refine ⟨F, c, T, τ, ra, c', M, hl, e1, fun v H1 F1 M1 l1 s1 => ?_⟩
  have hT := M.tl hl
  refine q v H1 F1 M1 l1 (fun d hd => ?_) s1
  refine Mt.rdSh (A := c' ++ T) (α := σ ++ τ) (c := c') (σ := σ) (r := ra) (B := []) (β := []) M1 ?_ rfl rfl l1 s1 hd
  rw [List.length_append, List.length_append]; omega
/-- two operands, read -/
theorem e_two (ha : Snd Γ a) (hb : Snd Γ b) {P : Par} {Z : V → V → Hp → Prop} {σ : L2.St} {H : Hp} {F : Hp} {c c1 c' T : Env} {τ : L2.St} {ra rb : BV} (M : Mt P F (c ++ T) (σ ++ τ) H) (hl : c.length = σ.length) (e1 : ev Γ a c = .ok ra c1) (e2 : ev Γ b c1 = .ok rb c')
    (q : ∀ v w H' F', Mt P F' ((c' ++ T) ++ [tcB ra, tcB rb]) ((σ ++ τ) ++ [some v, some w]) H' → c'.length = σ.length → (∀ d, ra.rd c' = some d → Sh P.K F' H' v d) → (∀ d, rb.rd c' = some d → Sh P.K F' H' w d) → SlotAt σ v ra → SlotAt σ w rb → Z v w H') :
    tE P Γ a σ H fun v H1 => tE P Γ b σ H1 fun w H2 => Z v w H2 := by
  refine ⟨F, c, T, τ, ra, c1, M, hl, e1, fun v H1 F1 M1 l1 s1 => ?_⟩
  have hT := M.tl hl
  refine ⟨F1, c1, T ++ [tcB ra], τ ++ [some v], rb, c', by rw [← List.append_assoc, ← List.append_assoc]; exact M1, l1, e2, fun w H2 F2 M2 l2 s2 => ?_⟩
  have M3 : Mt P F2 ((c' ++ T) ++ [tcB ra, tcB rb]) ((σ ++ τ) ++ [some v, some w]) H2 := by simpa using M2
  refine q v w H2 F2 M3 l2 (fun d hd => ?_) (fun d hd => ?_) s1 s2
  · refine Mt.rdSh (A := c' ++ T) (α := σ ++ τ) (c := c') (σ := σ) (r := ra) (B := [tcB rb]) (β := [some w]) M3 ?_ rfl rfl l2 s1 hd
    rw [List.length_append, List.length_append]; omega
  · refine Mt.rdSh (A := (c' ++ T) ++ [tcB ra]) (α := (σ ++ τ) ++ [some v]) (c := c') (σ := σ) (U := T ++ [tcB ra]) (υ := τ ++ [some v]) (r := rb) (B := []) (β := []) (by simpa using M3) ?_ (by simp) (by simp) l2 s2 hd
    simp only [List.length_append, List.length_singleton]; omega
theorem lenA {c T : Env} {σ τ : L2.St} {P : Par} {F H : Hp} {c0 : Env} (M : Mt P F (c0 ++ T) (σ ++ τ) H) (hl : c0.length = σ.length) (l2 : c.length = σ.length) : (c ++ T).length = (σ ++ τ).length := by
  have hT := M.tl hl
  rw [List.length_append, List.length_append]; omega
theorem Mt.fin {P : Par} {F H : Hp} {c T U : Env} {σ τ υ : L2.St} {v : V} {d : D} (M : Mt P F ((c ++ T) ++ U) ((σ ++ τ) ++ υ) H) (hl : (c ++ T).length = (σ ++ τ).length) (x : Dq P.K F v d) :
    Mt P F ((c ++ T) ++ [tcB (.dt d)]) ((σ ++ τ) ++ [some v]) H := (M.take hl).pushF x

theorem e_neg (ha : Snd Γ a) {C : Ctx} {P : Par} {k : Nat} {X : Cx} {x : Expr} (G : Good Γ C P k X) (h : chkE (.neg a) C x = true) : PE X x (tE P Γ (.neg a)) := by
  simp only [chkE] at h
  split at h
  · refine (pe_un un_neg (ha.pe _ _ _ _ _ G h)).imp ?_
    rintro σ H Q ⟨F, c, T, τ, r, c', M, hl, hev, q⟩
    simp only [ev] at hev
    obtain ⟨ra, c1, e1, hev⟩ := bind_ok hev
    obtain ⟨hev, rfl⟩ := opt_ok hev
    obtain ⟨dx, r1, hev⟩ := obind_some hev
    obtain ⟨i, r2, rfl⟩ := omap_some hev
    refine e_one ha G h M hl e1 fun v H' F' M' l' s _ => ?_
    have e : dx = .int i := by cases dx <;> simp [toInt] at r2; rw [r2]
    subst e
    exact ⟨i, (s _ r1).int, q _ H' F' (M'.fin (lenA M hl l') (.int _)) l' .dt⟩
  · cases h
theorem toBl_eq {d : D} {b : Bool} (h : toBl d = some b) : d = .bl b := by cases d <;> simp [toBl] at h; rw [h]
theorem toInt_eq {d : D} {b : Int} (h : toInt d = some b) : d = .int b := by cases d <;> simp [toInt] at h; rw [h]
theorem e_nt (ha : Snd Γ a) {C : Ctx} {P : Par} {k : Nat} {X : Cx} {x : Expr} (G : Good Γ C P k X) (h : chkE (.nt a) C x = true) : PE X x (tE P Γ (.nt a)) := by
  simp only [chkE] at h
  split at h
  · refine (pe_not (ha.pe _ _ _ _ _ G h)).imp ?_
    rintro σ H Q ⟨F, c, T, τ, r, c', M, hl, hev, q⟩
    simp only [ev] at hev
    obtain ⟨ra, c1, e1, hev⟩ := bind_ok hev
    obtain ⟨hev, rfl⟩ := opt_ok hev
    obtain ⟨dx, r1, hev⟩ := obind_some hev
    obtain ⟨i, r2, rfl⟩ := omap_some hev
    refine e_one ha G h M hl e1 fun v H' F' M' l' s _ => ?_
    have e := toBl_eq r2
    subst e
    exact ⟨i, (s _ r1).bl, q _ H' F' (M'.fin (lenA M hl l') (.bl _)) l' .dt⟩
  · cases h
/-- and, or: the first operand's answer, then the second -/
theorem and_core (ha : Snd Γ a) {P : Par} {Γ' : Nat → Option Fn} {C : Ctx} {k : Nat} {X : Cx} {x : Expr} {tb : TE} (G : Good Γ C P k X) (hx : chkE a C x = true) (htb : ∀ σ H Q, tE P Γ b σ H Q → tb σ H Q) {σ : L2.St} {H : Hp} {Q : VK} (h : tE P Γ (.andE a b) σ H Q) : tAndV (tE P Γ a) tb σ H Q := by
  obtain ⟨F, c, T, τ, r, c', M, hl, hev, q⟩ := h
  simp only [ev] at hev
  obtain ⟨ra, c1, e1, hev⟩ := bind_ok hev
  refine e_one ha G hx M hl e1 fun v H' F' M' l' s _ => ?_
  cases hr : (ra.rd c1).bind toBl with
  | none => rw [hr] at hev; cases hev
  | some k =>
    rw [hr] at hev
    obtain ⟨dx, r1, r2⟩ := obind_some hr
    have e := toBl_eq r2
    subst e
    refine ⟨k, (s _ r1).bl, ?_⟩
    have M2 := M'.take (lenA M hl l')
    cases k with
    | true => exact htb _ _ _ ⟨F', c1, T, τ, r, c', M2, l', hev, q⟩
    | false => cases hev; exact q _ H' F' (M2.pushF (.bl _)) l' .dt
theorem or_core (ha : Snd Γ a) {P : Par} {C : Ctx} {k : Nat} {X : Cx} {x : Expr} {tb : TE} (G : Good Γ C P k X) (hx : chkE a C x = true) (htb : ∀ σ H Q, tE P Γ b σ H Q → tb σ H Q) {σ : L2.St} {H : Hp} {Q : VK} (h : tE P Γ (.orE a b) σ H Q) : tOrV (tE P Γ a) tb σ H Q := by
  obtain ⟨F, c, T, τ, r, c', M, hl, hev, q⟩ := h
  simp only [ev] at hev
  obtain ⟨ra, c1, e1, hev⟩ := bind_ok hev
  refine e_one ha G hx M hl e1 fun v H' F' M' l' s _ => ?_
  cases hr : (ra.rd c1).bind toBl with
  | none => rw [hr] at hev; cases hev
  | some k =>
    rw [hr] at hev
    obtain ⟨dx, r1, r2⟩ := obind_some hr
    have e := toBl_eq r2
    subst e
    refine ⟨k, (s _ r1).bl, ?_⟩
    have M2 := M'.take (lenA M hl l')
    cases k with
    | false => exact htb _ _ _ ⟨F', c1, T, τ, r, c', M2, l', hev, q⟩
    | true => cases hev; exact q _ H' F' (M2.pushF (.bl _)) l' .dt
theorem e_and (ha : Snd Γ a) (hb : Snd Γ b) {C : Ctx} {P : Par} {k : Nat} {X : Cx} {x : Expr} (G : Good Γ C P k X) (h : chkE (.andE a b) C x = true) : PE X x (tE P Γ (.andE a b)) := by
  simp only [chkE] at h
  split at h
  · obtain ⟨h1, h2⟩ := bool_split h
    exact (pe_and (ha.pe _ _ _ _ _ G h1) (pe_one (hb.pe _ _ _ _ _ G h2))).imp fun σ H Q q => and_core (Γ' := Γ) ha G h1 (fun _ _ _ z => z) q
  · obtain ⟨h1, h2⟩ := bool_split h
    exact (pe_and (ha.pe _ _ _ _ _ G h1) (hb.pe _ _ _ _ _ G h2)).imp fun σ H Q q => and_core (Γ' := Γ) ha G h1 (fun _ _ _ z => z) q
  · cases h
theorem e_or (ha : Snd Γ a) (hb : Snd Γ b) {C : Ctx} {P : Par} {k : Nat} {X : Cx} {x : Expr} (G : Good Γ C P k X) (h : chkE (.orE a b) C x = true) : PE X x (tE P Γ (.orE a b)) := by
  simp only [chkE] at h
  split at h
  · obtain ⟨h1, h2⟩ := bool_split h
    exact (pe_or (ha.pe _ _ _ _ _ G h1) (pe_one (hb.pe _ _ _ _ _ G h2))).imp fun σ H Q q => or_core ha G h1 (fun _ _ _ z => z) q
  · obtain ⟨h1, h2⟩ := bool_split h
    exact (pe_or (ha.pe _ _ _ _ _ G h1) (hb.pe _ _ _ _ _ G h2)).imp fun σ H Q q => or_core ha G h1 (fun _ _ _ z => z) q
  · cases h
theorem e_ite (ht : Snd Γ c) (ha : Snd Γ a) (hb : Snd Γ b) {C : Ctx} {P : Par} {k : Nat} {X : Cx} {x : Expr} (G : Good Γ C P k X) (h : chkE (.ite c a b) C x = true) : PE X x (tE P Γ (.ite c a b)) := by
  simp only [chkE] at h
  split at h
  · simp only [Bool.and_eq_true] at h
    obtain ⟨⟨h1, h2⟩, h3⟩ := h
    refine (pe_ifExp (ht.pt _ _ _ _ _ G h1) (ha.pe _ _ _ _ _ G h2) (hb.pe _ _ _ _ _ G h3)).imp ?_
    rintro σ H Q ⟨F, c, T, τ, r, c', M, hl, hev, q⟩
    simp only [ev] at hev
    obtain ⟨ra, c1, e1, hev⟩ := bind_ok hev
    cases hr : (ra.rd c1).bind toBl with
    | none => rw [hr] at hev; cases hev
    | some k =>
      rw [hr] at hev
      obtain ⟨dx, r1, r2⟩ := obind_some hr
      have e := toBl_eq r2
      subst e
      refine ⟨F, c, T, τ, ra, c1, k, M, hl, e1, r1, fun H' F' M' l' => ?_⟩
      cases k with
      | true => exact ⟨F', c1, T, τ, r, c', M', l', hev, q⟩
      | false => exact ⟨F', c1, T, τ, r, c', M', l', hev, q⟩
  · cases h
theorem e_cmp {op : COp} (ha : Snd Γ a) (hb : Snd Γ b) {C : Ctx} {P : Par} {k : Nat} {X : Cx} {x : Expr} (G : Good Γ C P k X) (h : chkE (.cmp op a b) C x = true) : PE X x (tE P Γ (.cmp op a b)) := by
  simp only [chkE] at h
  split at h
  · simp only [Bool.and_eq_true] at h
    obtain ⟨⟨⟨h1, h0⟩, h2⟩, h3⟩ := h
    have h1 := of_decide_eq_true h1
    subst h1
    refine (pe_cmpR (op_cmpD G.hu op) (ha.pe _ _ _ _ _ G h2) (hb.pe _ _ _ _ _ G h3) (mark_of h0)).imp ?_
    rintro σ H Q ⟨F, c, T, τ, r, c', M, hl, hev, q⟩
    simp only [ev] at hev
    obtain ⟨ra, c1, e1, hev⟩ := bind_ok hev
    obtain ⟨rb, c2, e2, hev⟩ := bind_ok hev
    obtain ⟨hev, rfl⟩ := opt_ok hev
    obtain ⟨dx, r1, hev⟩ := obind_some hev
    obtain ⟨dy, r2, hev⟩ := obind_some hev
    obtain ⟨p, r3, rfl⟩ := omap_some hev
    refine e_two ha hb M hl e1 e2 fun v w H' F' M' l' s1 s2 _ _ => ?_
    refine ⟨F', dx, dy, p, M'.le, ?_, ?_, r3, q _ H' F' (M'.fin (lenA M hl l') (.bl _)) l' .dt⟩
    · rw [← G.kp]; exact s1 _ r1
    · rw [← G.kp]; exact s2 _ r2
  · cases h
theorem t_cmp {op : COp} (ha : Snd Γ a) (hb : Snd Γ b) {C : Ctx} {P : Par} {k : Nat} {X : Cx} {x : Expr} (G : Good Γ C P k X) (h : chkT (.cmp op a b) C x = true) : PT X x (tT P Γ (.cmp op a b)) := by
  simp only [chkT] at h
  split at h
  · simp only [Bool.and_eq_true] at h
    obtain ⟨⟨⟨h1, h0⟩, h2⟩, h3⟩ := h
    have h1 := of_decide_eq_true h1
    subst h1
    refine (pt_cmpR (op_cmpD G.hu op) (ha.pe _ _ _ _ _ G h2) (hb.pe _ _ _ _ _ G h3) (mark_of h0)).imp ?_
    rintro σ H Q ⟨F, c, T, τ, r, c', bb, M, hl, hev, hb', q⟩
    simp only [ev] at hev
    obtain ⟨ra, c1, e1, hev⟩ := bind_ok hev
    obtain ⟨rb, c2, e2, hev⟩ := bind_ok hev
    obtain ⟨hev, rfl⟩ := opt_ok hev
    obtain ⟨dx, r1, hev⟩ := obind_some hev
    obtain ⟨dy, r2, hev⟩ := obind_some hev
    obtain ⟨p, r3, rfl⟩ := omap_some hev
    have eb : p = bb := by cases hb'; rfl
    subst eb
    refine e_two ha hb M hl e1 e2 fun v w H' F' M' l' s1 s2 _ _ => ?_
    refine ⟨F', dx, dy, p, M'.le, ?_, ?_, r3, p, rfl, q H' F' (M'.take (lenA M hl l')) l'⟩
    · rw [← G.kp]; exact s1 _ r1
    · rw [← G.kp]; exact s2 _ r2
  · cases h
theorem last_of {o1 o2 : CmpOp} {b c : Expr} (h : noSet c = true) : lastMarks [o1, o2] [b, c] = false := mark_of h
theorem chain_core {o1 o2 : COp} (ha : Snd Γ a) (hb : Snd Γ b) (hc : Snd Γ c) {P : Par} {K : PySem.W.Frag} (hK : P.K = K) {σ : L2.St} {H : Hp} {Q : Bool → Hp → Prop} {F : Hp} {c0 T : Env} {τ : L2.St} {r : BV} {c' : Env} (M : Mt P F (c0 ++ T) (σ ++ τ) H) (hl : c0.length = σ.length) (hev : ev Γ (.chain o1 o2 a b c) c0 = .ok r c')
    (q : ∀ k H' F', r = .dt (.bl k) → Mt P F' (c' ++ T) (σ ++ τ) H' → c'.length = σ.length → Q k H') : tChain (rCmp K o1) (rCmp K o2) (tE P Γ a) (tE P Γ b) (tE P Γ c) σ H fun v H' => ∃ k, v = .bl k ∧ Q k H' := by
  subst hK
  simp only [ev] at hev
  obtain ⟨ra, c1, e1, hev⟩ := bind_ok hev
  obtain ⟨rb, c2, e2, hev⟩ := bind_ok hev
  have hT := M.tl hl
  refine e_two ha hb M hl e1 e2 fun v w H' F' M' l' s1 s2 sv sw => ?_
  cases hr : (ra.rd c2).bind fun x => (rb.rd c2).bind fun y => cmpD o1 x y with
  | none => rw [hr] at hev; cases hev
  | some k =>
    rw [hr] at hev
    obtain ⟨dx, r1, hr⟩ := obind_some hr
    obtain ⟨dy, r2, r3⟩ := obind_some hr
    refine ⟨F', dx, dy, k, M'.le, s1 _ r1, s2 _ r2, r3, k, rfl, ?_⟩
    cases k with
    | false =>
      cases hev
      exact ⟨_, rfl, q _ H' F' rfl (M'.take (lenA M hl l')) l'⟩
    | true =>
      obtain ⟨rc, c3, e3, hev⟩ := bind_ok hev
      obtain ⟨hev, rfl⟩ := opt_ok hev
      obtain ⟨dy', r4, hev⟩ := obind_some hev
      obtain ⟨dz, r5, hev⟩ := obind_some hev
      obtain ⟨p, r6, rfl⟩ := omap_some hev
      refine ⟨F', c2, T ++ [tcB ra, tcB rb], τ ++ [some v, some w], rc, c', by rw [← List.append_assoc, ← List.append_assoc]; exact M', l', e3, fun u H3 F3 M3 l3 s3 => ?_⟩
      have M4 : Mt P F3 ((c' ++ T) ++ [tcB ra, tcB rb, tcB rc]) ((σ ++ τ) ++ [some v, some w, some u]) H3 := by simpa using M3
      refine ⟨F3, dy', dz, p, M3.le, ?_, ?_, r6, _, rfl, q _ H3 F3 rfl (M4.take (lenA M hl l3)) l3⟩
      · refine Mt.rdSh (A := (c' ++ T) ++ [tcB ra]) (α := (σ ++ τ) ++ [some v]) (c := c') (σ := σ) (U := T ++ [tcB ra]) (υ := τ ++ [some v]) (r := rb) (B := [tcB rc]) (β := [some u]) (by simpa using M4) ?_ (by simp) (by simp) l3 sw r4
        simp only [List.length_append, List.length_singleton]; omega
      · refine Mt.rdSh (A := (c' ++ T) ++ [tcB ra, tcB rb]) (α := (σ ++ τ) ++ [some v, some w]) (c := c') (σ := σ) (U := T ++ [tcB ra, tcB rb]) (υ := τ ++ [some v, some w]) (r := rc) (B := []) (β := []) (by simpa using M4) ?_ (by simp) (by simp) l3 s3 r5
        simp only [List.length_append, List.length_cons, List.length_nil]; omega
theorem e_chain {o1 o2 : COp} (ha : Snd Γ a) (hb : Snd Γ b) (hc : Snd Γ c) {C : Ctx} {P : Par} {k : Nat} {X : Cx} {x : Expr} (G : Good Γ C P k X) (h : chkE (.chain o1 o2 a b c) C x = true) : PE X x (tE P Γ (.chain o1 o2 a b c)) := by
  simp only [chkE] at h
  split at h
  · simp only [Bool.and_eq_true] at h
    obtain ⟨⟨⟨⟨⟨h1, h1'⟩, h0⟩, h2⟩, h3⟩, h4⟩ := h
    have h1 := of_decide_eq_true h1
    have h1' := of_decide_eq_true h1'
    subst h1 h1'
    refine (pe_chain (op_cmpD G.hu o1) (op_cmpD G.hu o2) (ha.pe _ _ _ _ _ G h2) (hb.pe _ _ _ _ _ G h3) (hc.pe _ _ _ _ _ G h4) (last_of h0)).imp ?_
    rintro σ H Q ⟨F, c0, T, τ, r, c', M, hl, hev, q⟩
    have mono : ∀ (K : PySem.W.Frag) (op : COp) (x y : V) (H : Hp) (Q Q' : VK), (∀ v H', Q v H' → Q' v H') → rCmp K op x y H Q → rCmp K op x y H Q' := fun K op x y H Q Q' f ⟨F, d, e, b, l, s1, s2, e1, q⟩ => ⟨F, d, e, b, l, s1, s2, e1, f _ _ q⟩
    have core := chain_core ha hb hc G.kp M hl hev (Q := fun k H' => Q (.bl k) H') fun k H' F' e M' l' => by
      subst e
      exact q _ H' F' (M'.pushF (.bl _)) l' .dt
    have fin : ∀ v H', (∃ k, v = V.bl k ∧ Q (.bl k) H') → Q v H' := fun v H' ⟨k, e, z⟩ => by rw [e]; exact z
    obtain ⟨F1, c1, T1, τ1, r1, c1', M1, l1, ev1, q1⟩ := core
    refine ⟨F1, c1, T1, τ1, r1, c1', M1, l1, ev1, fun v H1 G1 N1 m1 s1 => ?_⟩
    obtain ⟨F2, c2, T2, τ2, r2, c2', M2, l2, ev2, q2⟩ := q1 v H1 G1 N1 m1 s1
    refine ⟨F2, c2, T2, τ2, r2, c2', M2, l2, ev2, fun w H2 G2 N2 m2 s2 => ?_⟩
    obtain ⟨F3, d, e, b', le, t1, t2, e3, z⟩ := q2 w H2 G2 N2 m2 s2
    refine ⟨F3, d, e, b', le, t1, t2, e3, ?_⟩
    obtain ⟨k', ek, z⟩ := z
    refine ⟨k', ek, ?_⟩
    cases k' with
    | false => exact fin _ _ z
    | true =>
      obtain ⟨F4, c4, T4, τ4, r4, c4', M4, l4, ev4, q4⟩ := (show tE P Γ c σ H2 _ from z)
      exact ⟨F4, c4, T4, τ4, r4, c4', M4, l4, ev4, fun u H3 G3 N3 m3 s3 => mono _ _ _ _ _ _ _ fin (q4 u H3 G3 N3 m3 s3)⟩
  · cases h
theorem t_chain {o1 o2 : COp} (ha : Snd Γ a) (hb : Snd Γ b) (hc : Snd Γ c) {C : Ctx} {P : Par} {k : Nat} {X : Cx} {x : Expr} (G : Good Γ C P k X) (h : chkT (.chain o1 o2 a b c) C x = true) : PT X x (tT P Γ (.chain o1 o2 a b c)) := by
  simp only [chkT] at h
  split at h
  · simp only [Bool.and_eq_true] at h
    obtain ⟨⟨⟨⟨⟨h1, h1'⟩, h0⟩, h2⟩, h3⟩, h4⟩ := h
    have h1 := of_decide_eq_true h1
    have h1' := of_decide_eq_true h1'
    subst h1 h1'
    refine (pt_chain (op_cmpD G.hu o1) (op_cmpD G.hu o2) (ha.pe _ _ _ _ _ G h2) (hb.pe _ _ _ _ _ G h3) (hc.pe _ _ _ _ _ G h4) (last_of h0)).imp ?_
    rintro σ H Q ⟨F, c0, T, τ, r, c', b', M, hl, hev, hb', q⟩
    exact chain_core ha hb hc G.kp M hl hev fun k H' F' e M' l' => by
      subst e
      cases hb'
      exact q H' F' M' l'
  · cases h
end
end T

set_option Elab.async false
set_option linter.all false
set_option maxRecDepth 100000
set_option maxHeartbeats 1000000
/-! The evaluator is right: displays, subscripts, calls, tests. -/
namespace T
open PySem PySem.Spec PyProof.Rows L2
section
variable {Γ : Nat → Option Fn} {a b c args : E}

theorem a_nil {C : Ctx} {P : Par} {k : Nat} {X : Cx} {es : List Expr} (G : Good Γ C P k X) (h : chkA .nil C es = true) : PA X es (tA P Γ .nil) := by
  simp only [chkA] at h
  split at h
  · refine pa_nil.imp ?_
    rintro σ H Q ⟨F, c, T, τ, bs, c', M, hl, hev, q⟩
    simp only [evs] at hev
    cases hev
    exact q [] H F (by simpa using M) hl .nil
  · cases h
theorem a_cons (ha : Snd Γ a) (hb : Snd Γ b) {C : Ctx} {P : Par} {k : Nat} {X : Cx} {es : List Expr} (G : Good Γ C P k X) (h : chkA (.cons a b) C es = true) : PA X es (tA P Γ (.cons a b)) := by
  simp only [chkA] at h
  split at h
  · simp only [Bool.and_eq_true] at h
    obtain ⟨⟨h1, h2⟩, h3⟩ := h
    refine (pa_cons (ha.pe _ _ _ _ _ G h2) (hb.pa _ _ _ _ _ G h3) (star_of h1)).imp ?_
    rintro σ H Q ⟨F, c, T, τ, bs, c', M, hl, hev, q⟩
    simp only [evs] at hev
    obtain ⟨ra, c1, e1, hev⟩ := bind_ok hev
    obtain ⟨rs, c2, e2, hev⟩ := bind_ok hev
    cases hev
    refine ⟨F, c, T, τ, ra, c1, M, hl, e1, fun v H1 F1 M1 l1 s1 => ?_⟩
    refine ⟨F1, c1, T ++ [tcB ra], τ ++ [some v], rs, c', by rw [← List.append_assoc, ← List.append_assoc]; exact M1, l1, e2, fun vs H2 F2 M2 l2 s2 => ?_⟩
    exact q (v :: vs) H2 F2 (by simpa using M2) l2 (.cons s1 s2)
  · cases h
theorem chkA_stars : ∀ {a : E} {C : Ctx} {es : List Expr}, chkA a C es = true → es.all noStar = true
  | .nil, C, es, h => by
    simp only [chkA] at h
    split at h
    · rfl
    · cases h
  | .cons a b, C, es, h => by
    simp only [chkA] at h
    split at h
    · simp only [Bool.and_eq_true] at h
      rw [List.all_cons, h.1.1, chkA_stars (a := b) h.2]; rfl
    · cases h
  | .var _, _, _, h | .non, _, _, h | .bl _, _, _, h | .int _, _, _, h | .str _, _, _, h | .gl _ _, _, _, h | .bin _ _ _, _, _, h | .neg _, _, _, h | .nt _, _, _, h | .andE _ _, _, _, h | .orE _ _, _, _, h
  | .ite _ _ _, _, _, h | .cmp _ _ _, _, _, h | .chain _ _ _ _ _, _, _, h | .tupE _, _, _, h | .lstE _, _, _, h | .ix _ _, _, _, h | .sl _ _ _, _, _, h | .nopart, _, _, h | .rvs _, _, _, h | .call _ _, _, _, h | .callK _ _ _ _ _, _, _, h
  | .bi _ _, _, _, h | .mth _ _ _, _, _, h | .isi _ _ _, _, _, h | .lc _ _ _ _ _, _, _, h | .yes, _, _, h | .val _, _, _, h | .tru _, _, _, h | .seq _, _, _, h | .range1 _, _, _, h | .range2 _ _, _, _, h | .range3 _ _ _, _, _, h
  | .enum _, _, _, h | .enumS _ _, _, _, h | .zip _ _, _, _, h | .zipK _ _, _, _, h | .rev _, _, _, h => by simp only [chkA] at h; cases h

theorem e_tup (ha : Snd Γ args) {C : Ctx} {P : Par} {k : Nat} {X : Cx} {x : Expr} (G : Good Γ C P k X) (h : chkE (.tupE args) C x = true) : PE X x (tE P Γ (.tupE args)) := by
  simp only [chkE] at h
  split at h
  · refine (pe_tup (ha.pa _ _ _ _ _ G h)).imp ?_
    rintro σ H Q ⟨F, c, T, τ, r, c', M, hl, hev, q⟩
    simp only [ev] at hev
    obtain ⟨bs, c1, e1, hev⟩ := bind_ok hev
    obtain ⟨ds, c2, e2, hev⟩ := bind_ok hev
    split at hev
    · rename_i hz
      cases hev
      refine ⟨F, c, T, τ, bs, c1, M, hl, e1, fun vs H1 F1 M1 l1 s1 => ?_⟩
      obtain ⟨F2, le2, M2, q2, l2⟩ := escAll_sound M1 l1 s1 e2
      refine ⟨by rw [q2.length]; exact hz, fun p hp => ?_⟩
      obtain ⟨F3, le3, M3⟩ := M2.new (.tup hp q2)
      exact q _ _ F3 M3 (by omega) .dt
    · cases hev
  · cases h
theorem e_lst (ha : Snd Γ args) {C : Ctx} {P : Par} {k : Nat} {X : Cx} {x : Expr} (G : Good Γ C P k X) (h : chkE (.lstE args) C x = true) : PE X x (tE P Γ (.lstE args)) := by
  simp only [chkE] at h
  split at h
  · refine (pe_lst (ha.pa _ _ _ _ _ G h)).imp ?_
    rintro σ H Q ⟨F, c, T, τ, r, c', M, hl, hev, q⟩
    simp only [ev] at hev
    obtain ⟨bs, c1, e1, hev⟩ := bind_ok hev
    obtain ⟨ds, c2, e2, hev⟩ := bind_ok hev
    split at hev
    · rename_i hz
      cases hev
      refine ⟨F, c, T, τ, bs, c1, M, hl, e1, fun vs H1 F1 M1 l1 s1 => ?_⟩
      obtain ⟨F2, le2, M2, q2, l2⟩ := escAll_sound M1 l1 s1 e2
      refine ⟨by rw [q2.length]; exact hz, fun p hp => ?_⟩
      obtain ⟨F3, le3, M3⟩ := M2.new (.lst true hp q2)
      exact q _ _ F3 M3 (by omega) .fr
    · cases hev
  · cases h
theorem e_ix (ha : Snd Γ a) (hb : Snd Γ b) {C : Ctx} {P : Par} {k : Nat} {X : Cx} {x : Expr} (G : Good Γ C P k X) (h : chkE (.ix a b) C x = true) : PE X x (tE P Γ (.ix a b)) := by
  simp only [chkE] at h
  split at h
  · simp only [Bool.and_eq_true] at h
    obtain ⟨⟨h0, h1⟩, h2⟩ := h
    refine (pe_ix ix_D (ha.pe _ _ _ _ _ G h1) (hb.pe _ _ _ _ _ G h2) (plainIx_of h0)).imp ?_
    rintro σ H Q ⟨F, c, T, τ, r, c', M, hl, hev, q⟩
    simp only [ev] at hev
    obtain ⟨ra, c1, e1, hev⟩ := bind_ok hev
    obtain ⟨rb, c2, e2, hev⟩ := bind_ok hev
    obtain ⟨hev, rfl⟩ := opt_ok hev
    obtain ⟨dx, r1, hev⟩ := obind_some hev
    obtain ⟨dy, r2, hev⟩ := obind_some hev
    obtain ⟨z, r3, rfl⟩ := omap_some hev
    refine e_two ha hb M hl e1 e2 fun v w H' F' M' l' s1 s2 _ _ => ?_
    refine ⟨F', dx, dy, (false, z), M'.le, ?_, ?_, by simp [r3], ?_⟩
    · rw [← G.kp]; exact s1 _ r1
    · rw [← G.kp]; exact s2 _ r2
    · rw [← G.kp]; exact M'.gives (p := (false, z)) (lenA M hl l') fun u H3 F3 M3 => q u H3 F3 M3 l' .dt
  · cases h
/-- a part of a slice -/
def tP (P : Par) (Γ : Nat → Option Fn) (e : E) : TO := fun σ H Q => ∃ F c T τ r c' o, Mt P F (c ++ T) (σ ++ τ) H ∧ c.length = σ.length ∧ ev Γ e c = .ok r c' ∧ partE e (r.rd c') = some o ∧
  ∀ H' F' x v, Mt P F' ((c' ++ T) ++ [x]) ((σ ++ τ) ++ [v]) H' → c'.length = σ.length → Q o H'
theorem o_part (ha : Snd Γ a) {C : Ctx} {P : Par} {k : Nat} {X : Cx} {l : Option Expr} (G : Good Γ C P k X) (h : (match l with | none => isNopart a | some x => !isNopart a && chkE a C x) = true) : PO X l (tP P Γ a) := by
  cases l with
  | none =>
    refine po_none.imp fun σ H Q hq => ?_
    obtain ⟨F, c, T, τ, r, c', o, M, hl, hev, hp, q⟩ := hq
    cases a <;> first | (cases h; done) | skip
    simp only [ev] at hev
    cases hev
    cases hp
    exact q H F none none M.pushN hl
  | some x =>
    simp only [Bool.and_eq_true] at h
    refine (po_some (ha.pe _ _ _ _ _ G h.2)).imp ?_
    rintro σ H Q ⟨F, c, T, τ, r, c', o, M, hl, hev, hp, q⟩
    unfold partE at hp
    rw [if_neg (by simpa using h.1)] at hp
    obtain ⟨i, hi, rfl⟩ := omap_some hp
    obtain ⟨d, hd, hi⟩ := obind_some hi
    have e := toInt_eq hi
    subst e
    refine e_one ha G h.2 M hl hev fun v H' F' M' l' s _ => ?_
    exact ⟨i, (s _ hd).int, q H' F' _ _ M' l'⟩
theorem e_sl {lo hi : E} (ha : Snd Γ a) (hb : Snd Γ lo) (hc : Snd Γ hi) {C : Ctx} {P : Par} {k : Nat} {X : Cx} {x : Expr} (G : Good Γ C P k X) (h : chkE (.sl a lo hi) C x = true) : PE X x (tE P Γ (.sl a lo hi)) := by
  simp only [chkE] at h
  split at h
  · simp only [Bool.and_eq_true] at h
    obtain ⟨⟨h1, h2⟩, h3⟩ := h
    refine (pe_slice sl_D (ha.pe _ _ _ _ _ G h1) (o_part (P := P) hb G h2) (o_part (P := P) hc G h3)).imp ?_
    rintro σ H Q ⟨F, c, T, τ, r, c', M, hl, hev, q⟩
    simp only [ev] at hev
    obtain ⟨ra, c1, e1, v1⟩ := bind_ok hev
    clear hev
    obtain ⟨rl, c2, e2, v2⟩ := bind_ok v1
    clear v1
    obtain ⟨ol, c2', e3, v3⟩ := bind_ok v2
    clear v2
    obtain ⟨e3, w3⟩ := opt_ok e3
    subst w3
    obtain ⟨rh, c3, e4, v4⟩ := bind_ok v3
    clear v3
    obtain ⟨oh, c3', e5, v5⟩ := bind_ok v4
    clear v4
    obtain ⟨e5, w5⟩ := opt_ok e5
    subst w5
    obtain ⟨v6, w6⟩ := opt_ok v5
    clear v5
    subst w6
    obtain ⟨dx, r1, v7⟩ := obind_some v6
    obtain ⟨p, r2, w8⟩ := omap_some v7
    subst w8
    have hT := M.tl hl
    refine ⟨F, c, T, τ, ra, c1, M, hl, e1, fun v H1 F1 M1 l1 s1 => ?_⟩
    refine ⟨F1, c1, T ++ [tcB ra], τ ++ [some v], rl, c2', ol, by rw [← List.append_assoc, ← List.append_assoc]; exact M1, l1, e2, e3, fun H2 F2 x2 v2 M2 l2 => ?_⟩
    have M2' := M2.take (by simp only [List.length_append, List.length_singleton]; omega)
    refine ⟨F2, c2', T ++ [tcB ra], τ ++ [some v], rh, c', oh, M2', l2, e4, e5, fun H3 F3 x3 v3 M3 l3 => ?_⟩
    have M3' := M3.take (by simp only [List.length_append, List.length_singleton]; omega)
    refine ⟨F3, dx, p, M3'.le, ?_, r2, ?_⟩
    · rw [← G.kp]
      refine Mt.rdSh (A := c' ++ T) (α := σ ++ τ) (c := c') (σ := σ) (r := ra) (B := []) (β := []) (by simpa using M3') ?_ rfl rfl l3 s1 r1
      rw [List.length_append, List.length_append]; omega
    · rw [← G.kp]
      exact Mt.gives (c := c') (T := T) (U := [tcB ra]) (σ := σ) (τ := τ) (υ := [some v]) (by simpa using M3') (lenA M hl l3) fun u H4 F4 M4 => q u H4 F4 M4 l3 .bv
  · cases h
theorem e_rvs (ha : Snd Γ a) {C : Ctx} {P : Par} {k : Nat} {X : Cx} {x : Expr} (G : Good Γ C P k X) (h : chkE (.rvs a) C x = true) : PE X x (tE P Γ (.rvs a)) := by
  simp only [chkE] at h
  split at h
  · refine (pe_revL (ha.pe _ _ _ _ _ G h)).imp ?_
    rintro σ H Q ⟨F, c, T, τ, r, c', M, hl, hev, q⟩
    simp only [ev] at hev
    obtain ⟨ra, c1, e1, hev⟩ := bind_ok hev
    split at hev
    · rename_i ds hr
      cases hev
      refine e_one ha G h M hl e1 fun v H' F' M' l' s _ => ?_
      obtain ⟨ad, xs, rfl, hq, t⟩ := (s _ hr).lst M'.le
      refine ⟨ad, xs, rfl, by rw [← G.kp]; exact hq, fun p hp => ?_⟩
      obtain ⟨F3, le3, M3⟩ := (M'.take (lenA M hl l')).new (.lst true hp t.reverse)
      exact q _ _ F3 M3 l' .fr
    · cases hev
  · cases h
/-! ### built-ins -/
theorem rdAll_sound {P : Par} {F H : Hp} {c : Env} {σ : L2.St} : ∀ {bs : List BV} {vs : List V} {ds : List D} {T : Env} {τ : L2.St}, Mt P F ((c ++ T) ++ bs.map tcB) ((σ ++ τ) ++ vs.map some) H → c.length = σ.length → T.length = τ.length → Paired (SlotAt σ) vs bs → rdAll c bs = some ds →
    Paired (Sh P.K F H) vs ds
  | [], [], ds, T, τ, M, hl, hT, hs, h => by cases h; exact .nil
  | b :: bs, v :: vs, ds, T, τ, M, hl, hT, .cons s0 hs, h => by
    obtain ⟨d, h1, h2⟩ := obind_some (show (b.rd c).bind _ = _ from h)
    obtain ⟨ds', h3, rfl⟩ := omap_some h2
    refine .cons ?_ ?_
    · exact Mt.rdSh (A := c ++ T) (α := σ ++ τ) (c := c) (σ := σ) (r := b) (B := bs.map tcB) (β := vs.map some) M (by rw [List.length_append, List.length_append]; omega) rfl rfl hl s0 h1
    · refine rdAll_sound (T := T ++ [tcB b]) (τ := τ ++ [some v]) (by simpa using M) hl (by simp only [List.length_append, List.length_singleton]; omega) hs h3
theorem bi_boot (b : BI) : bootBuiltins b.nm = some b.val := by
  cases b <;> decide +kernel
theorem e_bi {bi : BI} (ha : Snd Γ args) {C : Ctx} {P : Par} {k : Nat} {X : Cx} {x : Expr} (G : Good Γ C P k X) (h : chkE (.bi bi args) C x = true) : PE X x (tE P Γ (.bi bi args)) := by
  simp only [chkE] at h
  split at h
  · rename_i nm p0 e es p1
    simp only [Bool.and_eq_true] at h
    obtain ⟨⟨h0, h1⟩, h2⟩ := h
    have h0 := of_decide_eq_true h0
    subst h0
    obtain ⟨g1, g2, g3⟩ := G.blt h1
    have hst := chkA_stars h2
    rw [List.all_cons, Bool.and_eq_true] at hst
    have hn : bi.nm ≠ "__name__" := by cases bi <;> decide +kernel
    have hA := ha.pa _ P _ _ _ G h2
    have key : PE X (.Call (.Name bi.nm p0) (e :: es) [] p1) (tCB (rOpN X.K (biD bi)) (tA P Γ args)) := by
      have hc := call_biD G.calm G.room.g G.hu bi
      have hb := bi_boot bi
      cases bi
      all_goals first
        | exact pe_callB hc g1 g3 hb hA hn g2 (star_of hst.1) (back_any hst.2)
        | exact pe_callTy hc g1 g3 hb hA hn g2 (star_of hst.1) (back_any hst.2)
    refine key.imp ?_
    rintro σ H Q ⟨F, c, T, τ, r, c', M, hl, hev, q⟩
    simp only [ev] at hev
    obtain ⟨bs, c1, e1, hev⟩ := bind_ok hev
    obtain ⟨hev, rfl⟩ := opt_ok hev
    obtain ⟨ds, r1, hev⟩ := obind_some hev
    obtain ⟨p, r2, rfl⟩ := omap_some hev
    refine ⟨F, c, T, τ, bs, c', M, hl, e1, fun vs H1 F1 M1 l1 s1 => ?_⟩
    refine ⟨F1, ds, p, M1.le, ?_, r2, ?_⟩
    · rw [← G.kp]; exact rdAll_sound M1 l1 (M.tl hl) s1 r1
    · rw [← G.kp]; exact M1.gives (lenA M hl l1) fun u H3 F3 M3 => q u H3 F3 M3 l1 .bv
  · cases h
theorem meth_cond {X : Cx} {p1 : Pos} {es : List Expr} (h : es.all noStar = true) (hl : es.length < 29) : (((backTo p1 (starEach es X.env)).all fun x => !x.fst) && ((backToKw p1 (keywordEach [] X.env)).all fun x => x.fst.isSome) &&
    decide ((es.length + ([] : List Keyword).length + if ([] : List Keyword).isEmpty = true then 0 else 1) < 30)) = true := by
  have e1 : ((backTo p1 (starEach es X.env)).all fun x => !x.fst) = true := by
    rw [stars_of h]
    simp [backTo]
  rw [e1]
  have e2 : decide ((es.length + ([] : List Keyword).length + if ([] : List Keyword).isEmpty = true then 0 else 1) < 30) = true := by
    rw [decide_eq_true_iff]
    simp
    omega
  rw [e2]
  rfl
theorem e_mth {m : MI} (ha : Snd Γ a) (hb : Snd Γ args) {C : Ctx} {P : Par} {k : Nat} {X : Cx} {x : Expr} (G : Good Γ C P k X) (h : chkE (.mth m a args) C x = true) : PE X x (tE P Γ (.mth m a args)) := by
  simp only [chkE] at h
  split at h
  · rename_i ea nm p0 e es p1
    simp only [Bool.and_eq_true] at h
    obtain ⟨⟨⟨⟨⟨h5, h0⟩, h1⟩, h2⟩, h3⟩, h4⟩ := h
    have h4 := of_decide_eq_true h4
    have h0 := of_decide_eq_true h0
    subst h0
    have key : PE X (.Call (.Attribute ea "index" p0) (e :: es) [] p1) (tBM X.K "list" (rMth X.K m) (tE P Γ a) (tA P Γ args)) := by
      have hst := chkA_stars h3
      rw [List.all_cons, Bool.and_eq_true] at hst
      cases m
      exact pe_bm PySem.F.plainAttrs_list PySem.F.slot_list_index PySem.F.type_list_index (mt_D .index) (ha.pe _ _ _ _ _ G h2) (hb.pa _ P _ _ _ G h3) (base_of h1) (meth_cond (by rw [List.all_cons, hst.1, hst.2]; rfl) (by rw [List.length_cons]; omega)) h5 (star_of hst.1) (back_any hst.2)
    refine key.imp ?_
    rintro σ H Q ⟨F, c, T, τ, r, c', M, hl, hev, q⟩
    simp only [ev] at hev
    obtain ⟨ra, c1, e1, v1⟩ := bind_ok hev
    clear hev
    split at v1
    · cases v1
    rename_i hls
    obtain ⟨bs, c2, e2, v2⟩ := bind_ok v1
    clear v1
    obtain ⟨v3, w3⟩ := opt_ok v2
    subst w3
    obtain ⟨dx, r1, v4⟩ := obind_some v3
    obtain ⟨ds, r2, v5⟩ := obind_some v4
    obtain ⟨p, r3, v6⟩ := omap_some v5
    subst v6
    have hT := M.tl hl
    refine e_one ha G h2 M hl e1 fun v H1 F1 M1 l1 s1 st => ⟨?_, ?_⟩
    · cases hr : ra.rd c1 with
      | none => rw [hr] at hls; exact absurd rfl hls
      | some d =>
        rw [hr] at hls
        cases d <;> first | exact absurd rfl hls | skip
        obtain ⟨ad, xs, rfl, hq, t⟩ := (s1 _ hr).lst M1.le
        rw [← G.kp]
        exact .inl ⟨rfl, _, hq⟩
    · refine ⟨F1, c1, T ++ [tcB ra], τ ++ [some v], bs, c', by rw [← List.append_assoc, ← List.append_assoc]; exact M1, l1, e2, fun vs H2 F2 M2 l2 s2 => ?_⟩
      have M3 : Mt P F2 ((c' ++ T) ++ (tcB ra :: bs.map tcB)) ((σ ++ τ) ++ (some v :: vs.map some)) H2 := by simpa using M2
      refine ⟨F2, dx, ds, p, M2.le, ?_, ?_, r3, ?_⟩
      · rw [← G.kp]
        exact Mt.rdSh (A := c' ++ T) (α := σ ++ τ) (c := c') (σ := σ) (r := ra) (B := bs.map tcB) (β := vs.map some) M3 (lenA M hl l2) rfl rfl l2 st r1
      · rw [← G.kp]
        exact rdAll_sound (T := T ++ [tcB ra]) (τ := τ ++ [some v]) (by simpa using M3) l2 (by simp only [List.length_append, List.length_singleton]; omega) s2 r2
      · rw [← G.kp]; exact M3.gives (lenA M hl l2) fun u H3 F3 M3 => q u H3 F3 M3 l2 .bv
  · cases h
end
end T

set_option Elab.async false
set_option linter.all false
set_option maxRecDepth 100000
set_option maxHeartbeats 1000000
/-! The evaluator is right: isinstance, calls, tests, walks. -/
namespace T
open PySem PySem.Spec PyProof.Rows L2
section
variable {Γ : Nat → Option Fn} {a b c args : E}

/-! ### isinstance -/
theorem isi_tys {C : Ctx} {P : Par} {k : Nat} {X : Cx} (G : Good Γ C P k X) : ∀ {ts : List Ty} {es : List Expr}, chkTys C ts es = true → PA X es (fun σ H Q => Q (ts.map fun t => V.ty t.nm) H) ∧ es.length = ts.length
  | [], [], _ => ⟨pa_nil.imp fun σ H Q q => q, rfl⟩
  | t :: ts, .Name x p :: es, h => by
    simp only [chkTys, Bool.and_eq_true] at h
    obtain ⟨⟨h1, h2⟩, h3⟩ := h
    have h1 := of_decide_eq_true h1
    subst h1
    obtain ⟨g1, g2, g3⟩ := G.blt h2
    obtain ⟨ih, il⟩ := isi_tys G h3
    have hb : PE X (.Name (Str.ofString t.nm) p) (tC (.ty t.nm)) := by
      have hv : bootBuiltins (Str.ofString t.nm) = some (.type t.nm) := by cases t <;> decide +kernel
      have hn : (Str.ofString t.nm) ≠ ("__name__" : Str) := by cases t <;> decide +kernel
      exact pe_bltn g1 g3 hv (v := .ty t.nm) rfl hn g2
    exact ⟨(pa_cons hb ih (star_of rfl)).imp fun σ H Q q => q, by rw [List.length_cons, List.length_cons, il]⟩
  | [], _ :: _, h => by cases h
  | _ :: _, [], h => by cases h
  | _ :: _, .BoolOp .. :: _, h | _ :: _, .NamedExpr .. :: _, h | _ :: _, .BinOp .. :: _, h | _ :: _, .UnaryOp .. :: _, h | _ :: _, .Lambda .. :: _, h | _ :: _, .IfExp .. :: _, h | _ :: _, .Dict .. :: _, h | _ :: _, .Set .. :: _, h
  | _ :: _, .ListComp .. :: _, h | _ :: _, .SetComp .. :: _, h | _ :: _, .DictComp .. :: _, h | _ :: _, .GeneratorExp .. :: _, h | _ :: _, .Await .. :: _, h | _ :: _, .Yield .. :: _, h | _ :: _, .YieldFrom .. :: _, h | _ :: _, .Compare .. :: _, h
  | _ :: _, .Call .. :: _, h | _ :: _, .FormattedValue .. :: _, h | _ :: _, .JoinedStr .. :: _, h | _ :: _, .Constant .. :: _, h | _ :: _, .Attribute .. :: _, h | _ :: _, .Subscript .. :: _, h | _ :: _, .Starred .. :: _, h | _ :: _, .List .. :: _, h
  | _ :: _, .Tuple .. :: _, h | _ :: _, .Slice .. :: _, h => by simp only [chkTys] at h; cases h
theorem clsV_tys : ∀ ts : List Ty, Paired ClsV (ts.map fun t => V.ty t.nm) (ts.map fun t => Value.type t.nm)
  | [] => .nil
  | t :: ts => .cons (.ty t.nm) (clsV_tys ts)
theorem boot_isi : bootBuiltins ("isinstance" : Str) = some (.builtin "isinstance") := by decide +kernel
theorem e_isi {one : Bool} {ts : List Ty} (ha : Snd Γ a) {C : Ctx} {P : Par} {k : Nat} {X : Cx} {x : Expr} (G : Good Γ C P k X) (h : chkE (.isi a one ts) C x = true) : PE X x (tE P Γ (.isi a one ts)) := by
  simp only [chkE] at h
  split at h
  · rename_i t nm p0 ea y p1 p2
    simp only [Bool.and_eq_true] at h
    obtain ⟨⟨⟨⟨⟨h0, h1⟩, h2⟩, h3⟩, h4⟩, h5⟩ := h
    have h0 := of_decide_eq_true h0
    have h4 := of_decide_eq_true h4
    subst h0 h4
    obtain ⟨g1, g2, g3⟩ := G.blt h1
    obtain ⟨k1, k2, k3⟩ := G.blt h5
    have hb : PE X (.Name (Str.ofString t.nm) p1) (tC (.ty t.nm)) := by
      have hv : bootBuiltins (Str.ofString t.nm) = some (.type t.nm) := by cases t <;> decide +kernel
      have hn : (Str.ofString t.nm) ≠ ("__name__" : Str) := by cases t <;> decide +kernel
      exact pe_bltn k1 k3 hv (v := .ty t.nm) rfl hn k2
    refine (pe_callB call_isi g1 g3 boot_isi (pa_cons (ha.pe _ P _ _ _ G h3) (pa_cons hb pa_nil (star_of rfl)) (star_of h2)) (by decide) g2 (star_of h2) (back_any rfl)).imp ?_
    rintro σ H Q ⟨F, c, T, τ, r, c', M, hl, hev, q⟩
    simp only [ev] at hev
    obtain ⟨ra, c1, e1, hev⟩ := bind_ok hev
    obtain ⟨hev, w⟩ := opt_ok hev
    subst w
    obtain ⟨dx, r1, w⟩ := omap_some hev
    subst w
    refine e_one ha G h3 M hl e1 fun v H' F' M' l' s _ => ?_
    refine ⟨v, .ty t.nm, .type (tyN dx), .type t.nm, isTyD dx t, rfl, .ty t.nm, ?_, kit_D _ _ _, ?_⟩
    · rw [← G.kp]; exact Sh.ty M'.le (s _ r1)
    · have e : [t].any (isTyD dx) = isTyD dx t := by simp
      rw [← e]
      exact q _ H' F' (M'.fin (lenA M hl l') (.bl _)) l' .dt
  · rename_i nm p0 ea es kk p1 p2
    simp only [Bool.and_eq_true] at h
    obtain ⟨⟨⟨⟨⟨h0, h1⟩, h2⟩, h3⟩, h4⟩, h5⟩ := h
    have h0 := of_decide_eq_true h0
    have h5 := of_decide_eq_true h5
    subst h0
    obtain ⟨g1, g2, g3⟩ := G.blt h1
    obtain ⟨hA, hlen⟩ := isi_tys G h4
    refine (pe_callB call_isiT g1 g3 boot_isi (pa_cons (ha.pe _ P _ _ _ G h3) (pa_cons (pe_tup hA) pa_nil (star_of rfl)) (star_of h2)) (by decide) g2 (star_of h2) (back_any rfl)).imp ?_
    rintro σ H Q ⟨F, c, T, τ, r, c', M, hl, hev, q⟩
    simp only [ev] at hev
    obtain ⟨ra, c1, e1, hev⟩ := bind_ok hev
    obtain ⟨hev, w⟩ := opt_ok hev
    subst w
    obtain ⟨dx, r1, w⟩ := omap_some hev
    subst w
    refine e_one ha G h3 M hl e1 fun v H' F' M' l' s _ => ?_
    refine ⟨by rw [List.length_map]; exact Nat.le_trans h5 (by decide), fun p hp => ?_⟩
    have M2 : Mt P F' (c' ++ T) (σ ++ τ) (upd H' p (.tup (ts.map fun t => V.ty t.nm))) := (M'.take (lenA M hl l')).grow (Le.refl F') (Le.new hp) (M'.le.trans (Le.new hp)) fun _ _ e => .inl e
    refine ⟨v, p, _, .type (tyN dx), _, ts.any (isTyD dx), rfl, upd_same, clsV_tys ts, ?_, kitAny_D _ _ _, ?_⟩
    · rw [← G.kp]
      have s0 := s _ r1
      have s1 : Sh P.K F' (upd H' p (.tup (ts.map fun t => V.ty t.nm))) v dx := by
        rcases s0 with s0 | s0
        · exact .inl s0
        · refine .inr (s0.up (Le.refl F') (fun a e => ?_) fun a o e q => Le.new hp _ _ q)
          obtain ⟨b, o, z1, z2, _⟩ := s0.ref
          rw [e] at z1; cases z1
          exact z2
      exact Sh.ty M2.le s1
    · exact q _ _ F' (M2.pushF (.bl _)) l' .dt
  · cases h

/-! ### calls of defs -/
theorem argsOk_none {K : PySem.W.Frag} {G H : Hp} : ∀ {vs : List V} {ds : List D}, DqAll K G vs ds → ArgsOk K G H none vs ds
  | [], [], _ => True.intro
  | _ :: _, _ :: _, .cons r t => ⟨r, argsOk_none t⟩
theorem argsOk_some {K : PySem.W.Frag} {G H : Hp} {w : V} {x : D} (ow : OwnOk K G H w x) : ∀ {n : Nat} {vs : List V} {ds : List D}, n ≤ vs.length → DqAll K G vs ds → ArgsOk K G H (some n) (vs.insertIdx n w) (ds.insertIdx n x)
  | 0, vs, ds, _, t => by
    rw [List.insertIdx_zero, List.insertIdx_zero]
    exact ⟨ow, argsOk_none t⟩
  | n + 1, v :: vs, d :: ds, h, .cons r t => by
    rw [List.insertIdx_succ_cons, List.insertIdx_succ_cons]
    exact ⟨r, argsOk_some ow (Nat.le_of_succ_le_succ h) t⟩
  | n + 1, [], [], h, _ => absurd h (by simp)
/-- a further place is dropped -/
theorem Mt.dropAt {P : Par} {F H : Hp} {A B : Env} {α β : L2.St} {x : Option Cell} {v : Option V} (M : Mt P F (A ++ x :: B) (α ++ v :: β) H) (hA : A.length = α.length) : Mt P F (A ++ B) (α ++ β) H := by
  have hl := M.len
  simp only [List.length_append, List.length_cons] at hl
  refine M.reindex (fun j => if j < A.length then j else j + 1) (by simp only [List.length_append]; omega) (fun j y hy => ?_) (fun j k y z _ _ e => ?_)
  · by_cases hj : j < A.length
    · rw [if_pos hj]
      rw [cell_left hj] at hy
      exact ⟨cell_left' hy, by rw [List.getElem?_append_left (by omega), List.getElem?_append_left (by omega)]⟩
    · rw [if_neg hj]
      obtain ⟨m, rfl⟩ : ∃ m, j = A.length + m := ⟨j - A.length, by omega⟩
      rw [cell_right] at hy
      refine ⟨?_, ?_⟩
      · rw [show A.length + m + 1 = A.length + (m + 1) from rfl, cell_right]; exact hy
      · rw [List.getElem?_append_right (by omega), List.getElem?_append_right (by omega), show A.length + m + 1 - α.length = (A.length + m - α.length) + 1 by omega]; rfl
  · split at e <;> split at e <;> omega
theorem paired_split {α β : Type} {R : α → β → Prop} : ∀ {bs : List β} {vs : List α} {n : Nat} {b : β}, Paired R vs bs → bs[n]? = some b → ∃ v vs1 vs2 bs1 bs2, vs = vs1 ++ v :: vs2 ∧ bs = bs1 ++ b :: bs2 ∧ vs1.length = n ∧ bs1.length = n ∧ R v b ∧ Paired R (vs1 ++ vs2) (bs1 ++ bs2)
  | b :: bs, v :: vs, 0, _, .cons r t, h => by cases h; exact ⟨v, [], vs, [], bs, rfl, rfl, rfl, rfl, r, t⟩
  | b :: bs, v :: vs, n + 1, _, .cons r t, h => by
    obtain ⟨w, vs1, vs2, bs1, bs2, e1, e2, e3, e4, r', t'⟩ := paired_split t (show bs[n]? = some _ from h)
    subst e1 e2
    exact ⟨w, v :: vs1, vs2, b :: bs1, bs2, rfl, rfl, by simp [e3], by simp [e4], r', .cons r t'⟩
theorem ins_mid {α : Type} : ∀ (l m : List α) (x : α), l ++ x :: m = (l ++ m).insertIdx l.length x
  | [], m, x => by rw [List.length_nil, List.insertIdx_zero]; rfl
  | y :: l, m, x => by
    show y :: (l ++ x :: m) = (y :: (l ++ m)).insertIdx (l.length + 1) x
    rw [List.insertIdx_succ_cons, ins_mid l m x]
theorem bvOf_res {fr : Bool} {d : D} {P : Par} {G' H H' : Hp} {c : Env} {σ : L2.St} {v : V} (M : Mt P G' c σ H') (hH : ∀ a, H a = none → P.H0 a = none) (ne : ∀ i y a, c.cell i = some y → y.st.mut = true → σ[i]? = some (some (V.ref a)) → H a ≠ none) (r : ResOk P.K G' H H' fr v d) : Mt P G' (c ++ [tcB (bvOf (fr, d))]) (σ ++ [some v]) H' := by
  rw [tcB_bvOf]
  unfold ResOk at r
  cases fr with
  | false => exact M.pushF r
  | true =>
    rw [if_pos rfl] at r
    refine M.push (x := ⟨.own, d⟩) ⟨r.1, fun a e => hH a (r.2 a e)⟩ fun _ i y hy m e => ?_
    obtain ⟨b, o, e1, _, _⟩ := r.1.ref
    subst e1
    exact ne i y b hy m e (r.2 b rfl)
theorem call_core {F0 : Fn} {P : Par} {σ : L2.St} {H : Hp} {Q : VK} {F : Hp} {c c' T : Env} {τ : L2.St} {bs : List BV} {vs : List V} {r : BV} (M : Mt P F ((c ++ T) ++ bs.map tcB) ((σ ++ τ) ++ vs.map some) H) (hl : c.length = σ.length) (hs : Paired (SlotAt σ) vs bs)
    (hc : callF F0 bs c = .ok r c') (q : ∀ v H' F', Mt P F' ((c' ++ T) ++ [tcB r]) ((σ ++ τ) ++ [some v]) H' → c'.length = σ.length → SlotAt σ v r → Q v H') (E : XK) : SpF P.K F0 vs H Q E := by
  unfold callF at hc
  split at hc
  · cases hc
  rename_i har
  have har : bs.length = F0.ar := by simpa using har
  have hvl : vs.length = F0.ar := by rw [Paired.length hs]; exact har
  split at hc
  · rename_i hio
    obtain ⟨ds, c1, h1, h2⟩ := bind_ok hc
    split at h2
    · rename_i fr d out hr
      obtain ⟨e1, e2⟩ := ok_inj h2
      subst e1 e2
      obtain ⟨F2, le2, M2, q2, l2⟩ := escAll_sound M hl hs h1
      refine ⟨F2, ds, fr, d, out, M2.le, hvl, by rw [hio]; exact argsOk_none q2, hr, fun v H' G' p => ?_⟩
      have keep : Le H H' := fun b o e => p.keep b o e fun k z => by rw [hio] at z; cases z
      have M3 := M2.grow p.le keep p.le' p.new
      refine q v H' G' (bvOf_res M3 (fun a e => M2.h0 e) (fun i y a hy m e => ?_) p.res) (by omega) .bv
      obtain ⟨b, o, z1, _, z3⟩ := (M2.own hy e m).ref
      cases z1
      rw [z3]; exact fun z => by cases z
    · cases h2
    · cases h2
  · rename_i kk hio
    split at hc
    · cases hc
    rename_i b hb
    split at hc
    · cases hc
    rename_i i di hp
    obtain ⟨ds, c1, h1, h2⟩ := bind_ok hc
    split at h2
    · cases h2
    rename_i x hx
    split at h2
    case isFalse => cases h2
    rename_i hst
    split at h2
    · rename_i fr d out hr
      obtain ⟨e1, e2⟩ := ok_inj h2
      subst e1 e2
      obtain ⟨w, vs1, vs2, bs1, bs2, ev, eb, n1, n2, sw, hs'⟩ := paired_split hs hb
      subst ev eb
      have hbslot : b = .slot i := by
        unfold passIo at hp
        split at hp
        · split at hp
          · cases hp; rfl
          · cases hp; rfl
          · cases hp
        · cases hp
      subst hbslot
      have hw : σ[i]? = some (some w) := sw i rfl
      have er : (bs1 ++ BV.slot i :: bs2).eraseIdx kk = bs1 ++ bs2 := by
        rw [← n2, List.eraseIdx_append_of_length_le (Nat.le_refl _), Nat.sub_self]; rfl
      rw [er] at h1
      have M1 : Mt P F ((c ++ T) ++ (bs1 ++ bs2).map tcB) ((σ ++ τ) ++ (vs1 ++ vs2).map some) H := by
        have M0 : Mt P F (((c ++ T) ++ bs1.map tcB) ++ tcB (.slot i) :: bs2.map tcB) (((σ ++ τ) ++ vs1.map some) ++ some w :: vs2.map some) H := by simpa using M
        have hlen := M0.len
        have := M0.dropAt (by
          have h3 := (Paired.length hs')
          simp only [List.length_append, List.length_map, List.length_cons] at hlen h3 ⊢
          omega)
        simpa using this
      obtain ⟨F2, le2, M2, q2, l2⟩ := escAll_sound M1 hl hs' h1
      have hmut : x.st.mut = true := by rcases hst with z | z <;> rw [z] <;> rfl
      have hi := cell_lt hx
      have hxM : Env.cell (c1 ++ T) i = some x := cell_left' hx
      have hwM : (σ ++ τ)[i]? = some (some w) := by rw [List.getElem?_append_left (by omega)]; exact hw
      have ow := M2.own hxM hwM hmut
      obtain ⟨a, o, ea, ha1, ha2⟩ := ow.ref
      subst ea
      have hins : (vs1 ++ V.ref a :: vs2) = (vs1 ++ vs2).insertIdx kk (V.ref a) := by
        rw [← n1]; exact ins_mid vs1 vs2 _
      refine ⟨F2, ds.insertIdx kk x.d, fr, d, out, M2.le, hvl, ?_, hr, fun v H' G' p => ?_⟩
      · rw [hio, hins]
        exact argsOk_some ow (by rw [List.length_append]; omega) q2
      · have hk : (vs1 ++ V.ref a :: vs2)[kk]? = some (V.ref a) := by
          rw [← n1, List.getElem?_append_right (Nat.le_refl _), Nat.sub_self]; rfl
        have keep : ∀ b o, b ≠ a → H b = some o → H' b = some o := fun b o hb e => p.keep b o e fun k z => by
          rw [hio] at z; cases z
          rw [hk]
          intro z'
          exact hb (V.ref.inj (Option.some.inj z')).symm
        have M3 := M2.change hxM hwM hmut p.le keep p.le' p.new (p.out kk (V.ref a) hio hk)
        have hset : (c1 ++ T).set i (some ⟨x.st, out⟩) = c1.set i (some ⟨x.st, out⟩) ++ T := by rw [List.set_append_left _ _ hi]
        rw [hset] at M3
        refine q v H' G' (bvOf_res (H := H) M3 (fun b e => M2.h0 e) (fun j y b hy m e => ?_) p.res) (by rw [List.length_set]; omega) .bv
        have hy2 : ∃ y', Env.cell (c1 ++ T) j = some y' ∧ y'.st.mut = true := by
          by_cases ej : j = i
          · rw [ej]; exact ⟨x, hxM, hmut⟩
          · rw [← hset, cell_set_ne ej] at hy
            exact ⟨y, hy, m⟩
        obtain ⟨y', hy', m'⟩ := hy2
        obtain ⟨b', o', z1, _, z3⟩ := (M2.own hy' e m').ref
        cases z1
        rw [z3]; exact fun z => by cases z
    · cases h2
    · cases h2
theorem e_call {f : Nat} (ha : Snd Γ args) {C : Ctx} {P : Par} {k : Nat} {X : Cx} {x : Expr} (G : Good Γ C P k X) (h : chkE (.call f args) C x = true) : PE X x (tE P Γ (.call f args)) := by
  cases hf : Γ f with
  | none =>
    refine ⟨fun pins s σ H Q I hq => ?_⟩
    obtain ⟨F, c, T, τ, r, c', M, hl, hev, q⟩ := hq
    simp only [ev] at hev
    obtain ⟨bs, c1, e1, hev⟩ := bind_ok hev
    rw [hf] at hev
    cases hev
  | some F0 =>
    simp only [chkE] at h
    split at h
    · rename_i nm p0 e es p1
      simp only [Bool.and_eq_true] at h
      obtain ⟨⟨h0, h1⟩, h2⟩ := h
      have h0 := of_decide_eq_true h0
      subst h0
      obtain ⟨g1, g2⟩ := G.glob h1
      obtain ⟨fa, fd, ps, d1, d2, d3, d4, _⟩ := (G.defs f F0 hf).ex
      have hst := chkA_stars h2
      rw [List.all_cons, Bool.and_eq_true] at hst
      refine (pe_callG d4 G.room g1 d1 d2 d3 pass0 (ha.pa _ P _ _ _ G h2) g2 (star_of hst.1) (back_any hst.2)).imp ?_
      rintro σ H Q ⟨F, c, T, τ, r, c', M, hl, hev, q⟩
      simp only [ev] at hev
      obtain ⟨bs, c1, e1, hev⟩ := bind_ok hev
      rw [hf] at hev
      refine ⟨F, c, T, τ, bs, c1, M, hl, e1, fun vs H1 F1 M1 l1 s1 => ?_⟩
      show SpF X.K F0 (vs ++ []) H1 Q E0
      rw [List.append_nil, ← G.kp]
      exact call_core M1 l1 s1 hev q _
    · cases h

/-! ### keywords -/
theorem k_nil {C : Ctx} {P : Par} {k : Nat} {X : Cx} {ws : List Keyword} (G : Good Γ C P k X) (h : chkK .nil C ws = true) : PK X ws (tA P Γ .nil) := by
  simp only [chkK] at h
  split at h
  · refine ⟨fun pos pins s σ H Q I q => pk_nil.run pos pins s σ H Q I ?_⟩
    obtain ⟨F, c, T, τ, bs, c', M, hl, hev, q⟩ := q
    simp only [evs] at hev
    cases hev
    exact q [] H F (by simpa using M) hl .nil
  · cases h
theorem k_cons (ha : Snd Γ a) (hb : Snd Γ b) {C : Ctx} {P : Par} {k : Nat} {X : Cx} {ws : List Keyword} (G : Good Γ C P k X) (h : chkK (.cons a b) C ws = true) : PK X ws (tA P Γ (.cons a b)) := by
  simp only [chkK] at h
  split at h
  · rename_i w ws
    simp only [Bool.and_eq_true] at h
    obtain ⟨⟨h1, h2⟩, h3⟩ := h
    obtain ⟨nm, e, kpos⟩ := w
    refine ⟨fun pos pins s σ H Q I q => (pk_cons (ha.pe _ P _ _ _ G h2) (hb.pk _ P _ _ _ G h3)).run pos pins s σ H Q I ?_⟩
    obtain ⟨F, c, T, τ, bs, c', M, hl, hev, q⟩ := q
    simp only [evs] at hev
    obtain ⟨ra, c1, e1, hev⟩ := bind_ok hev
    obtain ⟨rs, c2, e2, hev⟩ := bind_ok hev
    cases hev
    refine ⟨F, c, T, τ, ra, c1, M, hl, e1, fun v H1 F1 M1 l1 s1 => ?_⟩
    refine ⟨F1, c1, T ++ [tcB ra], τ ++ [some v], rs, c', by rw [← List.append_assoc, ← List.append_assoc]; exact M1, l1, e2, fun vs H2 F2 M2 l2 s2 => ?_⟩
    exact q (v :: vs) H2 F2 (by simpa using M2) l2 (.cons s1 s2)
  · cases h
theorem kwEach {env : PySem.Env} : ∀ kws : List Keyword, keywordEach kws env = kws.map fun w => (w.arg, eval w.value env)
  | [] => rfl
  | ⟨n, v, p⟩ :: r => by
    show (n, eval v env) :: keywordEach r env = _
    rw [kwEach r]; rfl
theorem kw_all : ∀ {a : E} {C : Ctx} {ws : List Keyword}, chkK a C ws = true → ws.all (fun w => w.arg.isSome) = true
  | .nil, C, ws, h => by
    simp only [chkK] at h
    split at h
    · rfl
    · cases h
  | .cons a b, C, ws, h => by
    simp only [chkK] at h
    split at h
    · simp only [Bool.and_eq_true] at h
      rw [List.all_cons, h.1.1, kw_all (a := b) h.2]; rfl
    · cases h
  | .var _, _, _, h | .non, _, _, h | .bl _, _, _, h | .int _, _, _, h | .str _, _, _, h | .gl _ _, _, _, h | .bin _ _ _, _, _, h | .neg _, _, _, h | .nt _, _, _, h | .andE _ _, _, _, h | .orE _ _, _, _, h
  | .ite _ _ _, _, _, h | .cmp _ _ _, _, _, h | .chain _ _ _ _ _, _, _, h | .tupE _, _, _, h | .lstE _, _, _, h | .ix _ _, _, _, h | .sl _ _ _, _, _, h | .nopart, _, _, h | .rvs _, _, _, h | .call _ _, _, _, h | .callK _ _ _ _ _, _, _, h
  | .bi _ _, _, _, h | .mth _ _ _, _, _, h | .isi _ _ _, _, _, h | .lc _ _ _ _ _, _, _, h | .yes, _, _, h | .val _, _, _, h | .tru _, _, _, h | .seq _, _, _, h | .range1 _, _, _, h | .range2 _ _, _, _, h | .range3 _ _ _, _, _, h
  | .enum _, _, _, h | .enumS _ _, _, _, h | .zip _ _, _, _, h | .zipK _ _, _, _, h | .rev _, _, _, h => by simp only [chkK] at h; cases h
def tCallKw (sp : Sp) (n : Nat) (ks : List Str) (pm : List Nat) (E : XK) (t tk : TA) : TE := fun σ H Q => t σ H fun vs H1 => tk σ H1 fun zs H2 => vs.length = n ∧ zs.length = ks.length ∧ sp (permL pm (vs ++ zs)) H2 Q E
theorem run_kw {X : Cx} {k : Nat} {f : Addr} {fd : FuncData} {ps : List Str} {sp : Sp} {n : Nat} {ks : List Str} {pm : List Nat} {E : XK} {pins : List (Addr × Obj)} {σ : L2.St} {H : Hp} {s : Shared} {Q : VK} {us ws : List Value} {vs zs : List V} (F : FnG X.prog X.w X.K X.mg X.base CX0 k f fd ps sp) (hr : RoomG k X.A) (hb : KwOk X.K fd ps n ks pm)
    (I : L2.Inv X pins σ H s) (r : Vals vs us) (rz : Vals zs ws) (h1 : vs.length = n) (h2 : zs.length = ks.length) (h : sp (permL pm (vs ++ zs)) H Q E) : wpAny (model X.prog X.w) X.A (call (.ref f) us (ks.zip ws)) (EP X pins σ Q) X.xe s := by
  have r2 := permL_vals (r.append rz) pm
  refine wpAny_call (codeAny_mono (F.run X.A X.stack s H ⟨us, ks.zip ws⟩ (permL pm (us ++ ws)) (permL pm (vs ++ zs)) Q E hr I.env0 (hb s us ws I.kIn (by rw [← r.length]; exact h1) (by rw [← rz.length]; exact h2)) r2 h) fun r s' hq => ?_)
  cases r with
  | error e => exact hq.elim
  | ok fl =>
    cases fl with
    | ret u => exact I.after hq
    | next => exact False.elim hq
    | brk => exact False.elim hq
    | cont => exact False.elim hq
theorem kw_all' {X : Cx} {kws : List Keyword} {pos : Pos} (hall : kws.all (fun w => w.arg.isSome) = true) : (backToKw pos (keywordEach kws X.env)).all (·.1.isSome) = true := by
  rw [kwEach]; unfold backToKw
  rw [List.map_map, List.all_map]
  exact hall
theorem kw_names {X : Cx} {kws : List Keyword} {pos : Pos} {ks : List Str} (hks : kws.filterMap Keyword.arg = ks) : (backToKw pos (keywordEach kws X.env)).filterMap (·.1) = ks := by
  rw [kwEach]; unfold backToKw
  rw [List.map_map, List.filterMap_map, ← hks]
  rfl
theorem kw_none {X : Cx} {kws : List Keyword} {pos : Pos} (hall : kws.all (fun w => w.arg.isSome) = true) : (backToKw pos (keywordEach kws X.env)).any (·.1.isNone) = false := by
  rw [List.any_eq_false]
  intro w hw
  have := List.all_eq_true.mp (kw_all' (X := X) (pos := pos) hall) w hw
  cases h : w.1 with
  | none => rw [h] at this; cases this
  | some _ => simp
theorem pe_kw {X : Cx} {k : Nat} {f : Addr} {fd : FuncData} {ps : List Str} {sp : Sp} {n : Nat} {ks : List Str} {pm : List Nat} {E : XK} {x : Str} {p pos : Pos} {e : Expr} {es : List Expr} {kws : List Keyword} {t tk : TA} (F : FnG X.prog X.w X.K X.mg X.base CX0 k f fd ps sp) (hr : RoomG k X.A) (hg : Gl X x) (hm : X.mg x = some (.ref f)) (hk : PySem.W.keepIn X.K (.ref f) = true) (hb : KwOk X.K fd ps n ks pm)
    (ha : PA X (e :: es) t) (hst : (e :: es).all noStar = true) (hkw : PK X kws tk) (hall : kws.all (fun w => w.arg.isSome) = true) (hks : kws.filterMap Keyword.arg = ks) (hdb : (x == ("__debug__" : Str)) = false) : PE X (.Call (.Name x p) (e :: es) kws pos) (tCallKw sp n ks pm E t tk) := by
  refine ⟨fun pins s σ H Q I h => ?_⟩
  refine wpAny_Call_Name_kw (ld_glob I hg hm ?_ hdb)
  rw [List.all_cons, Bool.and_eq_true] at hst
  refine PySem.W.callWith_KW (h₀ := X.base) I.ok.mod.kin hk (kw_all' hall) (thn (ha.run pos pins s σ H _ I h) fun us s1 ⟨vs, H1, I1, r, q⟩ => ?_) (by rw [kw_none hall, Bool.or_false]; exact back_any (by rw [List.all_cons, hst.1, hst.2]; rfl)) (star_of hst.1)
  refine thn (hkw.run pos pins s1 σ H1 _ I1 q) fun ws s2 ⟨zs, H2, I2, rz, q1, q2, q3⟩ => ⟨I2.kIn, ?_⟩
  rw [kw_names hks]
  exact run_kw F hr hb I2 r rz q1 q2 q3
theorem pe_kw0 {X : Cx} {k : Nat} {f : Addr} {fd : FuncData} {ps : List Str} {sp : Sp} {ks : List Str} {pm : List Nat} {E : XK} {x : Str} {p pos : Pos} {kws : List Keyword} {tk : TA} (F : FnG X.prog X.w X.K X.mg X.base CX0 k f fd ps sp) (hr : RoomG k X.A) (hg : Gl X x) (hm : X.mg x = some (.ref f)) (hk : PySem.W.keepIn X.K (.ref f) = true) (hb : KwOk X.K fd ps 0 ks pm)
    (hkw : PK X kws tk) (hall : kws.all (fun w => w.arg.isSome) = true) (hks : kws.filterMap Keyword.arg = ks) (hdb : (x == ("__debug__" : Str)) = false) : PE X (.Call (.Name x p) [] kws pos) (fun σ H Q => tk σ H fun zs H2 => zs.length = ks.length ∧ sp (permL pm zs) H2 Q E) := by
  refine ⟨fun pins s σ H Q I h => ?_⟩
  refine wpAny_Call_Name_kw (ld_glob I hg hm ?_ hdb)
  refine PySem.W.callWith_KW0 (h₀ := X.base) I.ok.mod.kin hk (kw_all' hall) ?_ (by rw [kw_none hall]; rfl)
  refine thn (hkw.run pos pins s σ H _ I h) fun ws s2 ⟨zs, H2, I2, rz, q2, q3⟩ => ⟨I2.kIn, ?_⟩
  rw [kw_names hks]
  exact run_kw (vs := []) F hr hb I2 .nil rz rfl q2 q3
theorem kw_core {F0 : Fn} {P : Par} {pm : List Nat} {σ : L2.St} {H : Hp} {Q : VK} {F : Hp} {c c' T : Env} {τ : L2.St} {bs : List BV} {vs : List V} {r : BV} (M : Mt P F ((c ++ T) ++ bs.map tcB) ((σ ++ τ) ++ vs.map some) H) (hl : c.length = σ.length) (hs : Paired (SlotAt σ) vs bs)
    (hc : callKF F0 pm bs c = .ok r c') (q : ∀ v H' F', Mt P F' ((c' ++ T) ++ [tcB r]) ((σ ++ τ) ++ [some v]) H' → c'.length = σ.length → SlotAt σ v r → Q v H') (E : XK) : SpF P.K F0 (permL pm vs) H Q E := by
  unfold callKF at hc
  split at hc
  · rename_i hio
    obtain ⟨ds, c1, h1, h2⟩ := bind_ok hc
    split at h2
    · cases h2
    rename_i har
    have har : (permL pm ds).length = F0.ar := by simpa using har
    split at h2
    · rename_i fr d out hr
      obtain ⟨e1, e2⟩ := ok_inj h2
      subst e1 e2
      obtain ⟨F2, le2, M2, q2, l2⟩ := escAll_sound M hl hs h1
      have q3 := permL_q q2 pm
      refine ⟨F2, permL pm ds, fr, d, out, M2.le, by rw [q3.length]; exact har, by rw [hio]; exact argsOk_none q3, hr, fun v H' G' p => ?_⟩
      have keep : Le H H' := fun b o e => p.keep b o e fun k z => by rw [hio] at z; cases z
      have M3 := M2.grow p.le keep p.le' p.new
      refine q v H' G' (bvOf_res M3 (fun a e => M2.h0 e) (fun i y a hy m e => ?_) p.res) (by omega) .bv
      obtain ⟨b, o, z1, _, z3⟩ := (M2.own hy e m).ref
      cases z1
      rw [z3]; exact fun z => by cases z
    · cases h2
    · cases h2
  · cases hc
theorem chkA_len : ∀ {a : E} {C : Ctx} {es : List Expr} {c c' : Env} {bs : List BV}, chkA a C es = true → evs Γ a c = .ok bs c' → bs.length = es.length
  | .nil, C, es, c, c', bs, h, e => by
    cases es with
    | nil => simp only [evs] at e; cases e; rfl
    | cons _ _ => simp [chkA] at h
  | .cons a b, C, es, c, c', bs, h, e => by
    cases es with
    | nil => simp [chkA] at h
    | cons x xs =>
      simp only [evs] at e
      obtain ⟨ra, c1, e1, e⟩ := bind_ok e
      obtain ⟨rs, c2, e2, e⟩ := bind_ok e
      cases e
      simp only [chkA, Bool.and_eq_true] at h
      have := chkA_len (a := b) h.2 e2
      simp [this]
  | .var _, _, _, _, _, _, h, _ | .non, _, _, _, _, _, h, _ | .bl _, _, _, _, _, _, h, _ | .int _, _, _, _, _, _, h, _ | .str _, _, _, _, _, _, h, _ | .gl _ _, _, _, _, _, _, h, _ | .bin _ _ _, _, _, _, _, _, h, _ | .neg _, _, _, _, _, _, h, _ | .nt _, _, _, _, _, _, h, _ | .andE _ _, _, _, _, _, _, h, _ | .orE _ _, _, _, _, _, _, h, _
  | .ite _ _ _, _, _, _, _, _, h, _ | .cmp _ _ _, _, _, _, _, _, h, _ | .chain _ _ _ _ _, _, _, _, _, _, h, _ | .tupE _, _, _, _, _, _, h, _ | .lstE _, _, _, _, _, _, h, _ | .ix _ _, _, _, _, _, _, h, _ | .sl _ _ _, _, _, _, _, _, h, _ | .nopart, _, _, _, _, _, h, _ | .rvs _, _, _, _, _, _, h, _ | .call _ _, _, _, _, _, _, h, _ | .callK _ _ _ _ _, _, _, _, _, _, h, _
  | .bi _ _, _, _, _, _, _, h, _ | .mth _ _ _, _, _, _, _, _, h, _ | .isi _ _ _, _, _, _, _, _, h, _ | .lc _ _ _ _ _, _, _, _, _, _, h, _ | .yes, _, _, _, _, _, h, _ | .val _, _, _, _, _, _, h, _ | .tru _, _, _, _, _, _, h, _ | .seq _, _, _, _, _, _, h, _ | .range1 _, _, _, _, _, _, h, _ | .range2 _ _, _, _, _, _, _, h, _ | .range3 _ _ _, _, _, _, _, _, h, _
  | .enum _, _, _, _, _, _, h, _ | .enumS _ _, _, _, _, _, _, h, _ | .zip _ _, _, _, _, _, _, h, _ | .zipK _ _, _, _, _, _, _, h, _ | .rev _, _, _, _, _, _, h, _ => by simp only [chkA] at h; cases h
theorem chkK_len : ∀ {a : E} {C : Ctx} {es : List Keyword} {c c' : Env} {bs : List BV}, chkK a C es = true → evs Γ a c = .ok bs c' → bs.length = es.length
  | .nil, C, es, c, c', bs, h, e => by
    cases es with
    | nil => simp only [evs] at e; cases e; rfl
    | cons _ _ => simp [chkK] at h
  | .cons a b, C, es, c, c', bs, h, e => by
    cases es with
    | nil => simp [chkK] at h
    | cons x xs =>
      simp only [evs] at e
      obtain ⟨ra, c1, e1, e⟩ := bind_ok e
      obtain ⟨rs, c2, e2, e⟩ := bind_ok e
      cases e
      simp only [chkK, Bool.and_eq_true] at h
      have := chkK_len (a := b) h.2 e2
      simp [this]
  | .var _, _, _, _, _, _, h, _ | .non, _, _, _, _, _, h, _ | .bl _, _, _, _, _, _, h, _ | .int _, _, _, _, _, _, h, _ | .str _, _, _, _, _, _, h, _ | .gl _ _, _, _, _, _, _, h, _ | .bin _ _ _, _, _, _, _, _, h, _ | .neg _, _, _, _, _, _, h, _ | .nt _, _, _, _, _, _, h, _ | .andE _ _, _, _, _, _, _, h, _ | .orE _ _, _, _, _, _, _, h, _
  | .ite _ _ _, _, _, _, _, _, h, _ | .cmp _ _ _, _, _, _, _, _, h, _ | .chain _ _ _ _ _, _, _, _, _, _, h, _ | .tupE _, _, _, _, _, _, h, _ | .lstE _, _, _, _, _, _, h, _ | .ix _ _, _, _, _, _, _, h, _ | .sl _ _ _, _, _, _, _, _, h, _ | .nopart, _, _, _, _, _, h, _ | .rvs _, _, _, _, _, _, h, _ | .call _ _, _, _, _, _, _, h, _ | .callK _ _ _ _ _, _, _, _, _, _, h, _
  | .bi _ _, _, _, _, _, _, h, _ | .mth _ _ _, _, _, _, _, _, h, _ | .isi _ _ _, _, _, _, _, _, h, _ | .lc _ _ _ _ _, _, _, _, _, _, h, _ | .yes, _, _, _, _, _, h, _ | .val _, _, _, _, _, _, h, _ | .tru _, _, _, _, _, _, h, _ | .seq _, _, _, _, _, _, h, _ | .range1 _, _, _, _, _, _, h, _ | .range2 _ _, _, _, _, _, _, h, _ | .range3 _ _ _, _, _, _, _, _, h, _
  | .enum _, _, _, _, _, _, h, _ | .enumS _ _, _, _, _, _, _, h, _ | .zip _ _, _, _, _, _, _, h, _ | .zipK _ _, _, _, _, _, _, h, _ | .rev _, _, _, _, _, _, h, _ => by simp only [chkK] at h; cases h
theorem fmap_len : ∀ {l : List Keyword}, l.all (fun w => w.arg.isSome) = true → (l.filterMap Keyword.arg).length = l.length
  | [], _ => rfl
  | w :: l, h => by
    rw [List.all_cons, Bool.and_eq_true] at h
    cases hw : w.arg with
    | none => rw [hw] at h; cases h.1
    | some x => rw [List.filterMap_cons, hw, List.length_cons, List.length_cons, fmap_len h.2]
theorem paired_app {α β : Type} {R : α → β → Prop} : ∀ {as : List α} {bs : List β} {as' : List α} {bs' : List β}, Paired R as bs → Paired R as' bs' → Paired R (as ++ as') (bs ++ bs')
  | [], [], _, _, .nil, h => h
  | _ :: _, _ :: _, _, _, .cons r t, h => .cons r (paired_app t h)
theorem chkA_nil : ∀ {a : E} {C : Ctx}, chkA a C [] = true → a = .nil := by
  intro a C h
  cases a <;> first | rfl | (simp [chkA] at h; done)
theorem e_callK {f : Nat} {ks : List Str} {pm : List Nat} (ha : Snd Γ a) (hb : Snd Γ b) {C : Ctx} {P : Par} {k : Nat} {X : Cx} {x : Expr} (G : Good Γ C P k X) (h : chkE (.callK f a b ks pm) C x = true) : PE X x (tE P Γ (.callK f a b ks pm)) := by
  cases hf : Γ f with
  | none =>
    refine ⟨fun pins s σ H Q I hq => ?_⟩
    obtain ⟨F, c, T, τ, r, c', M, hl, hev, q⟩ := hq
    simp only [ev] at hev
    obtain ⟨bs, c1, e1, hev⟩ := bind_ok hev
    obtain ⟨bs', c2, e2, hev⟩ := bind_ok hev
    rw [hf] at hev
    cases hev
  | some F0 =>
    simp only [chkE] at h
    split at h
    · rename_i nm p0 es w kws' p1
      simp only [Bool.and_eq_true] at h
      obtain ⟨⟨⟨⟨⟨h0, h1⟩, h2⟩, h3⟩, h4⟩, h5⟩ := h
      have h0 := of_decide_eq_true h0
      have h4 := of_decide_eq_true h4
      have h5 := of_decide_eq_true h5
      subst h0
      obtain ⟨g1, g2⟩ := G.glob h1
      obtain ⟨fa, fd, ps, d1, d2, d3, d4, d5⟩ := (G.defs f F0 hf).ex
      rw [← h4] at h5
      rw [← h4]
      have hkw := d5 _ _ _ h5
      cases es with
      | nil =>
        have en := chkA_nil h2
        subst en
        refine (pe_kw0 (E := E0) d4 G.room g1 d1 d2 hkw (hb.pk _ P _ _ _ G h3) (kw_all h3) rfl g2).imp ?_
        rintro σ H Q ⟨F, c, T, τ, r, c', M, hl, hev, q⟩
        simp only [ev] at hev
        obtain ⟨bs, c1, e1, hev⟩ := bind_ok hev
        simp only [evs] at e1
        cases e1
        obtain ⟨bs', c2, e2, hev⟩ := bind_ok hev
        rw [hf] at hev
        refine ⟨F, c, T, τ, bs', c2, M, hl, e2, fun vs H1 F1 M1 l1 s1 => ⟨?_, ?_⟩⟩
        · rw [Paired.length s1, chkK_len h3 e2]; exact (fmap_len (kw_all h3)).symm
        · rw [← G.kp]
          exact kw_core M1 l1 s1 hev q _
      | cons e es =>
        have hst := chkA_stars h2
        refine (pe_kw (E := E0) d4 G.room g1 d1 d2 hkw (ha.pa _ P _ _ _ G h2) hst (hb.pk _ P _ _ _ G h3) (kw_all h3) rfl g2).imp ?_
        rintro σ H Q ⟨F, c, T, τ, r, c', M, hl, hev, q⟩
        simp only [ev] at hev
        obtain ⟨bs, c1, e1, hev⟩ := bind_ok hev
        obtain ⟨bs', c2, e2, hev⟩ := bind_ok hev
        rw [hf] at hev
        refine ⟨F, c, T, τ, bs, c1, M, hl, e1, fun vs H1 F1 M1 l1 s1 => ?_⟩
        refine ⟨F1, c1, T ++ bs.map tcB, τ ++ vs.map some, bs', c2, by rw [← List.append_assoc, ← List.append_assoc]; exact M1, l1, e2, fun zs H2 F2 M2 l2 s2 => ⟨?_, ?_, ?_⟩⟩
        · rw [Paired.length s1, chkA_len h2 e1]
        · rw [Paired.length s2, chkK_len h3 e2]; exact (fmap_len (kw_all h3)).symm
        · rw [← G.kp]
          exact kw_core (bs := bs ++ bs') (by simpa using M2) l2 (paired_app s1 s2) hev q _
    · cases h
/-! ### tests -/
theorem t_nt (ha : Snd Γ a) {C : Ctx} {P : Par} {k : Nat} {X : Cx} {x : Expr} (G : Good Γ C P k X) (h : chkT (.nt a) C x = true) : PT X x (tT P Γ (.nt a)) := by
  simp only [chkT] at h
  split at h
  · refine (pt_not (ha.pt _ P _ _ _ G h)).imp ?_
    rintro σ H Q ⟨F, c, T, τ, r, c', bb, M, hl, hev, hb', q⟩
    simp only [ev] at hev
    obtain ⟨ra, c1, e1, hev⟩ := bind_ok hev
    obtain ⟨hev, w⟩ := opt_ok hev
    subst w
    obtain ⟨dx, r1, hev⟩ := obind_some hev
    obtain ⟨i, r2, w⟩ := omap_some hev
    subst w
    have e := toBl_eq r2
    subst e
    have eb : (!i) = bb := by cases hb'; rfl
    subst eb
    exact ⟨F, c, T, τ, ra, c', i, M, hl, e1, r1, fun H' F' M' l' => q H' F' M' l'⟩
  · cases h
theorem tand_core {P : Par} {tb : TT} (htb : ∀ σ H Q, tT P Γ b σ H Q → tb σ H Q) {σ : L2.St} {H : Hp} {Q : Bool → Hp → Prop} (h : tT P Γ (.andE a b) σ H Q) : tAnd (tT P Γ a) tb σ H Q := by
  obtain ⟨F, c, T, τ, r, c', bb, M, hl, hev, hb', q⟩ := h
  simp only [ev] at hev
  obtain ⟨ra, c1, e1, hev⟩ := bind_ok hev
  cases hr : (ra.rd c1).bind toBl with
  | none => rw [hr] at hev; cases hev
  | some k =>
    rw [hr] at hev
    obtain ⟨dx, r1, r2⟩ := obind_some hr
    have e := toBl_eq r2
    subst e
    refine ⟨F, c, T, τ, ra, c1, k, M, hl, e1, r1, fun H' F' M' l' => ?_⟩
    cases k with
    | true => exact htb _ _ _ ⟨F', c1, T, τ, r, c', bb, M', l', hev, hb', q⟩
    | false =>
      cases hev
      have eb : false = bb := by cases hb'; rfl
      subst eb
      exact q H' F' M' l'
theorem tor_core {P : Par} {tb : TT} (htb : ∀ σ H Q, tT P Γ b σ H Q → tb σ H Q) {σ : L2.St} {H : Hp} {Q : Bool → Hp → Prop} (h : tT P Γ (.orE a b) σ H Q) : tOr (tT P Γ a) tb σ H Q := by
  obtain ⟨F, c, T, τ, r, c', bb, M, hl, hev, hb', q⟩ := h
  simp only [ev] at hev
  obtain ⟨ra, c1, e1, hev⟩ := bind_ok hev
  cases hr : (ra.rd c1).bind toBl with
  | none => rw [hr] at hev; cases hev
  | some k =>
    rw [hr] at hev
    obtain ⟨dx, r1, r2⟩ := obind_some hr
    have e := toBl_eq r2
    subst e
    refine ⟨F, c, T, τ, ra, c1, k, M, hl, e1, r1, fun H' F' M' l' => ?_⟩
    cases k with
    | false => exact htb _ _ _ ⟨F', c1, T, τ, r, c', bb, M', l', hev, hb', q⟩
    | true =>
      cases hev
      have eb : true = bb := by cases hb'; rfl
      subst eb
      exact q H' F' M' l'
/-- a chain of and (or) as a test -/
theorem w_and (ha : Snd Γ a) (hb : Snd Γ b) {C : Ctx} {P : Par} {k : Nat} {X : Cx} {x : Expr} (G : Good Γ C P k X) (h : chkT (.andE a b) C x = true) (hw : ∀ (x y : Expr) (r : List Expr) (p : Pos), chkT b C (.BoolOp .And (x :: y :: r) p) = true → PW X (.BoolOp .And (x :: y :: r) p) (tT P Γ b)) : PW X x (tT P Γ (.andE a b)) := by
  have impW : ∀ {x : Expr} {t t' : TT}, PW X x t → (∀ σ H Q, t' σ H Q → t σ H Q) → PW X x t' := fun h i => ⟨fun wh pins s σ H Q I q => h.run wh pins s σ H Q I (i σ H Q q)⟩
  simp only [chkT] at h
  split at h
  · obtain ⟨h1, h2⟩ := bool_split h
    exact impW (pw_and (ha.pt _ P _ _ _ G h1) (pw_and1 (hb.pt _ P _ _ _ G h2))) fun σ H Q q => tand_core (fun _ _ _ z => z) q
  · obtain ⟨h1, h2⟩ := bool_split h
    exact impW (pw_and (ha.pt _ P _ _ _ G h1) (hw _ _ _ _ h2)) fun σ H Q q => tand_core (fun _ _ _ z => z) q
  · cases h
theorem w_or (ha : Snd Γ a) (hb : Snd Γ b) {C : Ctx} {P : Par} {k : Nat} {X : Cx} {x : Expr} (G : Good Γ C P k X) (h : chkT (.orE a b) C x = true) (hw : ∀ (x y : Expr) (r : List Expr) (p : Pos), chkT b C (.BoolOp .Or (x :: y :: r) p) = true → PW X (.BoolOp .Or (x :: y :: r) p) (tT P Γ b)) : PW X x (tT P Γ (.orE a b)) := by
  have impW : ∀ {x : Expr} {t t' : TT}, PW X x t → (∀ σ H Q, t' σ H Q → t σ H Q) → PW X x t' := fun h i => ⟨fun wh pins s σ H Q I q => h.run wh pins s σ H Q I (i σ H Q q)⟩
  simp only [chkT] at h
  split at h
  · obtain ⟨h1, h2⟩ := bool_split h
    exact impW (pw_or (ha.pt _ P _ _ _ G h1) (pw_or1 (hb.pt _ P _ _ _ G h2))) fun σ H Q q => tor_core (fun _ _ _ z => z) q
  · obtain ⟨h1, h2⟩ := bool_split h
    exact impW (pw_or (ha.pt _ P _ _ _ G h1) (hw _ _ _ _ h2)) fun σ H Q q => tor_core (fun _ _ _ z => z) q
  · cases h
theorem t_val (ha : Snd Γ a) {C : Ctx} {P : Par} {k : Nat} {X : Cx} {x : Expr} (G : Good Γ C P k X) (h : chkT (.val a) C x = true) : PT X x (tT P Γ (.val a)) := by
  simp only [chkT] at h
  obtain ⟨h1, h2⟩ := bool_split h
  refine (pt_val (ha.pe _ P _ _ _ G h2) (fun w => isTrue_of h1 w)).imp ?_
  rintro σ H Q ⟨F, c, T, τ, r, c', bb, M, hl, hev, hb', q⟩
  simp only [ev] at hev
  refine e_one ha G h2 M hl hev fun v H' F' M' l' s _ => ⟨bb, (s _ hb').bl, q H' F' (M'.take (lenA M hl l')) l'⟩
theorem Sh.tru {K : PySem.W.Frag} {F H : Hp} {v : V} {d : D} {b : Bool} (le : Le F H) (s : Sh K F H v d) (h : truD d = some b) : TruV K v H b := by
  cases d <;> simp only [truD] at h
  · rw [s.non]; cases h; rfl
  · rw [s.bl]; cases h; rfl
  · rw [s.int]; cases h; rfl
  · split at h
    · cases h; rw [s.str]; exact ⟨by assumption, rfl⟩
    · cases h
  · cases h
    obtain ⟨a, xs, rfl, q, t⟩ := s.lst le
    refine .inl ⟨xs, q, ?_⟩
    have := t.length
    rename_i ds
    cases ds <;> cases xs <;> first | rfl | (simp at this)
  · cases h
    obtain ⟨a, xs, rfl, q, t⟩ := s.tup le
    refine .inr (.inl ⟨xs, q, ?_⟩)
    have := t.length
    rename_i ds
    cases ds <;> cases xs <;> first | rfl | (simp at this)
  · cases h
theorem t_tru (ha : Snd Γ a) {C : Ctx} {P : Par} {k : Nat} {X : Cx} {x : Expr} (G : Good Γ C P k X) (h : chkT (.tru a) C x = true) : PT X x (tT P Γ (.tru a)) := by
  simp only [chkT] at h
  obtain ⟨h1, h2⟩ := bool_split h
  refine (pt_truth (ha.pe _ P _ _ _ G h2) (fun w => isTrue_of h1 w)).imp ?_
  rintro σ H Q ⟨F, c, T, τ, r, c', bb, M, hl, hev, hb', q⟩
  simp only [ev] at hev
  obtain ⟨ra, c1, e1, hev⟩ := bind_ok hev
  obtain ⟨hev, w⟩ := opt_ok hev
  subst w
  obtain ⟨dx, r1, hev⟩ := obind_some hev
  obtain ⟨k, r2, w⟩ := omap_some hev
  subst w
  have eb : k = bb := by cases hb'; rfl
  subst eb
  refine e_one ha G h2 M hl e1 fun v H' F' M' l' s _ => ⟨k, ?_, q H' F' (M'.take (lenA M hl l')) l'⟩
  rw [← G.kp]
  exact (s _ r1).tru M'.le r2
end
end T

set_option Elab.async false
set_option linter.all false
set_option maxRecDepth 100000
set_option maxHeartbeats 1000000
/-! Targets; what is walked. -/
namespace T
open PySem PySem.Spec PyProof.Rows L2

/-! ### targets -/
def gT (P : Par) (tg : Tg) : TG := fun v σ H Q => ∃ F c T τ d c', Mt P F (c ++ T) (σ ++ τ) H ∧ c.length = σ.length ∧ Dq P.K F v d ∧ assign tg d c = some c' ∧
  ∀ σ', Mt P F (c' ++ T) (σ' ++ τ) H → σ'.length = σ.length → c'.length = c.length → (∀ j, j ∉ tg.slots → σ'[j]? = σ[j]?) → Q σ' H
def gTs (P : Par) (tg : Tg) : TGs := fun vs σ H Q => ∃ F c T τ ds c', Mt P F (c ++ T) (σ ++ τ) H ∧ c.length = σ.length ∧ DqAll P.K F vs ds ∧ assign tg (.lst ds) c = some c' ∧
  ∀ σ', Mt P F (c' ++ T) (σ' ++ τ) H → σ'.length = σ.length → c'.length = c.length → (∀ j, j ∉ tg.slots → σ'[j]? = σ[j]?) → Q σ' H
theorem _root_.L2.PG.imp {X : Cx} {e : Expr} {t t' : TG} (h : PG X e t) (i : ∀ v σ H Q, t' v σ H Q → t v σ H Q) : PG X e t' := ⟨fun pins s σ H v u Q I r q => h.run pins s σ H v u Q I r (i v σ H Q q)⟩
theorem _root_.L2.PGs.imp {X : Cx} {e : List Expr} {t t' : TGs} (h : PGs X e t) (i : ∀ v σ H Q, t' v σ H Q → t v σ H Q) : PGs X e t' := ⟨fun pins s σ H v u Q I r q => h.run pins s σ H v u Q I r (i v σ H Q q)⟩
theorem asg_of {env : PySem.Env} {e : Expr} {es : List Expr} (h : noStar e = true) : assignEach (e :: es) env = (false, PySem.assign e env) :: assignEach es env := by
  cases e <;> first | rfl | cases h
theorem asgs_len {env : PySem.Env} : ∀ {es : List Expr}, es.all noStar = true → (assignEach es env).length = es.length ∧ (assignEach es env).findIdx? (·.1) = none
  | [], _ => ⟨rfl, rfl⟩
  | e :: es, h => by
    rw [List.all_cons, Bool.and_eq_true] at h
    obtain ⟨h1, h2⟩ := asgs_len (env := env) h.2
    rw [asg_of h.1]
    refine ⟨by rw [List.length_cons, List.length_cons, h1], ?_⟩
    rw [List.findIdx?_cons, h2]; rfl
theorem put_some {c c' : Env} {i : Nat} {x : Cell} (h : c.put i x = some c') : i < c.length ∧ c' = c.set i (some x) := by
  unfold Env.put at h
  split at h
  · rename_i z; cases h; exact ⟨z.1, rfl⟩
  · cases h
/-- a value is stored -/
theorem Mt.put {P : Par} {F H : Hp} {c T : Env} {σ τ : L2.St} {i : Nat} {x : Cell} {v : V} (M : Mt P F ((c ++ T) ++ [some x]) ((σ ++ τ) ++ [some v]) H) (hl : c.length = σ.length) (hi : i < c.length) : Mt P F (c.set i (some x) ++ T) (σ.set i (some v) ++ τ) H := by
  have h2 : (c ++ T).length = (σ ++ τ).length := by
    have := M.len
    simp only [List.length_append, List.length_singleton] at this ⊢
    omega
  have M2 := Mt.store (c := c ++ T) (σ := σ ++ τ) (T := []) (τ := []) (i := i) M h2 (by rw [List.length_append]; omega)
  rw [List.append_nil, List.append_nil, List.set_append_left _ _ hi, List.set_append_left _ _ (by omega)] at M2
  exact M2
theorem g_nm {C : Ctx} {Γ : Nat → Option Fn} {P : Par} {k : Nat} {X : Cx} {i : Nat} {e : Expr} (G : Good Γ C P k X) (h : chkG C (.nm i) e = true) : PG X e (gT P (.nm i)) := by
  cases e <;> simp only [chkG, chkX, reduceCtorEq, Bool.false_eq_true] at h
  rw [Bool.and_eq_true] at h
  obtain ⟨l1, l2⟩ := G.loc h.2
  refine (pg_name (i := i) (by rw [G.N]; exact G.nd) (by rw [G.N]; exact of_decide_eq_true h.1) l1 l2).imp ?_
  rintro v σ H Q ⟨F, c, T, τ, d, c', M, hl, q, ha, f⟩
  simp only [assign] at ha
  obtain ⟨hi, w⟩ := put_some ha
  subst w
  refine f _ ((M.pushF q).put hl hi) (by rw [List.length_set]) (by rw [List.length_set]) fun j hj => ?_
  rw [List.getElem?_set_ne]
  intro z
  exact hj (by simp [Tg.slots, z])
theorem g_all {C : Ctx} {Γ : Nat → Option Fn} {P : Par} {k : Nat} {X : Cx} (G : Good Γ C P k X) : ∀ tg : Tg, (∀ e, chkG C tg e = true → PG X e (gT P tg)) ∧ (∀ es kk pos, chkG C (.tp tg) (.Tuple es kk pos) = true → PGs X es (gTs P tg) ∧ es.all noStar = true ∧ ∀ ds c c', assign tg (.lst ds) c = some c' → ds.length = es.length)
  | .nm i => ⟨fun e h => g_nm G h, fun es kk pos h => by cases es <;> simp [chkG, chkX] at h⟩
  | .nil => ⟨fun e h => by cases e <;> simp [chkG, chkX] at h, fun es kk pos h => by
    cases es with
    | nil =>
      refine ⟨pgs_nil.imp ?_, rfl, fun ds c c' ha => ?_⟩
      · rintro vs σ H Q ⟨F, c, T, τ, ds, c', M, hl, q, ha, f⟩
        cases q with
        | nil =>
          simp only [assign] at ha
          cases ha
          exact ⟨rfl, f σ M rfl rfl fun _ _ => rfl⟩
        | cons _ _ => simp [assign] at ha
      · cases ds with
        | nil => rfl
        | cons _ _ => simp [assign] at ha
    | cons _ _ => simp [chkG, chkX] at h⟩
  | .tp l => ⟨fun e h => by
      cases e <;> first | (simp [chkG, chkX] at h; done) | skip
      rename_i es kk pos
      obtain ⟨h1, h2, h3⟩ := (g_all G l).2 es kk pos h
      obtain ⟨n1, n2⟩ := asgs_len (env := X.env) h2
      refine (pg_tup G.calm h1 n1 n2).imp ?_
      rintro v σ H Q ⟨F, c, T, τ, d, c', M, hl, q, ha, f⟩
      cases q <;> first | (simp [assign] at ha; done) | skip
      rename_i ad xs ds sq t
      simp only [assign] at ha
      exact ⟨ad, xs, rfl, by rw [← G.kp]; exact M.le.sqt sq, by rw [t.length]; exact h3 ds c c' ha, F, c, T, τ, ds, c', M, hl, t, ha, f⟩,
    fun es kk pos h => by cases es <;> simp [chkG, chkX] at h⟩
  | .cons a b => ⟨fun e h => by cases e <;> simp [chkG, chkX] at h, fun es kk pos h => by
    cases es with
    | nil => simp [chkG, chkX] at h
    | cons e es =>
      simp only [chkG, chkX, Bool.and_eq_true] at h
      obtain ⟨⟨h1, h2⟩, h3⟩ := h
      have ia := (g_all G a).1 e h2
      obtain ⟨ib, jb, kb⟩ := (g_all G b).2 es kk pos h3
      refine ⟨(pgs_cons ia ib (by rw [asg_of h1]; rfl)).imp ?_, by rw [List.all_cons, h1, jb]; rfl, fun ds c c' ha => ?_⟩
      · rintro vs σ H Q ⟨F, c, T, τ, ds, c', M, hl, q, ha, f⟩
        cases q with
        | nil => simp [assign] at ha
        | cons r t =>
          simp only [assign] at ha
          obtain ⟨c1, a1, a2⟩ := obind_some ha
          refine ⟨_, _, rfl, F, c, T, τ, _, c1, M, hl, r, a1, fun σ1 M1 l1 l2 k1 => ?_⟩
          refine ⟨F, c1, T, τ, _, c', M1, by omega, t, a2, fun σ2 M2 l3 l4 k2 => f σ2 M2 (by omega) (by omega) fun j hj => ?_⟩
          simp only [Tg.slots, List.mem_append, not_or] at hj
          rw [k2 j hj.2, k1 j hj.1]
      · cases ds with
        | nil => simp [assign] at ha
        | cons d ds =>
          simp only [assign] at ha
          obtain ⟨c1, a1, a2⟩ := obind_some ha
          rw [List.length_cons, List.length_cons, kb ds c1 c' a2]⟩

/-! ### walks -/
theorem sup_list {K : PySem.W.Frag} {F0 : Hp} {a : Addr} {vs : List V} {xs : List D} (s : SqL K F0 a vs) (t : DqAll K F0 vs xs) : Supply K F0 (Itl K a) xs := by
  refine ⟨fun i F H hi l1 l2 => ?_, fun F H l1 l2 => ⟨vs, l2.sql (l1.sql s), by rw [t.length]; exact Nat.le_refl _⟩, fun i F H v H' hi l1 l2 y => ?_⟩
  · have hi' : i < vs.length := by rw [t.length]; exact hi
    exact ⟨vs, vs[i], l2.sql (l1.sql s), by simp [hi']⟩
  · obtain ⟨rfl, y⟩ := y
    have hv := y vs (l2.sql (l1.sql s))
    obtain ⟨d, h1, h2⟩ := t.getV hv
    exact ⟨d, h1, .old (h2.up l1)⟩
theorem sup_tup {K : PySem.W.Frag} {F0 : Hp} {a : Addr} {vs : List V} {xs : List D} (s : SqT K F0 a vs) (t : DqAll K F0 vs xs) : Supply K F0 (Itt K a) xs := by
  refine ⟨fun i F H hi l1 l2 => ?_, fun F H l1 l2 => ⟨vs, l2.sqt (l1.sqt s), by rw [t.length]; exact Nat.le_refl _⟩, fun i F H v H' hi l1 l2 y => ?_⟩
  · have hi' : i < vs.length := by rw [t.length]; exact hi
    exact ⟨vs, vs[i], l2.sqt (l1.sqt s), by simp [hi']⟩
  · obtain ⟨rfl, y⟩ := y
    have hv := y vs (l2.sqt (l1.sqt s))
    obtain ⟨d, h1, h2⟩ := t.getV hv
    exact ⟨d, h1, .old (h2.up l1)⟩
theorem rangeD_length : ∀ (lo : Int) (n : Nat), (rangeD lo n).length = n
  | _, 0 => rfl
  | lo, n + 1 => by rw [rangeD, List.length_cons, rangeD_length]
theorem rangeD_get : ∀ (lo : Int) (n i : Nat), i < n → (rangeD lo n)[i]? = some (.int (lo + i))
  | lo, n + 1, 0, _ => by rw [rangeD]; simp
  | lo, n + 1, i + 1, h => by
    rw [rangeD, List.getElem?_cons_succ, rangeD_get (lo + 1) n i (by omega)]
    congr 2
    omega
theorem sup_range {K : PySem.W.Frag} {F0 : Hp} {lo : Int} {n : Nat} : Supply K F0 (Itr lo n) (rangeD lo n) := by
  refine ⟨fun i F H hi _ _ => by rw [rangeD_length] at hi; exact hi, fun F H _ _ => by rw [rangeD_length]; exact Nat.le_refl _, fun i F H v H' hi l1 l2 y => ?_⟩
  rw [rangeD_length] at hi
  obtain ⟨rfl, rfl⟩ := y
  exact ⟨_, rangeD_get lo n i hi, .old (.int _)⟩
theorem enumD_length : ∀ (k : Int) (xs : List D), (enumD k xs).length = xs.length
  | _, [] => rfl
  | k, x :: xs => by rw [enumD, List.length_cons, List.length_cons, enumD_length]
theorem enumD_get : ∀ (k : Int) (xs : List D) (i : Nat) (d : D), xs[i]? = some d → (enumD k xs)[i]? = some (.tup [.int (k + i), d])
  | _, [], _, _, h => by simp at h
  | k, x :: xs, 0, d, h => by simp at h; subst h; rw [enumD]; simp
  | k, x :: xs, i + 1, d, h => by
    rw [enumD, List.getElem?_cons_succ, enumD_get (k + 1) xs i d (by simpa using h)]
    congr 4
    omega
/-- a list or a tuple, frozen -/
def SqF (t : Bool) (K : PySem.W.Frag) (F : Hp) (v : V) (xs : List D) : Prop := ∃ a vs, v = .ref a ∧ Sq t K F a vs ∧ DqAll K F vs xs
theorem items_sq {K : PySem.W.Frag} {F : Hp} {v : V} {d : D} {xs : List D} (h : Dq K F v d) (e : itemsD d = some xs) : ∃ t, SqF t K F v xs := by
  cases h <;> simp only [itemsD, reduceCtorEq] at e
  · cases e; rename_i s t; exact ⟨false, _, _, rfl, s, t⟩
  · cases e; rename_i s t; exact ⟨true, _, _, rfl, s, t⟩
theorem Le.sq {K : PySem.W.Frag} {t : Bool} {F H : Hp} (h : Le F H) {a : Addr} {xs : List V} (r : Sq t K F a xs) : Sq t K H a xs := by
  cases t
  · exact h.sql r
  · exact h.sqt r
theorem sup_enum {K : PySem.W.Frag} {F0 : Hp} {t : Bool} {a : Addr} {vs : List V} {xs : List D} (s : Sq t K F0 a vs) (r : DqAll K F0 vs xs) : Supply K F0 (IteS t 0 K a) (enumD 0 xs) := by
  refine ⟨fun i F H hi l1 l2 => ?_, fun F H l1 l2 => ⟨vs, l2.sq (l1.sq s), by rw [enumD_length, r.length]⟩, fun i F H v H' hi l1 l2 y => ?_⟩
  · have hi' : i < vs.length := by rw [r.length, ← enumD_length 0]; exact hi
    exact ⟨vs, vs[i], l2.sq (l1.sq s), by simp [hi']⟩
  · obtain ⟨T, x, rfl, h2, rfl, h4⟩ := y
    have hv := h4 vs (l2.sq (l1.sq s))
    obtain ⟨d, h1, h3⟩ := r.getV hv
    exact ⟨_, enumD_get 0 xs i d h1, .tup h2 (.cons (.int _) (.cons (h3.up l1) .nil))⟩
theorem zipD_length : ∀ xs ys : List D, (zipD xs ys).length = min xs.length ys.length
  | [], ys => by simp [zipD]
  | _ :: _, [] => by simp [zipD]
  | x :: xs, y :: ys => by rw [zipD, List.length_cons, List.length_cons, List.length_cons, zipD_length]; omega
theorem zipD_get : ∀ (xs ys : List D) (i : Nat) (d e : D), xs[i]? = some d → ys[i]? = some e → (zipD xs ys)[i]? = some (.tup [d, e])
  | [], _, _, _, _, h, _ => by simp at h
  | _ :: _, [], _, _, _, _, h => by simp at h
  | x :: xs, y :: ys, 0, d, e, h, h' => by simp at h h'; subst h h'; rw [zipD]; simp
  | x :: xs, y :: ys, i + 1, d, e, h, h' => by rw [zipD, List.getElem?_cons_succ]; exact zipD_get xs ys i d e (by simpa using h) (by simpa using h')
theorem sup_zip {K : PySem.W.Frag} {F0 : Hp} {t u : Bool} {a b : Addr} {vs ws : List V} {xs ys : List D} (s : Sq t K F0 a vs) (r : DqAll K F0 vs xs) (s' : Sq u K F0 b ws) (r' : DqAll K F0 ws ys) : Supply K F0 (ItzS t u K a b) (zipD xs ys) := by
  have e1 := r.length
  have e2 := r'.length
  refine ⟨fun i F H hi l1 l2 => ?_, fun F H l1 l2 => ⟨vs, ws, l2.sq (l1.sq s), l2.sq (l1.sq s'), ?_⟩, fun i F H v H' hi l1 l2 y => ?_⟩
  · rw [zipD_length] at hi
    have h1 : i < vs.length := by omega
    have h2 : i < ws.length := by omega
    exact ⟨vs, ws, vs[i], ws[i], l2.sq (l1.sq s), l2.sq (l1.sq s'), by simp [h1], by simp [h2]⟩
  · rw [zipD_length]; omega
  · obtain ⟨T, x, z, rfl, h2, rfl, h4, h5⟩ := y
    obtain ⟨d, q1, q2⟩ := r.getV (h4 vs (l2.sq (l1.sq s)))
    obtain ⟨e, q3, q4⟩ := r'.getV (h5 ws (l2.sq (l1.sq s')))
    exact ⟨_, zipD_get xs ys i d e q1 q3, .tup h2 (.cons (q2.up l1) (.cons (q4.up l1) .nil))⟩

section
variable {Γ : Nat → Option Fn} {a b c args : E}
/-- one operand, frozen -/
theorem e_esc (ha : Snd Γ a) {C : Ctx} {P : Par} {k : Nat} {X : Cx} {x : Expr} (G : Good Γ C P k X) (h2 : chkE a C x = true) {Z : V → Hp → Prop} {σ : L2.St} {H : Hp} {F : Hp} {c c1 c' T : Env} {τ : L2.St} {ra : BV} {d : D} (M : Mt P F (c ++ T) (σ ++ τ) H) (hl : c.length = σ.length) (e1 : ev Γ a c = .ok ra c1) (e2 : ra.esc c1 = .ok d c')
    (q : ∀ v H' F', Mt P F' (c' ++ T) (σ ++ τ) H' → c'.length = σ.length → Dq P.K F' v d → Z v H') : tE P Γ a σ H Z := by
  refine ⟨F, c, T, τ, ra, c1, M, hl, e1, fun v H1 F1 M1 l1 s1 => ?_⟩
  have hT := M.tl hl
  obtain ⟨F2, x2, le2, M2, q2, l2⟩ := esc_sound (A := T) (B := []) (α := τ) (β := []) (by simpa using M1) l1 hT s1 e2
  have M3 : Mt P F2 ((c' ++ T) ++ [x2]) ((σ ++ τ) ++ [some v]) H1 := by simpa using M2
  exact q v H1 F2 (M3.take (by rw [List.length_append, List.length_append]; omega)) (by omega) q2
theorem i_seq (ha : Snd Γ a) {C : Ctx} {P : Par} {k : Nat} {X : Cx} {x tg : Expr} (G : Good Γ C P k X) (h : chkI (.seq a) C x tg = true) : PI X tg x (tI P Γ (.seq a)) := by
  simp only [chkI] at h
  obtain ⟨h1, h2⟩ := bool_split h
  refine (pi_seq (ha.pe _ P _ _ _ G h2)).imp ?_
  rintro σ H R ⟨F, c, T, τ, xs, c', M, hl, hev, q⟩
  simp only [evi] at hev
  obtain ⟨ra, c1, e1, v1⟩ := bind_ok hev
  obtain ⟨d, c2, e2, v2⟩ := bind_ok v1
  obtain ⟨v3, w3⟩ := opt_ok v2
  subst w3
  refine e_esc ha G h2 M hl e1 e2 fun v H' F' M' l' dq => ?_
  obtain ⟨t, ad, vs, rfl, s, r⟩ := items_sq dq v3
  refine ⟨ad, rfl, ?_⟩
  rw [← G.kp]
  cases t
  · exact .inl ⟨vs, M'.le.sql s, q _ H' F' M' l' (sup_list s r)⟩
  · exact .inr ⟨vs, M'.le.sqt s, q _ H' F' M' l' (sup_tup s r)⟩
theorem in62_of {i : Int} (h : in62 i = true) : -(2 ^ 62) ≤ i ∧ i < 2 ^ 62 := by
  unfold in62 at h
  rw [Bool.and_eq_true] at h
  exact ⟨of_decide_eq_true h.1, of_decide_eq_true h.2⟩
theorem i_range1 (ha : Snd Γ a) {C : Ctx} {P : Par} {k : Nat} {X : Cx} {x tg : Expr} (G : Good Γ C P k X) (h : chkI (.range1 a) C x tg = true) : PI X tg x (tI P Γ (.range1 a)) := by
  simp only [chkI] at h
  split at h
  · simp only [Bool.and_eq_true] at h
    obtain ⟨⟨⟨h0, h1⟩, h2⟩, h3⟩ := h
    have h0 := of_decide_eq_true h0
    subst h0
    obtain ⟨g1, g2, g3⟩ := G.blt h1
    refine (pi_range1 g1 g3 (pa_cons (ha.pe _ P _ _ _ G h3) pa_nil (star_of h2)) (star_of h2)).imp ?_
    rintro σ H R ⟨F, c, T, τ, xs, c', M, hl, hev, q⟩
    simp only [evi] at hev
    obtain ⟨ra, c1, e1, v1⟩ := bind_ok hev
    obtain ⟨v2, w2⟩ := opt_ok v1
    subst w2
    obtain ⟨i, v3, v4⟩ := obind_some v2
    obtain ⟨d, r1, r2⟩ := obind_some v3
    have e := toInt_eq r2
    subst e
    split at v4
    · rename_i hz
      cases v4
      refine e_one ha G h3 M hl e1 fun v H' F' M' l' s _ => ?_
      obtain ⟨b1, b2⟩ := in62_of hz
      refine ⟨i, by rw [(s _ r1).int], b1, b2, q _ H' F' (M'.take (lenA M hl l')) l' sup_range⟩
    · cases v4
  · cases h
theorem i_range2 (ha : Snd Γ a) (hb : Snd Γ b) {C : Ctx} {P : Par} {k : Nat} {X : Cx} {x tg : Expr} (G : Good Γ C P k X) (h : chkI (.range2 a b) C x tg = true) : PI X tg x (tI P Γ (.range2 a b)) := by
  simp only [chkI] at h
  split at h
  · simp only [Bool.and_eq_true] at h
    obtain ⟨⟨⟨⟨⟨h0, h1⟩, h2⟩, h2'⟩, h3⟩, h4⟩ := h
    have h0 := of_decide_eq_true h0
    subst h0
    obtain ⟨g1, g2, g3⟩ := G.blt h1
    refine (pi_range2 g1 g3 (pa_cons (ha.pe _ P _ _ _ G h3) (pa_cons (hb.pe _ P _ _ _ G h4) pa_nil (star_of h2')) (star_of h2)) (star_of h2 |>.trans (by rw [star_of h2']; rfl)) (star_of h2')).imp ?_
    rintro σ H R ⟨F, c, T, τ, xs, c', M, hl, hev, q⟩
    simp only [evi] at hev
    obtain ⟨ra, c1, e1, v1⟩ := bind_ok hev
    obtain ⟨rb, c2, e2, v1'⟩ := bind_ok v1
    obtain ⟨v2, w2⟩ := opt_ok v1'
    subst w2
    obtain ⟨i, v3, v4⟩ := obind_some v2
    obtain ⟨j, v5, v6⟩ := obind_some v4
    obtain ⟨d, r1, r2⟩ := obind_some v3
    obtain ⟨d', r3, r4⟩ := obind_some v5
    have e := toInt_eq r2
    have e' := toInt_eq r4
    subst e e'
    split at v6
    · rename_i hz
      cases v6
      rw [Bool.and_eq_true] at hz
      refine e_two ha hb M hl e1 e2 fun v w H' F' M' l' s1 s2 _ _ => ?_
      obtain ⟨b1, b2⟩ := in62_of hz.1
      obtain ⟨b3, b4⟩ := in62_of hz.2
      refine ⟨i, j, by rw [(s1 _ r1).int, (s2 _ r3).int], ⟨b1, b2, b3, b4⟩, q _ H' F' (M'.take (lenA M hl l')) l' sup_range⟩
    · cases v6
  · cases h
theorem i_enum (ha : Snd Γ a) {C : Ctx} {P : Par} {k : Nat} {X : Cx} {x tg : Expr} (G : Good Γ C P k X) (h : chkI (.enum a) C x tg = true) : PI X tg x (tI P Γ (.enum a)) := by
  simp only [chkI] at h
  split at h
  · simp only [Bool.and_eq_true] at h
    obtain ⟨⟨⟨h0, h1⟩, h2⟩, h3⟩ := h
    have h0 := of_decide_eq_true h0
    subst h0
    obtain ⟨g1, g2, g3⟩ := G.blt h1
    refine (pi_enumS g1 g3 (pa_cons (ha.pe _ P _ _ _ G h3) pa_nil (star_of h2)) (star_of h2)).imp ?_
    rintro σ H R ⟨F, c, T, τ, xs, c', M, hl, hev, q⟩
    simp only [evi] at hev
    obtain ⟨ra, c1, e1, v1⟩ := bind_ok hev
    obtain ⟨d, c2, e2, v2⟩ := bind_ok v1
    obtain ⟨v3, w3⟩ := opt_ok v2
    subst w3
    obtain ⟨ys, v4, w4⟩ := omap_some v3
    subst w4
    refine e_esc ha G h3 M hl e1 e2 fun v H' F' M' l' dq => ?_
    obtain ⟨t, ad, vs, rfl, s, r⟩ := items_sq dq v4
    refine ⟨t, ad, vs, rfl, ?_⟩
    rw [← G.kp]
    exact ⟨M'.le.sq s, q _ H' F' M' l' (sup_enum s r)⟩
  · cases h
theorem i_zip (ha : Snd Γ a) (hb : Snd Γ b) {C : Ctx} {P : Par} {k : Nat} {X : Cx} {x tg : Expr} (G : Good Γ C P k X) (h : chkI (.zip a b) C x tg = true) : PI X tg x (tI P Γ (.zip a b)) := by
  simp only [chkI] at h
  split at h
  · simp only [Bool.and_eq_true] at h
    obtain ⟨⟨⟨⟨⟨h0, h1⟩, h2⟩, h2'⟩, h3⟩, h4⟩ := h
    have h0 := of_decide_eq_true h0
    subst h0
    obtain ⟨g1, g2, g3⟩ := G.blt h1
    refine (pi_zipS g1 g3 (pa_cons (ha.pe _ P _ _ _ G h3) (pa_cons (hb.pe _ P _ _ _ G h4) pa_nil (star_of h2')) (star_of h2)) (star_of h2) (back_any (by rw [List.all_cons, h2']; rfl))).imp ?_
    rintro σ H R ⟨F, c, T, τ, xs, c', M, hl, hev, q⟩
    simp only [evi] at hev
    obtain ⟨ra, c1, e1, v1⟩ := bind_ok hev
    obtain ⟨rb, c2, e2, v2⟩ := bind_ok v1
    obtain ⟨d, c3, e3, v3⟩ := bind_ok v2
    obtain ⟨e, c4, e4, v4⟩ := bind_ok v3
    obtain ⟨v5, w5⟩ := opt_ok v4
    subst w5
    obtain ⟨xs', v6, v7⟩ := obind_some v5
    obtain ⟨ys, v8, w8⟩ := omap_some v7
    subst w8
    have hT := M.tl hl
    refine e_two ha hb M hl e1 e2 fun v w H' F' M' l' s1 s2 sv sw => ?_
    obtain ⟨F2, x2, le2, M2, q2, l2⟩ := esc_sound (A := T) (B := [tcB rb]) (α := τ) (β := [some w]) (by simpa using M') l' hT sv e3
    obtain ⟨F3, x3, le3, M3, q3, l3⟩ := esc_sound (A := T ++ [x2]) (B := []) (α := τ ++ [some v]) (β := []) (by simpa using M2) (by omega) (by simp only [List.length_append, List.length_singleton]; omega) sw e4
    have M4 : Mt P F3 ((c' ++ T) ++ [x2, x3]) ((σ ++ τ) ++ [some v, some w]) H' := by simpa using M3
    obtain ⟨t, ad, vs, rfl, s, r⟩ := items_sq (q2.up le3) v6
    obtain ⟨u, bd, ws, rfl, s', r'⟩ := items_sq q3 v8
    refine ⟨t, u, ad, bd, vs, ws, rfl, ?_⟩
    rw [← G.kp]
    exact ⟨M4.le.sq s, M4.le.sq s', q _ H' F3 (M4.take (by rw [List.length_append, List.length_append]; omega)) (by omega) (sup_zip s r s' r')⟩
  · cases h
end
end T

set_option Elab.async false
set_option linter.all false
set_option maxRecDepth 100000
set_option maxHeartbeats 1000000
/-! Comprehensions. -/
namespace T
open PySem PySem.Spec PyProof.Rows L2
section
variable {P : Par} {F H : Hp} {c T : Env} {σ τ : L2.St}
theorem wipeE_length (l : List Nat) (c : Env) : (wipeE l c).length = c.length := by
  induction l with
  | nil => rfl
  | cons i l ih => rw [wipeE, List.length_set, ih]
theorem restE_length (o : Env) (l : List Nat) (c : Env) : (restE o l c).length = c.length := by
  induction l with
  | nil => rfl
  | cons i l ih => rw [restE, List.length_set, ih]
theorem wipe_get_ne {l : List Nat} {j : Nat} (h : j ∉ l) : (wipe σ l)[j]? = σ[j]? := by
  induction l with
  | nil => rfl
  | cons i l ih =>
    simp only [List.mem_cons, not_or] at h
    rw [wipe, List.getElem?_set_ne (Ne.symm h.1), ih h.2]
theorem wipe_get {l : List Nat} {j : Nat} (h : j ∈ l) (hj : j < σ.length) : (wipe σ l)[j]? = some none := by
  induction l with
  | nil => cases h
  | cons i l ih =>
    rw [wipe]
    by_cases e : j = i
    · subst e
      rw [List.getElem?_set_self (by rw [wipe_length]; exact hj)]
    · rw [List.getElem?_set_ne (Ne.symm e)]
      exact ih ((List.mem_cons.mp h).resolve_left e)
theorem wipe_same {σ' : L2.St} {l : List Nat} (hl : σ'.length = σ.length) (h : ∀ j, j ∉ l → σ'[j]? = σ[j]?) : wipe σ' l = wipe σ l := by
  apply List.ext_getElem?
  intro j
  by_cases hj : j ∈ l
  · by_cases hz : j < σ.length
    · rw [wipe_get hj hz, wipe_get hj (by omega)]
    · rw [List.getElem?_eq_none (by rw [wipe_length]; omega), List.getElem?_eq_none (by rw [wipe_length]; omega)]
  · rw [wipe_get_ne hj, wipe_get_ne hj, h j hj]
theorem wipeE_cell_ne {l : List Nat} {j : Nat} (h : j ∉ l) : (wipeE l c).cell j = c.cell j := by
  induction l with
  | nil => rfl
  | cons i l ih =>
    simp only [List.mem_cons, not_or] at h
    rw [wipeE, cell_set_ne h.1, ih h.2]
theorem wipeE_cell {l : List Nat} {j : Nat} (h : j ∈ l) : (wipeE l c).cell j = none := by
  induction l with
  | nil => cases h
  | cons i l ih =>
    rw [wipeE]
    by_cases e : j = i
    · subst e
      by_cases hj : j < (wipeE l c).length
      · rw [cell_set_self hj]
      · unfold Env.cell
        rw [List.getElem?_eq_none (by rw [List.length_set]; omega)]; rfl
    · rw [cell_set_ne e]
      exact ih ((List.mem_cons.mp h).resolve_left e)
theorem restE_cell_ne {o : Env} {l : List Nat} {j : Nat} (h : j ∉ l) : (restE o l c).cell j = c.cell j := by
  induction l with
  | nil => rfl
  | cons i l ih =>
    simp only [List.mem_cons, not_or] at h
    rw [restE, cell_set_ne h.1, ih h.2]
theorem restE_cell {o : Env} {l : List Nat} {j : Nat} (h : j ∈ l) (hj : j < c.length) : (restE o l c).cell j = o.cell j := by
  induction l with
  | nil => cases h
  | cons i l ih =>
    rw [restE]
    by_cases e : j = i
    · subst e
      rw [cell_set_self (by rw [restE_length]; exact hj)]
    · rw [cell_set_ne e]
      exact ih ((List.mem_cons.mp h).resolve_left e)
theorem Mt.wipe (own : List Nat) (M : Mt P F (c ++ T) (σ ++ τ) H) (hl : c.length = σ.length) : Mt P F (wipeE own c ++ T) (L2.wipe σ own ++ τ) H := by
  have hT := M.tl hl
  refine M.reindex id (by simp only [List.length_append, wipeE_length, wipe_length]; omega) (fun j y hy => ?_) fun j k _ _ _ _ e => e
  by_cases hj : j < c.length
  · rw [cell_left (by rw [wipeE_length]; exact hj)] at hy
    have hn : j ∉ own := fun z => by rw [wipeE_cell z] at hy; cases hy
    rw [wipeE_cell_ne hn] at hy
    exact ⟨cell_left' hy, by rw [id, List.getElem?_append_left (by rw [wipe_length]; omega), List.getElem?_append_left (by omega), wipe_get_ne hn]⟩
  · obtain ⟨m, rfl⟩ : ∃ m, j = c.length + m := ⟨j - c.length, by omega⟩
    have e := cell_right (c := wipeE own c) (T := T) (i := m)
    rw [wipeE_length] at e
    rw [e] at hy
    refine ⟨by rw [id, cell_right]; exact hy, ?_⟩
    rw [id, List.getElem?_append_right (by rw [wipe_length]; omega), List.getElem?_append_right (by omega), wipe_length]
theorem Mt.rest {own : List Nat} {c1 T1 : Env} {τ1 : L2.St} {F1 H1 : Hp} (M : Mt P F (wipeE own c ++ T) (L2.wipe σ own ++ τ) H) (M1 : Mt P F1 (c1 ++ T1) (σ ++ τ1) H1) (le : Le F1 F) (hl : c.length = σ.length) (h1 : c1.length = σ.length)
    (ho : own.all (free? c1) = true) : Mt P F (restE c1 own c ++ T) (σ ++ τ) H := by
  have hT := M.tl (by rw [wipeE_length, wipe_length]; exact hl)
  have hb : ∀ j, j ∈ own → ∀ y, c1.cell j = some y → y.st = .fz := fun j hj y hy => by
    have z := List.all_eq_true.mp ho j hj
    unfold free? at z
    rw [hy] at z
    obtain ⟨st, d⟩ := y
    cases st <;> first | rfl | cases z
  have key : ∀ j y, Env.cell (restE c1 own c ++ T) j = some y → (j ∈ own ∧ j < c.length ∧ c1.cell j = some y ∧ y.st = .fz) ∨ (Env.cell (wipeE own c ++ T) j = some y ∧ (σ ++ τ)[j]? = (L2.wipe σ own ++ τ)[j]?) := fun j y hy => by
    by_cases hj : j < c.length
    · rw [cell_left (by rw [restE_length]; exact hj)] at hy
      by_cases hn : j ∈ own
      · rw [restE_cell hn hj] at hy
        exact .inl ⟨hn, hj, hy, hb j hn y hy⟩
      · rw [restE_cell_ne hn] at hy
        refine .inr ⟨?_, ?_⟩
        · rw [cell_left (by rw [wipeE_length]; exact hj), wipeE_cell_ne hn]; exact hy
        · rw [List.getElem?_append_left (by omega), List.getElem?_append_left (by rw [wipe_length]; omega), wipe_get_ne hn]
    · obtain ⟨m, rfl⟩ : ∃ m, j = c.length + m := ⟨j - c.length, by omega⟩
      have e := cell_right (c := restE c1 own c) (T := T) (i := m)
      rw [restE_length] at e
      rw [e] at hy
      have e2 := cell_right (c := wipeE own c) (T := T) (i := m)
      rw [wipeE_length] at e2
      refine .inr ⟨by rw [e2]; exact hy, ?_⟩
      rw [List.getElem?_append_right (by omega), List.getElem?_append_right (by rw [wipe_length]; omega), wipe_length]
  refine ⟨by simp only [List.length_append, restE_length]; omega, M.le, M.old, M.gr, M.fr, M.ioT, M.ioH, fun j y hy => ?_, fun j k y z v h1' h2' m1 m2 h3 h4 => ?_⟩
  · rcases key j y hy with ⟨hn, hj, hc, hst⟩ | ⟨hc, he⟩
    · obtain ⟨v, q1, q2⟩ := M1.cell j y (cell_left' hc)
      rw [List.getElem?_append_left (by omega)] at q1
      refine ⟨v, by rw [List.getElem?_append_left (by omega)]; exact q1, ?_⟩
      unfold COk at q2 ⊢
      rw [hst] at q2 ⊢
      exact Dq.up q2 le
    · obtain ⟨v, q1, q2⟩ := M.cell j y hc
      exact ⟨v, by rw [he]; exact q1, q2⟩
  · rcases key j y h1' with ⟨_, _, _, hst⟩ | ⟨hc, he⟩
    · rw [hst] at m1; exact (Bool.false_ne_true m1).elim
    · rcases key k z h2' with ⟨_, _, _, hst⟩ | ⟨hc', he'⟩
      · rw [hst] at m2; exact (Bool.false_ne_true m2).elim
      · rw [he] at h3
        rw [he'] at h4
        exact M.apart j k y z v hc hc' m1 m2 h3 h4
end
theorem Mt.lastF {P : Par} {F H : Hp} {A : Env} {α : L2.St} {d : D} {v : V} (M : Mt P F (A ++ [some (tmpCell (false, d))]) (α ++ [some v]) H) (hA : A.length = α.length) : Dq P.K F v d := by
  obtain ⟨w, h1, h2⟩ := M.cell A.length ⟨.fz, d⟩ (by rw [show A.length = A.length + 0 from rfl, cell_right]; rfl)
  rw [hA, List.getElem?_append_right (Nat.le_refl _), Nat.sub_self] at h1
  cases h1
  exact h2
/-- the same over a later frozen part -/
theorem Mt.rebase {P : Par} {F H : Hp} {c : Env} {σ : L2.St} (M : Mt P F c σ H) : Mt { P with F0 := F } F c σ H := ⟨M.len, M.le, Le.refl F, fun a o e => .inl e, M.fr, M.ioT, M.ioH, M.cell, M.apart⟩
theorem Mt.unbase {P : Par} {F1 H1 F H : Hp} {c1 c : Env} {σ1 σ : L2.St} (M : Mt { P with F0 := F1 } F c σ H) (M1 : Mt P F1 c1 σ1 H1) : Mt P F c σ H :=
  ⟨M.len, M.le, M1.old.trans M.old, fun a o e => by
    rcases M.gr a o e with z | z
    · exact M1.gr a o z
    · exact .inr z, M.fr, M.ioT, M.ioH, M.cell, M.apart⟩
theorem _root_.L2.PE.ex {ι : Sort _} {X : Cx} {x : Expr} {t : ι → TE} (h : ∀ i, PE X x (t i)) : PE X x (fun σ H Q => ∃ i, t i σ H Q) := ⟨fun pins s σ H Q I ⟨i, q⟩ => (h i).run pins s σ H Q I q⟩
theorem _root_.L2.PTs.ex {ι : Sort _} {X : Cx} {x : List Expr} {t : ι → TT} (h : ∀ i, PTs X x (t i)) : PTs X x (fun σ H Q => ∃ i, t i σ H Q) := ⟨fun pins s σ H Q I ⟨i, q⟩ => (h i).run pins s σ H Q I q⟩
theorem _root_.L2.PG.ex {ι : Sort _} {X : Cx} {x : Expr} {t : ι → TG} (h : ∀ i, PG X x (t i)) : PG X x (fun v σ H Q => ∃ i, t i v σ H Q) := ⟨fun pins s σ H v u Q I r ⟨i, q⟩ => (h i).run pins s σ H v u Q I r q⟩
theorem Good.par {Γ : Nat → Option Fn} {C : Ctx} {P P' : Par} {k : Nat} {X : Cx} (G : Good Γ C P k X) (h : P'.K = P.K) : Good Γ C P' k X := ⟨h.trans G.kp, G.calm, G.N, G.nd, G.sc, G.fnb, G.room, G.xe, G.defs, G.gl, G.bl⟩
theorem lcGo_cons {f : D → Env → Res (Option D)} {x : D} {xs : List D} {c c' : Env} {l : List D} (h : lcGo f (x :: xs) c = .ok l c') : ∃ o c1 l1, f x c = .ok o c1 ∧ lcGo f xs c1 = .ok l1 c' ∧ l = o.toList ++ l1 := by
  obtain ⟨o, c1, h1, h2⟩ := bind_ok (show (f x c).bind _ = _ from h)
  obtain ⟨l1, c2, h3, h4⟩ := bind_ok h2
  cases h4
  exact ⟨o, c1, l1, h1, h3, rfl⟩
section
variable {Γ : Nat → Option Fn} {elt it cond : E}
theorem Good.block {C : Ctx} {P : Par} {k : Nat} {X : Cx} (G : Good Γ C P k X) (scope : Scope) (s : Shared) (H : Hp) (Ca : Addr) (cl : List (Str × Addr)) (fp : List Addr) : Good Γ (C.blk scope) P k (X.blk s H scope (compEnvC scope cl Ca X.env) fp) := by
  refine ⟨G.kp, G.calm, G.N, G.nd, ?_, fun x h => h, G.room, rfl, G.defs, G.gl, G.bl⟩
  show relabel scope X.env = relS scope C.sc
  unfold relabel relS PySem.Env.kindOf
  rw [G.sc]
noncomputable def lcB (Γ : Nat → Option Fn) (own : List Nat) (elt : E) (tg : Tg) (cond : E) : D → Env → Res (Option D) := fun x c => match assign tg x (wipeE own c) with
  | none => .no
  | some c => (ev Γ cond c).bind fun t c => match (t.rd c).bind toBl with
    | some true => (ev Γ elt c).bind fun y c => (y.esc c).bind fun d c => .ok (some d) c
    | some false => .ok none c
    | none => .no
theorem lc_imp {own : List Nat} {tg : Tg} {P : Par} {K : PySem.W.Frag} (kp : P.K = K) (h5 : (tg.slots.all fun i => own.contains i) = true) : ∀ σ H Q, tE P Γ (.lc own elt tg it cond) σ H Q →
    tLc (tI P Γ it) (fun v σ H Q => ∃ p : { p : Par // p.K = K }, gT p.1 tg v σ H Q) (fun σ H Q => ∃ p : { p : Par // p.K = K }, tT p.1 Γ cond σ H Q) (fun σ H Q => ∃ p : { p : Par // p.K = K }, tE p.1 Γ elt σ H Q) own σ H Q := by
  rintro σ H Q ⟨F, c, T, τ, r, c', M, hl, hev, q⟩
  simp only [ev] at hev
  obtain ⟨xs, c1, e1, v1⟩ := bind_ok hev
  clear hev
  split at v1
  · cases v1
  rename_i hfree
  have hfree : own.all (free? c1) = true := by
    cases z : own.all (free? c1) with
    | true => rfl
    | false => exact absurd z hfree
  obtain ⟨l, c2, e2, v2⟩ := bind_ok v1
  clear v1
  split at v2
  case isFalse => cases v2
  rename_i hlen
  cases v2
  have hT := M.tl hl
  have e2 : lcGo (lcB Γ own elt tg cond) xs c1 = .ok l c2 := e2
  refine ⟨F, c, T, τ, xs, c1, M, hl, e1, fun J H1 F1 M1 l1 sup => fun D hD => ?_⟩
  have M1' := M1.rebase
  have hP : ({ P with F0 := F1 } : Par).K = K := kp
  refine ⟨fun i m H' => m = xs.length - i ∧ i ≤ xs.length ∧ ∃ F' ci ls acc, ci.length = σ.length ∧ lcGo (lcB Γ own elt tg cond) (xs.drop i) ci = .ok ls c2 ∧ acc ++ ls = l ∧
    Mt { P with F0 := F1 } F' ((wipeE own ci ++ T) ++ [some ⟨.own, .lst acc⟩]) ((wipe σ own ++ τ) ++ [some (V.ref D)]) H', ?_, ?_⟩
  · have M2 := M1'.wipe own l1
    obtain ⟨F3, le3, M3⟩ := M2.new (.lst true hD .nil)
    exact ⟨xs.length, rfl, Nat.zero_le _, F3, c1, l, [], l1, e2, rfl, M3⟩
  · rintro i m H' ⟨rfl, hi', F', ci, ls, acc, lci, hgo, hacc, M2⟩
    have le' : Le F1 F' := M2.old
    by_cases hlt : i < xs.length
    · refine .inr ⟨sup.go i F' H' hlt le' M2.le, fun H'' => ∃ m', m' < xs.length - i ∧ m' = xs.length - (i + 1) ∧ i + 1 ≤ xs.length ∧ ∃ F' ci ls acc, ci.length = σ.length ∧ lcGo (lcB Γ own elt tg cond) (xs.drop (i + 1)) ci = .ok ls c2 ∧ acc ++ ls = l ∧
        Mt { P with F0 := F1 } F' ((wipeE own ci ++ T) ++ [some ⟨.own, .lst acc⟩]) ((wipe σ own ++ τ) ++ [some (V.ref D)]) H'', fun H'' z => z, fun v H'' y => ?_⟩
      obtain ⟨d, hd, nw⟩ := sup.yld i F' H' v H'' hlt le' M2.le y
      obtain ⟨F3, le3, M3⟩ := M2.new nw
      have lA : (wipeE own ci ++ T ++ [some (⟨.own, .lst acc⟩ : Cell)]).length = (wipe σ own ++ τ ++ [some (V.ref D)]).length := by simp only [List.length_append, List.length_singleton, wipeE_length, wipe_length]; omega
      have dq : Dq ({ P with F0 := F1 } : Par).K F3 v d := M3.lastF lA
      have M4 := M3.take lA
      have edrop : xs.drop i = d :: xs.drop (i + 1) := by
        rw [List.drop_eq_getElem_cons hlt]
        congr 1
        rw [List.getElem?_eq_getElem hlt] at hd
        exact Option.some.inj hd
      rw [edrop] at hgo
      obtain ⟨o, c3, l3, hf, hgo', els⟩ := lcGo_cons hgo
      unfold lcB at hf
      split at hf
      · cases hf
      rename_i c4 hasg
      obtain ⟨rt, c5, e5, v5⟩ := bind_ok hf
      clear hf
      refine ⟨⟨_, hP⟩, F3, wipeE own ci, T ++ [some ⟨.own, .lst acc⟩], τ ++ [some (V.ref D)], d, c4, by simpa using M4, by rw [wipeE_length, wipe_length]; exact lci, dq, hasg, fun σ2 M5 l5 l6 k5 => ?_⟩
      rw [wipe_length] at l5
      rw [wipeE_length] at l6
      have hw : wipe σ2 own = wipe σ own := wipe_same l5 fun j hj => by
        rw [k5 j fun z => hj (by simpa using List.all_eq_true.mp h5 j z), wipe_get_ne hj]
      refine ⟨hw, ?_⟩
      cases hr : (rt.rd c5).bind toBl with
      | none => rw [hr] at v5; cases v5
      | some bb =>
        rw [hr] at v5
        obtain ⟨dx, r1, r2⟩ := obind_some hr
        have e := toBl_eq r2
        subst e
        refine ⟨⟨_, hP⟩, F3, c4, T ++ [some ⟨.own, .lst acc⟩], τ ++ [some (V.ref D)], rt, c5, bb, M5, by omega, e5, r1, fun H3 F4 M6 l7 => ?_⟩
        cases bb with
        | false =>
          cases v5
          rw [if_neg Bool.false_ne_true]
          have M7 := M6.wipe own l7
          rw [hw] at M7
          exact ⟨_, by omega, rfl, hlt, F4, c3, l3, acc, by omega, hgo', by rw [← hacc, els]; rfl, by simpa using M7⟩
        | true =>
          rw [if_pos rfl]
          obtain ⟨ry, c6, e6, v6⟩ := bind_ok v5
          clear v5
          obtain ⟨dy, c7, e7, v7⟩ := bind_ok v6
          cases v7
          refine ⟨⟨_, hP⟩, F4, c5, T ++ [some ⟨.own, .lst acc⟩], τ ++ [some (V.ref D)], ry, c6, M6, l7, e6, fun w H4 F5 M7 l8 s8 => ?_⟩
          obtain ⟨F6, x6, le6, M8, q8, l9⟩ := esc_sound (A := T ++ [some ⟨.own, .lst acc⟩]) (B := []) (α := τ ++ [some (V.ref D)]) (β := []) (by simpa using M7) l8 (by simp only [List.length_append, List.length_singleton]; omega) s8 e7
          have lB : (c3 ++ T).length = (σ2 ++ τ).length := by simp only [List.length_append]; omega
          have M9 : Mt { P with F0 := F1 } F6 ((c3 ++ T) ++ [some ⟨.own, .lst acc⟩]) ((σ2 ++ τ) ++ [some (V.ref D)]) H4 := by
            have M8' : Mt { P with F0 := F1 } F6 (((c3 ++ T) ++ [some ⟨.own, .lst acc⟩]) ++ [x6]) (((σ2 ++ τ) ++ [some (V.ref D)]) ++ [some w]) H4 := by simpa using M8
            exact M8'.take (by simp only [List.length_append, List.length_singleton] at lB ⊢; omega)
          have hcell : Env.cell ((c3 ++ T) ++ [some (⟨.own, .lst acc⟩ : Cell)]) (c3 ++ T).length = some ⟨.own, .lst acc⟩ := by
            rw [show (c3 ++ T).length = (c3 ++ T).length + 0 from rfl, cell_right]; rfl
          have hval : ((σ2 ++ τ) ++ [some (V.ref D)])[(c3 ++ T).length]? = some (some (V.ref D)) := by
            rw [lB, List.getElem?_append_right (Nat.le_refl _), Nat.sub_self]; rfl
          obtain ⟨a', xs', ea, ha1, ha2, ht'⟩ := M9.own hcell hval rfl
          cases ea
          have hlen' : acc.length < sizeLine := by
            have : l.length = acc.length + (1 + l3.length) := by
              rw [← hacc, els]
              simp
              omega
            omega
          refine ⟨xs', ha2, by rw [ht'.length]; exact hlen', ?_⟩
          have M10 := M9.write hcell hval rfl (ht'.append (.cons q8 .nil))
          rw [List.set_append_right _ _ (Nat.le_refl _), Nat.sub_self] at M10
          have M11 : Mt { P with F0 := F1 } F6 (c3 ++ (T ++ [some ⟨.own, .lst (acc ++ [dy])⟩])) (σ2 ++ (τ ++ [some (V.ref D)])) (upd H4 D (.lst (xs' ++ [w]))) := by simpa using M10
          have M12 := M11.wipe own (by omega)
          rw [hw] at M12
          exact ⟨_, by omega, rfl, hlt, F6, c3, l3, acc ++ [dy], by omega, hgo', by rw [← hacc, els]; simp, by simpa using M12⟩
    · have ei : i = xs.length := by omega
      subst ei
      refine .inl ⟨sup.stop F' H' le' M2.le, ?_⟩
      rw [List.drop_length] at hgo
      cases hgo
      rw [List.append_nil] at hacc
      subst hacc
      refine q _ H' F' ?_ ?_ .fr
      · have M3 : Mt { P with F0 := F1 } F' (wipeE own c2 ++ (T ++ [some ⟨.own, .lst acc⟩])) (wipe σ own ++ (τ ++ [some (V.ref D)])) H' := by rw [← List.append_assoc, ← List.append_assoc]; exact M2
        have M4 := M3.rest M1' le' lci l1 hfree
        rw [← List.append_assoc, ← List.append_assoc] at M4
        exact M4.unbase M1
      · rw [restE_length]; exact lci
theorem lc_cond (hc : Snd Γ cond) {C : Ctx} {P : Par} {k : Nat} {X : Cx} {ifs : List Expr} (G : Good Γ C P k X) (h : (match ifs with | [] => isYes cond | [t] => !isYes cond && chkT cond C t | _ => false) = true) : PTs X ifs (tT P Γ cond) := by
  split at h
  · refine ⟨fun pins s σ H Q I hq => pts_nil.run pins s σ H Q I ?_⟩
    obtain ⟨F, c, T, τ, r, c', bb, M, hl, hev, hb', q⟩ := hq
    cases cond <;> first | (cases h; done) | skip
    simp only [ev] at hev
    cases hev
    have eb : true = bb := by cases hb'; rfl
    subst eb
    exact q H F M hl
  · obtain ⟨q1, q2⟩ := bool_split h
    exact pts_one (hc.pt _ P _ _ _ G q2)
  · cases h
/-- the loop of a comprehension -/
theorem e_lc {own : List Nat} {tg : Tg} (hi : Snd Γ it) (hc : Snd Γ cond) (he : Snd Γ elt) {C : Ctx} {P : Par} {k : Nat} {X : Cx} {x : Expr} (G : Good Γ C P k X) (h : chkE (.lc own elt tg it cond) C x = true) : PE X x (tE P Γ (.lc own elt tg it cond)) := by
  simp only [chkE] at h
  split at h
  case h_2 => cases h
  rename_i eelt etg eit ifs scope pos
  simp only [Bool.and_eq_true] at h
  obtain ⟨⟨⟨⟨⟨⟨h1, h2⟩, h3⟩, h4⟩, h5⟩, h6⟩, h7⟩ := h
  have hN : X.N.Nodup := by rw [G.N]; exact G.nd
  have ok : BlkOk X.N X.env.scope scope (ownOf C.N own) := by rw [G.N, G.sc]; exact blkOk_by h1
  have hown : (ownOf C.N own).map (·.2) = own := by
    unfold ownOf
    rw [List.map_map]
    exact List.map_id' own
  refine (pe_lc G.calm hN (hi.pi _ P _ _ _ _ G h3) ok (fun s H Ca cl fp => PG.ex (t := fun p : { p : Par // p.K = X.K } => gT p.1 tg) fun p => (g_all ((G.block scope s H Ca cl fp).par (p.2.trans G.kp.symm)) tg).1 _ h4)
    (fun s H Ca cl fp => PTs.ex (t := fun p : { p : Par // p.K = X.K } => tT p.1 Γ cond) fun p => lc_cond hc ((G.block scope s H Ca cl fp).par (p.2.trans G.kp.symm)) h6)
    (fun s H Ca cl fp => PE.ex (t := fun p : { p : Par // p.K = X.K } => tE p.1 Γ elt) fun p => he.pe _ p.1 _ _ _ ((G.block scope s H Ca cl fp).par (p.2.trans G.kp.symm)) h7) (folded_of h2)).imp ?_
  rw [hown]
  exact lc_imp G.kp h5
end
end T

set_option Elab.async false
set_option linter.all false
set_option maxRecDepth 100000
set_option maxHeartbeats 1000000
/-! The evaluator is right: all expressions. -/
namespace T
open PySem PySem.Spec PyProof.Rows L2

/-- with and, or chains as tests -/
structure Snd2 (Γ : Nat → Option Fn) (a : E) : Prop extends Snd Γ a where
  wa : ∀ C P k X x y r p, Good Γ C P k X → chkT a C (.BoolOp .And (x :: y :: r) p) = true → PW X (.BoolOp .And (x :: y :: r) p) (tT P Γ a)
  wo : ∀ C P k X x y r p, Good Γ C P k X → chkT a C (.BoolOp .Or (x :: y :: r) p) = true → PW X (.BoolOp .Or (x :: y :: r) p) (tT P Γ a)

theorem snd_all (Γ : Nat → Option Fn) : ∀ a : E, Snd2 Γ a := by
  intro a
  induction a with
  | var i => exact ⟨⟨fun C P k X x G h => e_var G h, fun C P k X x G h => by simp [chkT] at h, fun C P k X es G h => by simp [chkA] at h, fun C P k X x tg G h => by simp [chkI] at h, fun C P k X ws G h => by simp [chkK] at h⟩, fun C P k X x y r p G h => by simp [chkT] at h, fun C P k X x y r p G h => by simp [chkT] at h⟩
  | non =>
    refine ⟨⟨fun C P k X x G h => ?_, fun C P k X x G h => by simp [chkT] at h, fun C P k X es G h => by simp [chkA] at h, fun C P k X x tg G h => by simp [chkI] at h, fun C P k X ws G h => by simp [chkK] at h⟩, fun C P k X x y r p G h => by simp [chkT] at h, fun C P k X x y r p G h => by simp [chkT] at h⟩
    simp only [chkE] at h
    split at h
    · exact e_const pe_non (fun c => by simp only [ev]) fun F => .non
    · cases h
  | bl b =>
    refine ⟨⟨fun C P k X x G h => ?_, fun C P k X x G h => by simp [chkT] at h, fun C P k X es G h => by simp [chkA] at h, fun C P k X x tg G h => by simp [chkI] at h, fun C P k X ws G h => by simp [chkK] at h⟩, fun C P k X x y r p G h => by simp [chkT] at h, fun C P k X x y r p G h => by simp [chkT] at h⟩
    simp only [chkE] at h
    split at h
    · rename_i b' _ _
      have e : b = b' := by simpa using h
      subst e
      exact e_const pe_bl (fun c => by simp only [ev]) fun F => .bl b
    · cases h
  | int i =>
    refine ⟨⟨fun C P k X x G h => ?_, fun C P k X x G h => by simp [chkT] at h, fun C P k X es G h => by simp [chkA] at h, fun C P k X x tg G h => by simp [chkI] at h, fun C P k X ws G h => by simp [chkK] at h⟩, fun C P k X x y r p G h => by simp [chkT] at h, fun C P k X x y r p G h => by simp [chkT] at h⟩
    simp only [chkE] at h
    split at h
    · have e := of_decide_eq_true h
      subst e
      exact e_const pe_int (fun c => by simp only [ev]) fun F => .int i
    · cases h
  | str i =>
    refine ⟨⟨fun C P k X x G h => ?_, fun C P k X x G h => by simp [chkT] at h, fun C P k X es G h => by simp [chkA] at h, fun C P k X x tg G h => by simp [chkI] at h, fun C P k X ws G h => by simp [chkK] at h⟩, fun C P k X x y r p G h => by simp [chkT] at h, fun C P k X x y r p G h => by simp [chkT] at h⟩
    simp only [chkE] at h
    split at h
    · have e := of_decide_eq_true h
      subst e
      exact e_const pe_str (fun c => by simp only [ev]) fun F => .str i
    · cases h
  | gl z d =>
    refine ⟨⟨fun C P k X x G h => ?_, fun C P k X x G h => by simp [chkT] at h, fun C P k X es G h => by simp [chkA] at h, fun C P k X x tg G h => by simp [chkI] at h, fun C P k X ws G h => by simp [chkK] at h⟩, fun C P k X x y r p G h => by simp [chkT] at h, fun C P k X x y r p G h => by simp [chkT] at h⟩
    simp only [chkE] at h
    split at h
    · rename_i y p
      simp only [Bool.and_eq_true] at h
      obtain ⟨⟨h1, h2⟩, h3⟩ := h
      have e := of_decide_eq_true h1
      subst e
      obtain ⟨g1, g2⟩ := G.glob h2
      rw [List.any_eq_true] at h3
      obtain ⟨q, hq, h4⟩ := h3
      rw [Bool.and_eq_true] at h4
      obtain ⟨x', d'⟩ := q
      have e1 : x' = z := of_decide_eq_true h4.1
      have e2 : d' = d := sEq_eq h4.2
      subst e1 e2
      obtain ⟨u, v, m1, m2, m3⟩ := G.gl _ _ hq
      exact e_const (d := d') (pe_glob g1 m1 m2 g2) (fun c => by simp only [ev]) fun F => by rw [G.kp]; exact m3 F
    · cases h
  | bin op a b ha hb => exact ⟨⟨fun C P k X x G h => e_bin ha.1 hb.1 G h, fun C P k X x G h => by simp [chkT] at h, fun C P k X es G h => by simp [chkA] at h, fun C P k X x tg G h => by simp [chkI] at h, fun C P k X ws G h => by simp [chkK] at h⟩, fun C P k X x y r p G h => by simp [chkT] at h, fun C P k X x y r p G h => by simp [chkT] at h⟩
  | neg a ha => exact ⟨⟨fun C P k X x G h => e_neg ha.1 G h, fun C P k X x G h => by simp [chkT] at h, fun C P k X es G h => by simp [chkA] at h, fun C P k X x tg G h => by simp [chkI] at h, fun C P k X ws G h => by simp [chkK] at h⟩, fun C P k X x y r p G h => by simp [chkT] at h, fun C P k X x y r p G h => by simp [chkT] at h⟩
  | nt a ha => exact ⟨⟨fun C P k X x G h => e_nt ha.1 G h, fun C P k X x G h => t_nt ha.1 G h, fun C P k X es G h => by simp [chkA] at h, fun C P k X x tg G h => by simp [chkI] at h, fun C P k X ws G h => by simp [chkK] at h⟩, fun C P k X x y r p G h => by simp [chkT] at h, fun C P k X x y r p G h => by simp [chkT] at h⟩
  | andE a b ha hb =>
    have w := fun C P k X x (G : Good Γ C P k X) h => w_and (P := P) (x := x) ha.1 hb.1 G h fun x y r p h => hb.wa C P k X x y r p G h
    exact ⟨⟨fun C P k X x G h => e_and ha.1 hb.1 G h, fun C P k X x G h => (w C P k X x G h).pt, fun C P k X es G h => by simp [chkA] at h, fun C P k X x tg G h => by simp [chkI] at h, fun C P k X ws G h => by simp [chkK] at h⟩, fun C P k X x y r p G h => w C P k X _ G h, fun C P k X x y r p G h => by simp [chkT] at h⟩
  | orE a b ha hb =>
    have w := fun C P k X x (G : Good Γ C P k X) h => w_or (P := P) (x := x) ha.1 hb.1 G h fun x y r p h => hb.wo C P k X x y r p G h
    exact ⟨⟨fun C P k X x G h => e_or ha.1 hb.1 G h, fun C P k X x G h => (w C P k X x G h).pt, fun C P k X es G h => by simp [chkA] at h, fun C P k X x tg G h => by simp [chkI] at h, fun C P k X ws G h => by simp [chkK] at h⟩, fun C P k X x y r p G h => by simp [chkT] at h, fun C P k X x y r p G h => w C P k X _ G h⟩
  | ite t a b ht ha hb => exact ⟨⟨fun C P k X x G h => e_ite ht.1 ha.1 hb.1 G h, fun C P k X x G h => by simp [chkT] at h, fun C P k X es G h => by simp [chkA] at h, fun C P k X x tg G h => by simp [chkI] at h, fun C P k X ws G h => by simp [chkK] at h⟩, fun C P k X x y r p G h => by simp [chkT] at h, fun C P k X x y r p G h => by simp [chkT] at h⟩
  | cmp op a b ha hb => exact ⟨⟨fun C P k X x G h => e_cmp ha.1 hb.1 G h, fun C P k X x G h => t_cmp ha.1 hb.1 G h, fun C P k X es G h => by simp [chkA] at h, fun C P k X x tg G h => by simp [chkI] at h, fun C P k X ws G h => by simp [chkK] at h⟩, fun C P k X x y r p G h => by simp [chkT] at h, fun C P k X x y r p G h => by simp [chkT] at h⟩
  | chain o1 o2 a b c ha hb hc => exact ⟨⟨fun C P k X x G h => e_chain ha.1 hb.1 hc.1 G h, fun C P k X x G h => t_chain ha.1 hb.1 hc.1 G h, fun C P k X es G h => by simp [chkA] at h, fun C P k X x tg G h => by simp [chkI] at h, fun C P k X ws G h => by simp [chkK] at h⟩, fun C P k X x y r p G h => by simp [chkT] at h, fun C P k X x y r p G h => by simp [chkT] at h⟩
  | tupE a ha => exact ⟨⟨fun C P k X x G h => e_tup ha.1 G h, fun C P k X x G h => by simp [chkT] at h, fun C P k X es G h => by simp [chkA] at h, fun C P k X x tg G h => by simp [chkI] at h, fun C P k X ws G h => by simp [chkK] at h⟩, fun C P k X x y r p G h => by simp [chkT] at h, fun C P k X x y r p G h => by simp [chkT] at h⟩
  | lstE a ha => exact ⟨⟨fun C P k X x G h => e_lst ha.1 G h, fun C P k X x G h => by simp [chkT] at h, fun C P k X es G h => by simp [chkA] at h, fun C P k X x tg G h => by simp [chkI] at h, fun C P k X ws G h => by simp [chkK] at h⟩, fun C P k X x y r p G h => by simp [chkT] at h, fun C P k X x y r p G h => by simp [chkT] at h⟩
  | nil => exact ⟨⟨fun C P k X x G h => by simp [chkE] at h, fun C P k X x G h => by simp [chkT] at h, fun C P k X es G h => a_nil G h, fun C P k X x tg G h => by simp [chkI] at h, fun C P k X ws G h => k_nil G h⟩, fun C P k X x y r p G h => by simp [chkT] at h, fun C P k X x y r p G h => by simp [chkT] at h⟩
  | cons a b ha hb => exact ⟨⟨fun C P k X x G h => by simp [chkE] at h, fun C P k X x G h => by simp [chkT] at h, fun C P k X es G h => a_cons ha.1 hb.1 G h, fun C P k X x tg G h => by simp [chkI] at h, fun C P k X ws G h => k_cons ha.1 hb.1 G h⟩, fun C P k X x y r p G h => by simp [chkT] at h, fun C P k X x y r p G h => by simp [chkT] at h⟩
  | ix a b ha hb => exact ⟨⟨fun C P k X x G h => e_ix ha.1 hb.1 G h, fun C P k X x G h => by simp [chkT] at h, fun C P k X es G h => by simp [chkA] at h, fun C P k X x tg G h => by simp [chkI] at h, fun C P k X ws G h => by simp [chkK] at h⟩, fun C P k X x y r p G h => by simp [chkT] at h, fun C P k X x y r p G h => by simp [chkT] at h⟩
  | sl a b c ha hb hc => exact ⟨⟨fun C P k X x G h => e_sl ha.1 hb.1 hc.1 G h, fun C P k X x G h => by simp [chkT] at h, fun C P k X es G h => by simp [chkA] at h, fun C P k X x tg G h => by simp [chkI] at h, fun C P k X ws G h => by simp [chkK] at h⟩, fun C P k X x y r p G h => by simp [chkT] at h, fun C P k X x y r p G h => by simp [chkT] at h⟩
  | rvs a ha => exact ⟨⟨fun C P k X x G h => e_rvs ha.1 G h, fun C P k X x G h => by simp [chkT] at h, fun C P k X es G h => by simp [chkA] at h, fun C P k X x tg G h => by simp [chkI] at h, fun C P k X ws G h => by simp [chkK] at h⟩, fun C P k X x y r p G h => by simp [chkT] at h, fun C P k X x y r p G h => by simp [chkT] at h⟩
  | call f a ha => exact ⟨⟨fun C P k X x G h => e_call ha.1 G h, fun C P k X x G h => by simp [chkT] at h, fun C P k X es G h => by simp [chkA] at h, fun C P k X x tg G h => by simp [chkI] at h, fun C P k X ws G h => by simp [chkK] at h⟩, fun C P k X x y r p G h => by simp [chkT] at h, fun C P k X x y r p G h => by simp [chkT] at h⟩
  | callK f a b ks pm ha hb => exact ⟨⟨fun C P k X x G h => e_callK ha.1 hb.1 G h, fun C P k X x G h => by simp [chkT] at h, fun C P k X es G h => by simp [chkA] at h, fun C P k X x tg G h => by simp [chkI] at h, fun C P k X ws G h => by simp [chkK] at h⟩, fun C P k X x y r p G h => by simp [chkT] at h, fun C P k X x y r p G h => by simp [chkT] at h⟩
  | bi b a ha => exact ⟨⟨fun C P k X x G h => e_bi ha.1 G h, fun C P k X x G h => by simp [chkT] at h, fun C P k X es G h => by simp [chkA] at h, fun C P k X x tg G h => by simp [chkI] at h, fun C P k X ws G h => by simp [chkK] at h⟩, fun C P k X x y r p G h => by simp [chkT] at h, fun C P k X x y r p G h => by simp [chkT] at h⟩
  | mth m a b ha hb => exact ⟨⟨fun C P k X x G h => e_mth ha.1 hb.1 G h, fun C P k X x G h => by simp [chkT] at h, fun C P k X es G h => by simp [chkA] at h, fun C P k X x tg G h => by simp [chkI] at h, fun C P k X ws G h => by simp [chkK] at h⟩, fun C P k X x y r p G h => by simp [chkT] at h, fun C P k X x y r p G h => by simp [chkT] at h⟩
  | isi a o ts ha => exact ⟨⟨fun C P k X x G h => e_isi ha.1 G h, fun C P k X x G h => by simp [chkT] at h, fun C P k X es G h => by simp [chkA] at h, fun C P k X x tg G h => by simp [chkI] at h, fun C P k X ws G h => by simp [chkK] at h⟩, fun C P k X x y r p G h => by simp [chkT] at h, fun C P k X x y r p G h => by simp [chkT] at h⟩
  | lc own elt tg it cond he hi hc => exact ⟨⟨fun C P k X x G h => e_lc hi.1 hc.1 he.1 G h, fun C P k X x G h => by simp [chkT] at h, fun C P k X es G h => by simp [chkA] at h, fun C P k X x tg G h => by simp [chkI] at h, fun C P k X ws G h => by simp [chkK] at h⟩, fun C P k X x y r p G h => by simp [chkT] at h, fun C P k X x y r p G h => by simp [chkT] at h⟩
  | val a ha => exact ⟨⟨fun C P k X x G h => by simp [chkE] at h, fun C P k X x G h => t_val ha.1 G h, fun C P k X es G h => by simp [chkA] at h, fun C P k X x tg G h => by simp [chkI] at h, fun C P k X ws G h => by simp [chkK] at h⟩, fun C P k X x y r p G h => by simp [chkT, plainT] at h, fun C P k X x y r p G h => by simp [chkT, plainT] at h⟩
  | tru a ha => exact ⟨⟨fun C P k X x G h => by simp [chkE] at h, fun C P k X x G h => t_tru ha.1 G h, fun C P k X es G h => by simp [chkA] at h, fun C P k X x tg G h => by simp [chkI] at h, fun C P k X ws G h => by simp [chkK] at h⟩, fun C P k X x y r p G h => by simp [chkT, plainT] at h, fun C P k X x y r p G h => by simp [chkT, plainT] at h⟩
  | seq a ha => exact ⟨⟨fun C P k X x G h => by simp [chkE] at h, fun C P k X x G h => by simp [chkT] at h, fun C P k X es G h => by simp [chkA] at h, fun C P k X x tg G h => i_seq ha.1 G h, fun C P k X ws G h => by simp [chkK] at h⟩, fun C P k X x y r p G h => by simp [chkT] at h, fun C P k X x y r p G h => by simp [chkT] at h⟩
  | range1 a ha => exact ⟨⟨fun C P k X x G h => by simp [chkE] at h, fun C P k X x G h => by simp [chkT] at h, fun C P k X es G h => by simp [chkA] at h, fun C P k X x tg G h => i_range1 ha.1 G h, fun C P k X ws G h => by simp [chkK] at h⟩, fun C P k X x y r p G h => by simp [chkT] at h, fun C P k X x y r p G h => by simp [chkT] at h⟩
  | range2 a b ha hb => exact ⟨⟨fun C P k X x G h => by simp [chkE] at h, fun C P k X x G h => by simp [chkT] at h, fun C P k X es G h => by simp [chkA] at h, fun C P k X x tg G h => i_range2 ha.1 hb.1 G h, fun C P k X ws G h => by simp [chkK] at h⟩, fun C P k X x y r p G h => by simp [chkT] at h, fun C P k X x y r p G h => by simp [chkT] at h⟩
  | enum a ha => exact ⟨⟨fun C P k X x G h => by simp [chkE] at h, fun C P k X x G h => by simp [chkT] at h, fun C P k X es G h => by simp [chkA] at h, fun C P k X x tg G h => i_enum ha.1 G h, fun C P k X ws G h => by simp [chkK] at h⟩, fun C P k X x y r p G h => by simp [chkT] at h, fun C P k X x y r p G h => by simp [chkT] at h⟩
  | zip a b ha hb => exact ⟨⟨fun C P k X x G h => by simp [chkE] at h, fun C P k X x G h => by simp [chkT] at h, fun C P k X es G h => by simp [chkA] at h, fun C P k X x tg G h => i_zip ha.1 hb.1 G h, fun C P k X ws G h => by simp [chkK] at h⟩, fun C P k X x y r p G h => by simp [chkT] at h, fun C P k X x y r p G h => by simp [chkT] at h⟩
  | nopart | yes | range3 | enumS | zipK | rev => exact ⟨⟨fun C P k X x G h => by simp [chkE] at h, fun C P k X x G h => by simp [chkT] at h, fun C P k X es G h => by simp [chkA] at h, fun C P k X x tg G h => by simp [chkI] at h, fun C P k X ws G h => by simp [chkK] at h⟩, fun C P k X x y r p G h => by simp [chkT] at h, fun C P k X x y r p G h => by simp [chkT] at h⟩
end T

set_option Elab.async false
set_option linter.all false
set_option maxRecDepth 100000
set_option maxHeartbeats 1000000
/-! The evaluator is right: statements. -/
namespace T
open PySem PySem.Spec PyProof.Rows L2

/-- what is asked of an outcome -/
def Ask (P : Par) (Z : Ends) : Out → Prop
  | .nx c' => ∀ σ' H' F', Mt P F' c' σ' H' → Z.nx σ' H'
  | .rt fr d c' => ∀ v σ' H' F', Mt P F' (c' ++ [some (tmpCell (fr, d))]) (σ' ++ [some v]) H' → c'.length = σ'.length → Z.rt v H'
  | .bk c' => ∀ σ' H' F', Mt P F' c' σ' H' → Z.bk σ' H'
  | .ct c' => ∀ σ' H' F', Mt P F' c' σ' H' → Z.ct σ' H'
  | _ => False
def tS (P : Par) (Γ : Nat → Option Fn) (s : S) : TS := fun Z σ H => ∃ F c, Mt P F c σ H ∧ Ask P Z (xst Γ s c)
theorem _root_.L2.PS.imp {X : Cx} {e : Stmt} {t t' : TS} (h : PS X e t) (i : ∀ Q σ H, t' Q σ H → t Q σ H) : PS X e t' := ⟨fun pins s σ H Q I q => h.run pins s σ H Q I (i Q σ H q)⟩
theorem _root_.L2.PSs.imp {X : Cx} {e : List Stmt} {t t' : TS} (h : PSs X e t) (i : ∀ Q σ H, t' Q σ H → t Q σ H) : PSs X e t' := ⟨fun pins s σ H Q I q => h.run pins s σ H Q I (i Q σ H q)⟩
theorem _root_.L2.PSs.ex {ι : Sort _} {X : Cx} {x : List Stmt} {t : ι → TS} (h : ∀ i, PSs X x (t i)) : PSs X x (fun D σ H => ∃ i, t i D σ H) := ⟨fun pins s σ H D I ⟨i, q⟩ => (h i).run pins s σ H D I q⟩
theorem _root_.L2.PT.ex {ι : Sort _} {X : Cx} {x : Expr} {t : ι → TT} (h : ∀ i, PT X x (t i)) : PT X x (fun σ H Q => ∃ i, t i σ H Q) := ⟨fun pins s σ H Q I ⟨i, q⟩ => (h i).run pins s σ H Q I q⟩

structure SndS (Γ : Nat → Option Fn) (s : S) : Prop where
  ps : ∀ C P k X st, Good Γ C P k X → chkS s C st = true → PS X st (tS P Γ s)
  pss : ∀ C P k X sts, Good Γ C P k X → chkB s C sts = true → PSs X sts (tS P Γ s)

theorem ask_res {P : Par} {Z : Ends} {α : Type} {r : Res α} {f : α → Env → Out} (h : Ask P Z (r.out f)) : ∃ a c, r = .ok a c ∧ Ask P Z (f a c) := by
  cases r with
  | ok a c => exact ⟨a, c, rfl, h⟩
  | ex x c => exact h.elim
  | no => exact h.elim
theorem ask_env {P : Par} {Z : Ends} {o : Option Env} (h : Ask P Z (Env.nx o)) : ∃ c, o = some c ∧ ∀ σ' H' F', Mt P F' c σ' H' → Z.nx σ' H' := by
  cases o with
  | some c => exact ⟨c, rfl, h⟩
  | none => exact h.elim
section
variable {P : Par} {F H : Hp} {c c' T A B : Env} {σ τ α β : L2.St}
theorem Mt.setF {i : Nat} {v : V} {d : D} (M : Mt P F c σ H) (hi : i < c.length) (hv : σ[i]? = some (some v)) (q : Dq P.K F v d) : Mt P F (c.set i (some ⟨.fz, d⟩)) σ H := by
  refine ⟨by rw [List.length_set]; exact M.len, M.le, M.old, M.gr, M.fr, M.ioT, M.ioH, fun j y hy => ?_, fun j k y z w h1 h2 m1 m2 h3 h4 => ?_⟩
  · by_cases e : j = i
    · subst e
      rw [cell_set_self hi] at hy
      cases hy
      exact ⟨v, hv, q⟩
    · rw [cell_set_ne e] at hy
      exact M.cell j y hy
  · have back : ∀ j z, Env.cell (c.set i (some ⟨.fz, d⟩)) j = some z → z.st.mut = true → c.cell j = some z := fun j z hz m => by
      by_cases e : j = i
      · subst e
        rw [cell_set_self hi] at hz
        cases hz
        exact (Bool.false_ne_true m).elim
      · rw [cell_set_ne e] at hz
        exact hz
    exact M.apart j k y z w (back j y h1 m1) (back k z h2 m2) m1 m2 h3 h4
theorem keep_sound {b : BV} {v : V} {p : Bool × D} (M : Mt P F (c ++ (A ++ tcB b :: B)) (σ ++ (α ++ some v :: β)) H) (hl : c.length = σ.length) (hA : A.length = α.length)
    (hs : SlotAt σ v b) (h : b.keep c = .ok p c') : ∃ F', Le F F' ∧ Mt P F' (c' ++ (A ++ some (cellOf p) :: B)) (σ ++ (α ++ some v :: β)) H ∧ c'.length = c.length := by
  cases b with
  | slot i =>
    have e : (BV.slot i).keep c = ((BV.slot i).esc c).bind fun d c => .ok (false, d) c := by
      unfold BV.keep BV.esc
      simp only
      split <;> rfl
    rw [e] at h
    obtain ⟨d, c1, h1, h2⟩ := bind_ok h
    cases h2
    obtain ⟨F', x, le, M', q, l⟩ := esc_sound M hl hA hs h1
    refine ⟨F', le, ?_, l⟩
    have hcl : (c' ++ A).length = (σ ++ α).length := by rw [List.length_append, List.length_append]; omega
    have at0 : (σ ++ (α ++ some v :: β))[(c' ++ A).length]? = some (some v) := by
      rw [← List.append_assoc, hcl, List.getElem?_append_right (Nat.le_refl _), Nat.sub_self]; rfl
    have M2 := M'.setF (i := (c' ++ A).length) (by simp only [List.length_append, List.length_cons]; omega) at0 q
    rw [← List.append_assoc, List.set_append_right _ _ (Nat.le_refl _), Nat.sub_self] at M2
    rw [← List.append_assoc]
    exact M2
  | dt x =>
    cases h
    exact ⟨F, Le.refl F, M, rfl⟩
  | fr x =>
    cases h
    exact ⟨F, Le.refl F, M, rfl⟩
theorem keepAll_sound : ∀ {bs : List BV} {vs : List V} {ps : List (Bool × D)} {c c' A : Env} {α : L2.St} {F : Hp}, Mt P F (c ++ (A ++ bs.map tcB)) (σ ++ (α ++ vs.map some)) H → c.length = σ.length → A.length = α.length → Paired (SlotAt σ) vs bs → keepAll bs c = .ok ps c' →
    ∃ F', Mt P F' (c' ++ (A ++ ps.map fun p => some (cellOf p))) (σ ++ (α ++ vs.map some)) H ∧ c'.length = c.length ∧ ps.length = vs.length
  | [], [], ps, c, c', A, α, F, M, hl, hA, hs, h => by
    cases h
    exact ⟨F, M, rfl, rfl⟩
  | b :: bs, v :: vs, ps, c, c', A, α, F, M, hl, hA, .cons s0 hs, h => by
    obtain ⟨p, c1, h1, h2⟩ := bind_ok (show (b.keep c).bind _ = _ from h)
    obtain ⟨ps', c2, h3, h4⟩ := bind_ok h2
    cases h4
    obtain ⟨F1, le1, M1, l1⟩ := keep_sound M hl hA s0 h1
    obtain ⟨F2, M2, l2, l3⟩ := keepAll_sound (A := A ++ [some (cellOf p)]) (α := α ++ [some v]) (by simpa using M1) (by omega) (by simp only [List.length_append, List.length_singleton]; omega) hs h3
    exact ⟨F2, by simpa using M2, by omega, by simp [l3]⟩
def setAll : L2.St → List Nat → List V → L2.St
  | σ, i :: is, v :: vs => setAll (σ.set i (some v)) is vs
  | σ, _, _ => σ
theorem putAll_sound : ∀ {is : List Nat} {ps : List (Bool × D)} {vs : List V} {c c' : Env} {σ : L2.St}, Mt P F (c ++ ps.map fun p => some (cellOf p)) (σ ++ vs.map some) H → c.length = σ.length → ps.length = vs.length → putAll is ps c = some c' → Mt P F c' (setAll σ is vs) H ∧ vs.length = is.length
  | [], [], [], c, c', σ, M, hl, hn, h => by
    cases h
    exact ⟨by simpa [setAll] using M, rfl⟩
  | i :: is, p :: ps, v :: vs, c, c', σ, M, hl, hn, h => by
    obtain ⟨c1, h1, h2⟩ := obind_some (show (c.put i (cellOf p)).bind _ = _ from h)
    obtain ⟨hi, w⟩ := put_some h1
    subst w
    have M1 := Mt.store (i := i) (x := some (cellOf p)) (v := some v) (c := c) (σ := σ) (T := ps.map fun p => some (cellOf p)) (τ := vs.map some) M hl hi
    obtain ⟨M2, l2⟩ := putAll_sound M1 (by rw [List.length_set, List.length_set]; exact hl) (by simpa using hn) h2
    exact ⟨M2, by simp [l2]⟩
  | [], _ :: _, _, c, c', σ, M, hl, hn, h => by cases h
  | _ :: _, [], _, c, c', σ, M, hl, hn, h => by cases h
  | [], [], _ :: _, c, c', σ, M, hl, hn, h => by cases hn
  | _ :: _, _ :: _, [], c, c', σ, M, hl, hn, h => by cases hn
end
section
variable {Γ : Nat → Option Fn} {C : Ctx} {P : Par} {k : Nat} {X : Cx}
theorem s_asg_imp {i : Nat} {e : E} {te : TE} (hi : ∀ σ H Q, tE P Γ e σ H Q → te σ H Q) {Z : Ends} {σ : L2.St} {H : Hp} (h : tS P Γ (.asg i e) Z σ H) : tAsg te (gName i) Z σ H := by
  obtain ⟨F, c, M, h⟩ := h
  simp only [xst] at h
  obtain ⟨x, c1, e1, h⟩ := ask_res h
  obtain ⟨p, c2, e2, h⟩ := ask_res h
  obtain ⟨c3, e3, h⟩ := ask_env h
  obtain ⟨hi3, w⟩ := put_some e3
  subst w
  refine hi σ H _ ⟨F, c, [], [], x, c1, by simpa using M, M.len, e1, fun v H1 F1 M1 l1 s1 => ?_⟩
  obtain ⟨F2, le2, M2, l2⟩ := keep_sound (A := []) (B := []) (α := []) (β := []) (by simpa using M1) l1 rfl s1 e2
  have M3 := Mt.put (c := c2) (T := []) (σ := σ) (τ := []) (i := i) (x := cellOf p) (v := v) (by simpa using M2) (by omega) hi3
  exact h _ H1 F2 (by simpa using M3)
theorem swap_cell {env : PySem.Env} {elt : Expr} {gs : List Comprehension} {scope : Scope} {p px : Pos} {x : Str} {l : Nat} (h : env.kindOf x = some .cell) : swapsWith (.ListComp elt gs scope p) (some (.Name x px)) l env = pure false := by
  unfold swapsWith
  have e : (NameKind.cell == NameKind.local) = false := by decide
  simp [h, e]
theorem s_asg {i : Nat} {e : E} (he : Snd Γ e) {st : Stmt} (G : Good Γ C P k X) (h : chkS (.asg i e) C st = true)
    (hlc : ∀ own elt tg it cond, e = .lc own elt tg it cond → Snd Γ elt ∧ Snd Γ it ∧ Snd Γ cond) : PS X st (tS P Γ (.asg i e)) := by
  simp only [chkS] at h
  split at h
  case h_2 => cases h
  rename_i x px v pos
  simp only [Bool.and_eq_true] at h
  obtain ⟨⟨⟨h1, h2⟩, h3⟩, h4⟩ := h
  obtain ⟨l1, l2⟩ := G.loc h2
  have hN : X.N.Nodup := by rw [G.N]; exact G.nd
  have hi : X.N[i]? = some x := by rw [G.N]; exact of_decide_eq_true h1
  have hpe := he.pe _ P _ _ _ G h4
  have plain : (∀ l, swapsWith v (some (.Name x px)) l X.env = pure false) → PS X (.Assign [.Name x px] v pos) (tS P Γ (.asg i e)) := fun hs =>
    (ps_asg hpe (pg_name hN hi l1 l2) (hs pos.line) rfl).imp fun Z σ H q => s_asg_imp (fun _ _ _ z => z) q
  unfold chkV at h3
  split at h3
  · rename_i eelt gs scope p
    simp only [Bool.and_eq_true, Bool.or_eq_true] at h3
    obtain ⟨h5, h6⟩ := h3
    rcases h6 with h6 | h6
    · cases e <;> first | (cases h5; done) | skip
      rename_i own elt tg it cond
      obtain ⟨s1, s2, s3⟩ := hlc own elt tg it cond rfl
      obtain ⟨⟨⟨h7, h7'⟩, h8⟩, h9⟩ := h6
      have hlocal : C.sc.names.lookup x = some .local := by
        unfold locB at h7
        split at h7
        · assumption
        · cases h7
      have hloc' : X.env.scope.names.lookup x = some .local := by rw [G.sc]; exact hlocal
      have hsw : swapsWith (.ListComp eelt gs scope p) (some (.Name x px)) pos.line X.env = pure true :=
        sw_true (by rw [G.sc]; exact of_decide_eq_true h7') hloc' h8 (by simpa using h9)
      have G' := G
      simp only [chkE] at h4
      split at h4
      case h_2 => cases h4
      rename_i eelt' etg eit ifs scope' pos' heq
      cases heq
      simp only [Bool.and_eq_true] at h4
      obtain ⟨⟨⟨⟨⟨⟨k1, k2⟩, k3⟩, k4⟩, k5⟩, k6⟩, k7⟩ := h4
      have ok : BlkOk X.N X.env.scope scope (ownOf C.N own) := by rw [G.N, G.sc]; exact blkOk_by k1
      have hown : (ownOf C.N own).map (·.2) = own := by
        unfold ownOf
        rw [List.map_map]
        exact List.map_id' own
      refine (ps_setLc G.calm hN hi hloc' hsw (s2.pi _ P _ _ _ _ G k3) ok (fun s H Ca cl fp => PG.ex (t := fun p : { p : Par // p.K = X.K } => gT p.1 tg) fun p => (g_all ((G.block scope s H Ca cl fp).par (p.2.trans G.kp.symm)) tg).1 _ k4)
        (fun s H Ca cl fp => PTs.ex (t := fun p : { p : Par // p.K = X.K } => tT p.1 Γ cond) fun p => lc_cond s3 ((G.block scope s H Ca cl fp).par (p.2.trans G.kp.symm)) k6)
        (fun s H Ca cl fp => PE.ex (t := fun p : { p : Par // p.K = X.K } => tE p.1 Γ elt) fun p => s1.pe _ p.1 _ _ _ ((G.block scope s H Ca cl fp).par (p.2.trans G.kp.symm)) k7) (folded_of k2)).imp ?_
      rw [hown]
      exact fun Z σ H q => s_asg_imp (lc_imp G.kp k5) q
    · refine plain fun l => swap_cell ?_
      show X.env.scope.names.lookup x = _
      rw [G.sc]
      unfold cellB at h6
      split at h6
      · assumption
      · cases h6
  · cases h3
  · cases h3
  · rename_i hn1 hn2 hn3
    refine plain fun l => ?_
    cases v <;> first | rfl | (exfalso; first | exact hn1 _ _ _ _ rfl | exact hn2 _ _ _ _ rfl | exact hn3 _ _ _ _ _ rfl)
end
end T

set_option Elab.async false
set_option linter.all false
set_option maxRecDepth 100000
set_option maxHeartbeats 1000000
/-! The evaluator is right: more statements. -/
namespace T
open PySem PySem.Spec PyProof.Rows L2
section
variable {Γ : Nat → Option Fn} {C : Ctx} {P : Par} {k : Nat} {X : Cx}

/-! ### several names at once -/
def gAll (is : List Nat) : TGs := fun vs σ H Q => vs.length = is.length ∧ Q (setAll σ is vs) H
theorem chkIs_at (G : Good Γ C P k X) : ∀ {is : List Nat} {ts : List Expr}, chkIs C is ts = true → PGs X ts (gAll is) ∧ ts.all noStar = true ∧ ts.length = is.length
  | [], [], _ => by
    refine ⟨pgs_nil.imp ?_, rfl, rfl⟩
    rintro vs σ H Q ⟨h1, h2⟩
    cases vs with
    | nil => exact ⟨rfl, h2⟩
    | cons _ _ => cases h1
  | i :: is, t :: ts, h => by
    cases t <;> first | (simp [chkIs] at h; done) | skip
    rename_i x p
    simp only [chkIs, Bool.and_eq_true] at h
    obtain ⟨⟨h1, h2⟩, h3⟩ := h
    obtain ⟨ih, i2, i3⟩ := chkIs_at G h3
    obtain ⟨l1, l2⟩ := G.loc h2
    have hg : PG X (.Name x p) (gName i) := pg_name (by rw [G.N]; exact G.nd) (by rw [G.N]; exact of_decide_eq_true h1) l1 l2
    refine ⟨(pgs_cons hg ih rfl).imp ?_, by rw [List.all_cons, i2]; rfl, by rw [List.length_cons, List.length_cons, i3]⟩
    rintro vs σ H Q ⟨q1, q2⟩
    cases vs with
    | nil => cases q1
    | cons v vs => exact ⟨v, vs, rfl, by simpa using q1, q2⟩
  | [], _ :: _, h => by simp [chkIs] at h
  | _ :: _, [], h => by simp [chkIs] at h
theorem loc_kind (G : Good Γ C P k X) {x : Str} (h : locB C x = true) : X.env.scope.names.lookup x = some .local := by
  rw [G.sc]
  unfold locB at h
  split at h
  · assumption
  · cases h
/-- the values that a parallel assignment stores -/
theorem s_par_core {is : List Nat} {es : E} {Z : Ends} {σ : L2.St} {H : Hp} (h : tS P Γ (.par is es) Z σ H) : tA P Γ es σ H fun vs H1 => vs.length = is.length ∧ (Z.nx (setAll σ is vs) H1 ∧ ∀ p o, H1 p = none → Z.nx (setAll σ is vs) (upd H1 p o)) := by
  obtain ⟨F, c, M, h⟩ := h
  simp only [xst] at h
  obtain ⟨bs, c1, e1, h⟩ := ask_res h
  obtain ⟨ps, c2, e2, h⟩ := ask_res h
  obtain ⟨c3, e3, h⟩ := ask_env h
  refine ⟨F, c, [], [], bs, c1, by simpa using M, M.len, e1, fun vs H1 F1 M1 l1 s1 => ?_⟩
  obtain ⟨F2, M2, l2, l3⟩ := keepAll_sound (A := []) (α := []) (by simpa using M1) l1 rfl s1 e2
  obtain ⟨M3, l4⟩ := putAll_sound (is := is) (by simpa using M2) (by omega) l3 e3
  exact ⟨l4, h _ H1 F2 M3, fun p o hp => h _ _ F2 (M3.grow (Le.refl F2) (Le.new hp) (M3.le.trans (Le.new hp)) fun _ _ e => .inl e)⟩
theorem noStar_any : ∀ {vs : List Expr}, vs.all noStar = true → (vs.any fun | .Starred .. => true | _ => false) = false
  | [], _ => rfl
  | v :: vs, h => by
    rw [List.all_cons, Bool.and_eq_true] at h
    rw [List.any_cons, noStar_any h.2, Bool.or_false]
    cases v <;> first | rfl | exact absurd h.1 (by simp [noStar])
theorem dups2 {x y : Str} (h : (x == y) = false) : [x, y].eraseDups.length = 2 := by
  have h' : (y == x) = false := by
    cases e : (y == x) with
    | false => rfl
    | true =>
      have : y = x := by simpa using e
      subst this
      simp at h
  rw [List.eraseDups_cons]
  simp [h', List.eraseDups_cons]
theorem star_match {a : Expr} (h : noStar a = true) : (match a with | .Starred _ _ => true | _ => false) = false := by
  cases a <;> first | rfl | exact absurd h (by simp [noStar])
theorem dups3 {x y z : Str} (h : (x == y) = false) (h2 : (x == z) = false) (h3 : (y == z) = false) : [x, y, z].eraseDups.length = 3 := by
  have sym : ∀ {a b : Str}, (a == b) = false → (b == a) = false := fun {a b} h => by
    cases e : (b == a) with
    | false => rfl
    | true =>
      have : b = a := by simpa using e
      subst this
      simp at h
  rw [List.eraseDups_cons]
  simp [sym h, sym h2, List.eraseDups_cons, sym h3]
theorem swap2 {env : PySem.Env} {x y : Str} {px py pt pt2 : Pos} {kt k2 : Nat} {a b : Expr} (h1 : (py.line == px.line) = true) (h2 : (x == y) = false) (h3 : noStar a = true) (h4 : noStar b = true) (h5 : ([a, b].all (foldedForSure 8)) = false) (h6 : ([a, b].all (constantsAlone 8)) = false)
    (hk : env.blockKind = .function) (hx : env.kindOf x = some .local) (hy : env.kindOf y = some .local) : swappedStores [.Tuple [.Name x px, .Name y py] kt pt] (.Tuple [a, b] k2 pt2) env = pure (some [x, y]) := by
  have hf : (ScopeKind.function != ScopeKind.function) = false := by decide
  have hd := dups2 h2
  have h1' : py.line = px.line := by simpa using h1
  unfold swappedStores
  simp only [hk, hf]
  have ep : (Option.map (fun x => x.pos.line) [Expr.Name x px, Expr.Name y py].head?).getD 0 = px.line := rfl
  simp only [ep]
  simp only [List.filterMap_cons, List.filterMap_nil, hx, hy, h1']
  rw [if_neg (by simp), if_neg (by
    rw [Bool.not_eq_true]
    simp only [List.any_cons, List.any_nil, Bool.or_false]
    cases a <;> first | (cases b <;> first | rfl | (simp [noStar] at h4; done)) | (simp [noStar] at h3; done))]
  have hc : (some NameKind.local == some NameKind.local && px.line == px.line) = true := by simp
  simp only [hc, if_true]
  simp [hd, h5, h6]
def isStar (a : Expr) : Bool := match a with | .Starred _ _ => true | _ => false
theorem star3 {a : Expr} (h : noStar a = true) : isStar a = false := by
  cases a <;> first | rfl | (simp [noStar] at h; done)
theorem swap3 {env : PySem.Env} {x y z : Str} {px py pz pt pt2 : Pos} {kt k2 : Nat} {a b c : Expr} (h1 : (py.line == px.line) = true) (h1z : (pz.line == px.line) = true) (h2 : (x == y) = false) (h2' : (x == z) = false) (h2'' : (y == z) = false) (h3 : noStar a = true) (h4 : noStar b = true) (h4' : noStar c = true) (h5 : ([a, b, c].all (foldedForSure 8)) = false) (h6 : ([a, b, c].all (constantsAlone 8)) = false)
    (hk : env.blockKind = .function) (hx : env.kindOf x = some .local) (hy : env.kindOf y = some .local) (hz : env.kindOf z = some .local) : swappedStores [.Tuple [.Name x px, .Name y py, .Name z pz] kt pt] (.Tuple [a, b, c] k2 pt2) env = pure (some [x, y, z]) := by
  have hf : (ScopeKind.function != ScopeKind.function) = false := by decide
  have hd := dups3 h2 h2' h2''
  have h1' : py.line = px.line := by simpa using h1
  have h1z' : pz.line = px.line := by simpa using h1z
  unfold swappedStores
  simp only [hk, hf]
  have ep : (Option.map (fun x => x.pos.line) [Expr.Name x px, Expr.Name y py, Expr.Name z pz].head?).getD 0 = px.line := rfl
  simp only [ep]
  simp only [List.filterMap_cons, List.filterMap_nil, hx, hy, hz, h1', h1z']
  rw [if_neg (by simp), if_neg (by
    rw [Bool.not_eq_true]
    simp only [List.any_cons, List.any_nil, Bool.or_false]
    have e1 := star3 h3
    have e2 := star3 h4
    have e3 := star3 h4'
    unfold isStar at e1 e2 e3
    first
      | (rw [e1, e2, e3]; rfl)
      | (simp only [Bool.or_eq_false_iff]; exact ⟨e1, e2, e3⟩))]
  have hc : (some NameKind.local == some NameKind.local && px.line == px.line) = true := by simp
  simp only [hc, if_true]
  simp [hd, h5, h6]
theorem swap_far {ts vs : List Expr} {env : PySem.Env} {pt pt2 : Pos} {kt k2 : Nat} (h : 4 ≤ ts.length) : swappedStores [.Tuple ts kt pt] (.Tuple vs k2 pt2) env = pure none := by
  have e2 : (ts.length == 2) = false := by simp; omega
  have e3 : (ts.length == 3) = false := by simp; omega
  unfold swappedStores
  simp [e2, e3]
theorem fm_lt {f : Expr → Option Str} : ∀ {ts : List Expr}, ts.any (fun e => (f e).isNone) = true → (ts.filterMap f).length < ts.length
  | [], h => by simp at h
  | t :: ts, h => by
    rw [List.filterMap_cons]
    cases e : f t with
    | none => exact Nat.lt_succ_of_le (List.length_filterMap_le f ts)
    | some y =>
      rw [List.any_cons, e] at h
      have := fm_lt (f := f) (ts := ts) (by simpa using h)
      simp only [List.length_cons]
      omega
theorem swap_cells (G : Good Γ C P k X) {ts vs : List Expr} {pt pt2 : Pos} {kt k2 : Nat} (h : ts.any (isCellN C) = true) : swappedStores [.Tuple ts kt pt] (.Tuple vs k2 pt2) X.env = pure none := by
  unfold swappedStores
  simp only
  split
  · rfl
  · split
    · rfl
    · rw [if_pos]
      · rw [Bool.or_eq_true]
        refine .inl ?_
        rw [bne_iff_ne]
        refine Nat.ne_of_lt (fm_lt ?_)
        rw [List.any_eq_true] at h ⊢
        obtain ⟨e, he, h⟩ := h
        refine ⟨e, he, ?_⟩
        cases e <;> first | rfl | skip
        rename_i x p
        have hk : X.env.kindOf x = some .cell := by
          show X.env.scope.names.lookup x = _
          rw [G.sc]
          have h : cellB C x = true := h
          unfold cellB at h
          split at h
          · assumption
          · cases h
        have e : (some NameKind.cell == some NameKind.local) = false := by decide
        simp only [hk, e, Bool.false_and]
        rfl
end
end T

set_option Elab.async false
set_option linter.all false
set_option maxRecDepth 100000
set_option maxHeartbeats 1000000
/-! The evaluator is right: all statements. -/
namespace T
open PySem PySem.Spec PyProof.Rows L2
section
variable {Γ : Nat → Option Fn} {C : Ctx} {P : Par} {k : Nat} {X : Cx}

theorem nb {b : Bool} (h : (!b) = true) : b = false := by cases b <;> first | rfl | cases h
theorem bk_fun (G : Good Γ C P k X) (h : C.sc.kind = .function) : X.env.blockKind = .function := by
  unfold PySem.Env.blockKind
  rw [G.sc, h]; rfl
theorem all_noStar_tup {vs : List Expr} {es : E} (h : chkA es C vs = true) : vs.all noStar = true := chkA_stars h
theorem s_par {is : List Nat} {es : E} (he : Snd Γ es) {st : Stmt} (G : Good Γ C P k X) (h : chkS (.par is es) C st = true) : PS X st (tS P Γ (.par is es)) := by
  simp only [chkS] at h
  split at h
  case h_2 => cases h
  rename_i ts k1 p1 vs k2 p2 pos
  simp only [Bool.and_eq_true, Bool.or_eq_true] at h
  obtain ⟨⟨⟨h1, h2⟩, h3⟩, h4⟩ := h
  have h2 := of_decide_eq_true h2
  have hA := he.pa _ P _ _ _ G h3
  have hN : X.N.Nodup := by rw [G.N]; exact G.nd
  obtain ⟨g1, g2, g3⟩ := chkIs_at G h1
  rcases h4 with h4 | h4
  · unfold swapOk at h4
    split at h4
    · rename_i x px y py a b
      simp only [Bool.and_eq_true] at h4
      obtain ⟨⟨⟨⟨⟨⟨⟨⟨c1, c2⟩, q1⟩, q2⟩, q3⟩, q4⟩, q5⟩, q6⟩, q7⟩ := h4
      match is, h1 with
      | [i, j], h1 =>
        simp only [chkIs, Bool.and_eq_true] at h1
        obtain ⟨⟨m1, m2⟩, ⟨m3, m4⟩, _⟩ := h1
        have lx := loc_kind G c1
        have ly := loc_kind G c2
        have hij : i ≠ j := by simp at h2; exact h2
        have bk := bk_fun G (of_decide_eq_true q7)
        refine (ps_par G.calm hN (i := i) (j := j) (by rw [G.N]; exact of_decide_eq_true m1) (by rw [G.N]; exact of_decide_eq_true m3) hij lx ly hA
          (swap2 q1 (by simpa using q2) q3 q4 (nb q5) (nb q6) bk lx ly) rfl).imp ?_
        intro Z σ H q
        obtain ⟨F, c, T, τ, bs, c', M, hl, hev, q⟩ := s_par_core q
        refine ⟨F, c, T, τ, bs, c', M, hl, hev, fun vs H' F' M' l' s' => ?_⟩
        obtain ⟨e1, e2, _⟩ := q vs H' F' M' l' s'
        match vs, e1 with
        | [v, w], _ => exact ⟨v, w, rfl, e2⟩
    · rename_i x px y py z pz a b c
      simp only [Bool.and_eq_true] at h4
      obtain ⟨⟨⟨⟨⟨⟨⟨⟨⟨⟨⟨⟨⟨c1, c2⟩, c3⟩, q1⟩, q1z⟩, q2⟩, q2'⟩, q2''⟩, q3⟩, q4⟩, q4'⟩, q5⟩, q6⟩, q7⟩ := h4
      match is, h1 with
      | [i, j, l], h1 =>
        simp only [chkIs, Bool.and_eq_true] at h1
        obtain ⟨⟨m1, m2⟩, ⟨m3, m4⟩, ⟨m5, m6⟩, _⟩ := h1
        have lx := loc_kind G c1
        have ly := loc_kind G c2
        have lz := loc_kind G c3
        have hn : i ≠ j ∧ i ≠ l ∧ j ≠ l := by simp at h2; exact ⟨h2.1.1, h2.1.2, h2.2⟩
        have bk := bk_fun G (of_decide_eq_true q7)
        refine (ps_par3 G.calm hN (i := i) (j := j) (l := l) (by rw [G.N]; exact of_decide_eq_true m1) (by rw [G.N]; exact of_decide_eq_true m3) (by rw [G.N]; exact of_decide_eq_true m5) hn.1 hn.2.1 hn.2.2 lx ly lz hA
          (swap3 q1 q1z (by simpa using q2) (by simpa using q2') (by simpa using q2'') q3 q4 q4' (nb q5) (nb q6) bk lx ly lz) rfl).imp ?_
        intro Z σ H q
        obtain ⟨F, c, T, τ, bs, c', M, hl, hev, q⟩ := s_par_core q
        refine ⟨F, c, T, τ, bs, c', M, hl, hev, fun vs H' F' M' l' s' => ?_⟩
        obtain ⟨e1, e2, _⟩ := q vs H' F' M' l' s'
        match vs, e1 with
        | [u, v, w], _ => exact ⟨u, v, w, rfl, e2⟩
    · cases h4
  · unfold noSwap at h4
    rw [Bool.and_eq_true] at h4
    obtain ⟨n1, n2⟩ := asgs_len (env := X.env) g2
    refine (ps_asg (pe_tup hA) (pg_tup G.calm g1 n1 n2) rfl (by
      rcases Bool.or_eq_true_iff.mp h4.1 with z | z
      · exact swap_far (of_decide_eq_true z)
      · exact swap_cells G z)).imp ?_
    intro Z σ H q
    obtain ⟨F, c, T, τ, bs, c', M, hl, hev, q⟩ := s_par_core q
    refine ⟨F, c, T, τ, bs, c', M, hl, hev, fun vs H' F' M' l' s' => ?_⟩
    obtain ⟨e1, _, e2⟩ := q vs H' F' M' l' s'
    have h5 := of_decide_eq_true h4.2
    refine ⟨Nat.le_trans (show vs.length ≤ 100 by omega) (by decide), fun p hp => ?_⟩
    exact ⟨p, vs, rfl, .of upd_same, by omega, e1, e2 p _ hp⟩
theorem swap_fold {ts vs : List Expr} {k1 k2 : Nat} {p1 p2 : Pos} {env : PySem.Env} (h : vs.all (foldedForSure 8) = true) : swappedStores [.Tuple ts k1 p1] (.Tuple vs k2 p2) env = pure none := by
  unfold swappedStores
  simp only [h]
  repeat (first | rfl | split)
theorem s_unp {tg : Tg} {e : E} (he : Snd Γ e) {st : Stmt} (G : Good Γ C P k X) (h : chkS (.unp tg e) C st = true) : PS X st (tS P Γ (.unp tg e)) := by
  simp only [chkS] at h
  split at h
  case h_2 => cases h
  rename_i ts kk p v pos
  simp only [Bool.and_eq_true] at h
  obtain ⟨⟨⟨h1, h2⟩, h3⟩, h4⟩ := h
  have hs : swapsWithSole [.Tuple ts kk p] v pos.line X.env = pure false := by
    cases v <;> first | rfl | (simp [noComp] at h1; done)
  have hw : swappedStores [.Tuple ts kk p] v X.env = pure none := by
    cases v <;> first | rfl | skip
    rename_i vs1 k1 p1
    rw [Bool.or_eq_true, Bool.or_eq_true] at h2
    rcases h2 with (h2 | h2) | h2
    · cases h2
    · exact swap_fold h2
    · exact swap_cells G h2
  refine (ps_asg (he.pe _ P _ _ _ G h4) ((g_all G tg).1 _ h3) hs hw).imp ?_
  rintro Z σ H ⟨F, c, M, h⟩
  simp only [xst] at h
  obtain ⟨x, c1, e1, h⟩ := ask_res h
  obtain ⟨d, c2, e2, h⟩ := ask_res h
  obtain ⟨c3, e3, h⟩ := ask_env h
  refine e_esc he G h4 (T := []) (τ := []) (by simpa using M) M.len e1 e2 fun v H' F' M' l' dq => ?_
  exact ⟨F', c2, [], [], d, c3, M', l', dq, e3, fun σ' M3 l3 l4 _ => h σ' H' F' (by simpa using M3)⟩
theorem s_drop {e : E} (he : Snd Γ e) {st : Stmt} (G : Good Γ C P k X) (h : chkS (.drop e) C st = true) : PS X st (tS P Γ (.drop e)) := by
  simp only [chkS] at h
  split at h
  case h_2 => cases h
  rename_i v pos
  simp only [Bool.and_eq_true] at h
  have hs : swapsWith v none pos.line X.env = pure false := by
    cases v <;> first | rfl | (have := h.1; simp [noComp] at this; done)
  refine (ps_expr (he.pe _ P _ _ _ G h.2) hs).imp ?_
  rintro Z σ H ⟨F, c, M, h'⟩
  simp only [xst] at h'
  obtain ⟨x, c1, e1, h'⟩ := ask_res h'
  refine e_one he G h.2 (T := []) (τ := []) (by simpa using M) M.len e1 fun v H' F' M' l' _ _ => ?_
  have M2 := M'.take (by simpa using l')
  exact h' σ H' F' (by simpa using M2)
theorem s_aug {i : Nat} {op : BOp} {e : E} (he : Snd Γ e) {st : Stmt} (G : Good Γ C P k X) (h : chkS (.aug i op e) C st = true) : PS X st (tS P Γ (.aug i op e)) := by
  simp only [chkS] at h
  split at h
  case h_2 => cases h
  rename_i x px o v pos
  simp only [Bool.and_eq_true] at h
  obtain ⟨⟨⟨h1, h2⟩, h3⟩, h4⟩ := h
  have h3 := of_decide_eq_true h3
  subst h3
  obtain ⟨l1, l2⟩ := G.loc h2
  have hN : X.N.Nodup := by rw [G.N]; exact G.nd
  have hi : X.N[i]? = some x := by rw [G.N]; exact of_decide_eq_true h1
  have core : ∀ (f : Int → Int → Int), (∀ a b, augD op a b = some (f a b)) → ∀ Z σ H, tS P Γ (.aug i op e) Z σ H → tAug i (tE P Γ e) (rI0 fun i j => .int (f i j)) Z σ H := by
    rintro f hf Z σ H ⟨F, c, M, h⟩
    simp only [xst] at h
    split at h
    case h_2 => exact h.elim
    rename_i a e1
    obtain ⟨x, c1, e2, h⟩ := ask_res h
    cases hr : (x.rd c1).bind toInt with
    | none => rw [hr] at h; exact h.elim
    | some b =>
      rw [hr] at h
      simp only [hf] at h
      obtain ⟨d, e3, r2⟩ := obind_some hr
      have e := toInt_eq r2
      subst e
      obtain ⟨c3, e4, h⟩ := ask_env h
      obtain ⟨hi3, w⟩ := put_some e4
      subst w
      obtain ⟨v, hv, hc⟩ := M.cell i _ e1
      have ev0 : v = .int a := by
        have : Dq P.K F v (.int a) := hc
        cases this
        rfl
      subst ev0
      refine ⟨_, hv, e_one he G h4 (T := []) (τ := []) (by simpa using M) M.len e2 fun w H' F' M' l' s _ => ?_⟩
      refine ⟨a, b, rfl, (s _ e3).int, ?_⟩
      have M2 := M'.take (by simpa using l')
      have M3 := (M2.pushF (Dq.int (f a b))).put l' hi3
      exact h _ H' F' (by simpa using M3)
  have none : (∀ a b, augD op a b = none) → ∀ Z σ H, tS P Γ (.aug i op e) Z σ H → False := by
    rintro hf Z σ H ⟨F, c, M, h⟩
    simp only [xst] at h
    split at h
    case h_2 => exact h.elim
    obtain ⟨x, c1, e2, h⟩ := ask_res h
    cases hr : (x.rd c1).bind toInt with
    | none => rw [hr] at h; exact h.elim
    | some b =>
      rw [hr] at h
      simp only [hf] at h
      exact h.elim
  cases op
  · exact (ps_aug (i := i) hN hi l1 (he.pe _ P _ _ _ G h4) iop_add l2).imp fun Z σ H q => core (fun i j => i + j) (fun _ _ => rfl) Z σ H q
  · exact (ps_aug (i := i) hN hi l1 (he.pe _ P _ _ _ G h4) iop_sub l2).imp fun Z σ H q => core (fun i j => i - j) (fun _ _ => rfl) Z σ H q
  all_goals exact ps_never.imp fun Z σ H q => none (fun _ _ => rfl) Z σ H q
theorem writable_some {c : Env} {i : Nat} {st : Stt} {l : List D} (h : writable c i = some (st, l)) : c.cell i = some ⟨st, .lst l⟩ ∧ st.mut = true := by
  unfold writable at h
  split at h
  · rename_i e; cases h; exact ⟨e, rfl⟩
  · rename_i e; cases h; exact ⟨e, rfl⟩
  · cases h
theorem s_setI {x : Nat} {i e : E} (hi : Snd Γ i) (he : Snd Γ e) {st : Stmt} (G : Good Γ C P k X) (h : chkS (.setI x i e) C st = true) : PS X st (tS P Γ (.setI x i e)) := by
  simp only [chkS] at h
  split at h
  case h_2 => cases h
  rename_i xn px ei pi v pos
  simp only [Bool.and_eq_true] at h
  obtain ⟨⟨⟨⟨h1, h2⟩, h3⟩, h4⟩, h5⟩ := h
  unfold Ctx.isVar at h1
  simp only [Bool.and_eq_true] at h1
  obtain ⟨⟨⟨k1, k2⟩, k3⟩, k4⟩ := h1
  have hv : PE X (.Name xn px) (tVar x) := pe_var (by rw [G.N]; exact of_decide_eq_true k1) (G.vis k2) (by simpa using k3) (by simpa using k4)
  have hs : swapsWithSole [.Subscript (.Name xn px) ei pi] v pos.line X.env = pure false := by
    cases v <;> first | rfl | (simp [noComp] at h4; done)
  refine (ps_asg (he.pe _ P _ _ _ G h5) (pg_sub hv (hi.pe _ P _ _ _ G h3) set_list (fun v => by cases ei <;> first | rfl | (simp [noSlice] at h2; done))) hs rfl).imp ?_
  rintro Z σ H ⟨F, c, M, h⟩
  simp only [xst] at h
  obtain ⟨y, c1, e1, h⟩ := ask_res h
  obtain ⟨d, c2, e2, h⟩ := ask_res h
  split at h
  · exact h.elim
  rename_i xc hxc
  obtain ⟨rk, c3, e3, h⟩ := ask_res h
  refine ⟨F, c, [], [], y, c1, by simpa using M, M.len, e1, fun v H1 F1 M1 l1 s1 => ?_⟩
  obtain ⟨F2, x2, le2, M2, q2, l2⟩ := esc_sound (A := []) (B := []) (α := []) (β := []) (by simpa using M1) l1 rfl s1 e2
  cases hw : writable c3 x with
  | none => rw [hw] at h; exact h.elim
  | some p =>
    obtain ⟨st, l⟩ := p
    cases hk : (rk.rd c3).bind toInt with
    | none => rw [hw, hk] at h; exact h.elim
    | some kk =>
      rw [hw, hk] at h
      simp only at h
      cases hj : ixN l.length kk with
      | none => rw [hj] at h; exact h.elim
      | some j =>
        rw [hj] at h
        simp only at h
        obtain ⟨dk, r1, r2⟩ := obind_some hk
        have ek := toInt_eq r2
        subst ek
        obtain ⟨w1, w2⟩ := writable_some hw
        -- the list's slot holds a value now
        have hx3 := cell_lt w1
        have M2' : Mt P F2 (c2 ++ [some ⟨.fz, d⟩]) (σ ++ [some v]) H1 := by
          have M0 : Mt P F2 (c2 ++ [x2]) (σ ++ [some v]) H1 := by simpa using M2
          exact (M0.take (by omega)).pushF q2
        obtain ⟨ov, hov⟩ : ∃ ov, σ[x]? = some (some ov) := by
          obtain ⟨ov, h1, _⟩ := M2'.cell x xc (cell_left' hxc)
          rw [List.getElem?_append_left (by have := cell_lt hxc; omega)] at h1
          exact ⟨ov, h1⟩
        refine ⟨ov, hov, ?_⟩
        refine e_one hi G h3 (T := [some ⟨.fz, d⟩]) (τ := [some v]) M2' (by omega) e3 fun kv H3 F3 M3 l3 s3 _ => ?_
        have M4 := M3.take (by simp only [List.length_append, List.length_singleton]; omega)
        obtain ⟨dv, hdv, hcv⟩ := M4.cell c3.length ⟨.fz, d⟩ (by rw [show c3.length = c3.length + 0 from rfl, cell_right]; rfl)
        rw [l3, List.getElem?_append_right (Nat.le_refl _), Nat.sub_self] at hdv
        cases hdv
        have dq : Dq P.K F3 v d := hcv
        have M5 := M4.take l3
        obtain ⟨a, xs, ea, ha1, ha2, ht⟩ := M5.own w1 hov w2
        subst ea
        refine ⟨a, xs, kk, j, rfl, (s3 _ r1).int, ha2, by rw [ht.length]; exact hj, ?_⟩
        exact h _ _ F3 (M5.write w1 hov w2 (ht.set j dq))
/-- the slot's name, the list in it -/
theorem nm_var (G : Good Γ C P k X) {i : Nat} {x : Str} {p : Pos} (h : C.isVar i x = true) : PE X (.Name x p) (tVar i) := by
  unfold Ctx.isVar at h
  simp only [Bool.and_eq_true] at h
  obtain ⟨⟨⟨k1, k2⟩, k3⟩, k4⟩ := h
  exact pe_var (by rw [G.N]; exact of_decide_eq_true k1) (G.vis k2) (by simpa using k3) (by simpa using k4)
theorem s_app {x : Nat} {e : E} (he : Snd Γ e) {st : Stmt} (G : Good Γ C P k X) (h : chkS (.app x e) C st = true) : PS X st (tS P Γ (.app x e)) := by
  simp only [chkS] at h
  split at h
  case h_2 => cases h
  rename_i xn px nm p0 ee p1 pos
  simp only [Bool.and_eq_true] at h
  obtain ⟨⟨⟨⟨h1, h2⟩, h3⟩, h4⟩, h5⟩ := h
  have h2 := of_decide_eq_true h2
  subst h2
  refine (ps_expr (pe_bm PySem.F.plainAttrs_list PySem.F.slot_list_append PySem.F.type_list_append mt_append (nm_var G h1) (pa_cons (he.pe _ P _ _ _ G h5) pa_nil (star_of h3)) rfl (meth_cond (by rw [List.all_cons, h3]; rfl) (by simp)) h4 (star_of h3) (back_any rfl)) rfl).imp ?_
  rintro Z σ H ⟨F, c, M, h⟩
  simp only [xst] at h
  split at h
  · exact h.elim
  rename_i p0 hw0
  obtain ⟨st0, l0⟩ := p0
  obtain ⟨w01, w02⟩ := writable_some hw0
  obtain ⟨v, hv, hc⟩ := M.cell x _ w01
  obtain ⟨a, xs, ea, ha1, ha2, ht⟩ := M.own w01 hv w02
  subst ea
  obtain ⟨y, c1, e1, h⟩ := ask_res h
  obtain ⟨d, c2, e2, h⟩ := ask_res h
  cases hw : writable c2 x with
  | none => rw [hw] at h; exact h.elim
  | some p =>
    obtain ⟨st, l⟩ := p
    rw [hw] at h
    simp only at h
    split at h
    case isFalse => exact h.elim
    rename_i hz
    obtain ⟨w1, w2⟩ := writable_some hw
    refine ⟨_, hv, .inl ⟨rfl, _, .of ha2⟩, ?_⟩
    refine e_esc he G h5 (T := []) (τ := []) (by simpa using M) M.len e1 e2 fun w H' F' M' l' dq => ?_
    have M2 : Mt P F' c2 σ H' := by simpa using M'
    obtain ⟨a', xs', ea, hb1, hb2, ht'⟩ := M2.own w1 hv w2
    cases ea
    refine ⟨a, xs', w, rfl, rfl, hb2, by rw [ht'.length]; exact hz, ?_⟩
    exact h _ _ F' (M2.write w1 hv w2 (ht'.append (.cons dq .nil)))
theorem s_ext {x : Nat} {e : E} (he : Snd Γ e) {st : Stmt} (G : Good Γ C P k X) (h : chkS (.ext x e) C st = true) : PS X st (tS P Γ (.ext x e)) := by
  simp only [chkS] at h
  split at h
  case h_2 => cases h
  rename_i xn px nm p0 ee p1 pos
  simp only [Bool.and_eq_true] at h
  obtain ⟨⟨⟨⟨h1, h2⟩, h3⟩, h4⟩, h5⟩ := h
  have h2 := of_decide_eq_true h2
  subst h2
  refine (ps_expr (pe_bm PySem.F.plainAttrs_list PySem.F.slot_list_extend PySem.F.type_list_extend mt_extend (nm_var G h1) (pa_cons (he.pe _ P _ _ _ G h5) pa_nil (star_of h3)) rfl (meth_cond (by rw [List.all_cons, h3]; rfl) (by simp)) h4 (star_of h3) (back_any rfl)) rfl).imp ?_
  rintro Z σ H ⟨F, c, M, h⟩
  simp only [xst] at h
  split at h
  · exact h.elim
  rename_i p0 hw0
  obtain ⟨st0, l0⟩ := p0
  obtain ⟨w01, w02⟩ := writable_some hw0
  obtain ⟨v, hv, hc⟩ := M.cell x _ w01
  obtain ⟨a, xs, ea, ha1, ha2, ht⟩ := M.own w01 hv w02
  subst ea
  obtain ⟨y, c1, e1, h⟩ := ask_res h
  split at h
  case h_2 => exact h.elim
  rename_i m
  cases hw : writable c1 x with
  | none => rw [hw] at h; exact h.elim
  | some p =>
    obtain ⟨st, l⟩ := p
    rw [hw] at h
    simp only at h
    split at h
    case isFalse => exact h.elim
    rename_i hz
    obtain ⟨w1, w2⟩ := writable_some hw
    refine ⟨_, hv, .inl ⟨rfl, _, .of ha2⟩, ?_⟩
    refine e_one he G h5 (T := []) (τ := []) (by simpa using M) M.len e1 fun w H' F' M' l' s _ => ?_
    have M1 : Mt P F' (c1 ++ [some ⟨.own, .lst m⟩]) (σ ++ [some w]) H' := by
      have M0 := M'
      rw [List.append_nil, List.append_nil] at M0
      exact M0
    obtain ⟨wa, ws, ew, hw1, hw2, hwt⟩ := M1.own (i := c1.length) (x := ⟨.own, .lst m⟩) (v := w) (by rw [show c1.length = c1.length + 0 from rfl, cell_right]; rfl) (by rw [l', List.getElem?_append_right (Nat.le_refl _), Nat.sub_self]; rfl) rfl
    have M2 := M1.take l'
    obtain ⟨a', xs', ea, hb1, hb2, ht'⟩ := M2.own w1 hv w2
    cases ea
    subst ew
    refine ⟨a, wa, xs', ws, rfl, rfl, hb2, hw2, by rw [ht'.length, hwt.length]; exact hz, ?_⟩
    exact h _ _ F' (M2.write w1 hv w2 (ht'.append hwt))

/-! ### return, if, loops -/
theorem s_ret {e : E} (he : Snd Γ e) {st : Stmt} (G : Good Γ C P k X) (h : chkS (.ret e) C st = true) : PS X st (tS P Γ (.ret e)) := by
  simp only [chkS] at h
  split at h
  case h_2 => cases h
  refine (ps_ret (he.pe _ P _ _ _ G h)).imp ?_
  rintro Z σ H ⟨F, c, M, h'⟩
  simp only [xst] at h'
  obtain ⟨x, c1, e1, h'⟩ := ask_res h'
  obtain ⟨p, c2, e2, h'⟩ := ask_res h'
  refine ⟨F, c, [], [], x, c1, by simpa using M, M.len, e1, fun v H1 F1 M1 l1 s1 => ?_⟩
  have M2 : Mt P F1 (c1 ++ [tcB x]) (σ ++ [some v]) H1 := by simpa using M1
  obtain ⟨fr, d⟩ := p
  cases x with
  | dt x => cases e2; exact h' v σ H1 F1 M2 l1
  | fr x => cases e2; exact h' v σ H1 F1 M2 l1
  | slot i =>
    unfold BV.giveBack at e2
    simp only at e2
    split at e2
    · rename_i d' hc
      cases e2
      have hv := s1 i rfl
      have hi := cell_lt hc
      -- the slot's list becomes the value
      have M3 := M2.take l1
      refine h' v (σ.set i none) H1 F1 ?_ (by rw [List.length_set, List.length_set]; exact l1)
      refine M3.reindex (fun j => if j = c1.length then i else j) (by simp only [List.length_append, List.length_set, List.length_singleton]; omega) (fun j y hy => ?_) fun j kk y z hy hz e => ?_
      · by_cases hj : j < c1.length
        · rw [cell_left (by rw [List.length_set]; exact hj)] at hy
          have hne : j ≠ i := fun z => by
            subst z
            rw [cell_set_self hj] at hy
            cases hy
          rw [cell_set_ne hne] at hy
          rw [if_neg (by omega)]
          exact ⟨hy, by rw [List.getElem?_append_left (by rw [List.length_set]; omega), List.getElem?_set_ne (Ne.symm hne)]⟩
        · have hb := cell_lt hy
          simp only [List.length_append, List.length_set, List.length_singleton] at hb
          have ej : j = c1.length := by omega
          subst ej
          rw [if_pos rfl]
          have e0 : Env.cell (c1.set i none ++ [some (tmpCell (true, d))]) c1.length = some ⟨.own, d⟩ := by
            have := cell_right (c := c1.set i none) (T := [some (tmpCell (true, d))]) (i := 0)
            rw [List.length_set] at this
            rw [show c1.length = c1.length + 0 from rfl, this]; rfl
          rw [e0] at hy
          cases hy
          refine ⟨hc, ?_⟩
          rw [List.getElem?_append_right (by rw [List.length_set]; omega), List.length_set, l1, Nat.sub_self, hv]; rfl
      · have hnot : ∀ j y, Env.cell (c1.set i none ++ [some (tmpCell (true, d))]) j = some y → j ≠ c1.length → j ≠ i := fun j y hy hj z => by
          subst z
          rw [cell_left (by rw [List.length_set]; exact hi), cell_set_self hi] at hy
          cases hy
        by_cases h1 : j = c1.length
        · by_cases h2 : kk = c1.length
          · omega
          · rw [if_pos h1, if_neg h2] at e
            exact absurd e.symm (hnot kk z hz h2)
        · by_cases h2 : kk = c1.length
          · rw [if_neg h1, if_pos h2] at e
            exact absurd e (hnot j y hy h1)
          · rw [if_neg h1, if_neg h2] at e
            exact e
    · cases e2
theorem s_if {t : E} {a b : S} (ht : Snd Γ t) (ha : SndS Γ a) (hb : SndS Γ b) {st : Stmt} (G : Good Γ C P k X) (h : chkS (.ifS t a b) C st = true) : PS X st (tS P Γ (.ifS t a b)) := by
  simp only [chkS] at h
  split at h
  case h_2 => cases h
  simp only [Bool.and_eq_true] at h
  obtain ⟨⟨h1, h2⟩, h3⟩ := h
  refine (ps_if (ht.pt _ P _ _ _ G h1) (ha.pss _ P _ _ _ G h2) (hb.pss _ P _ _ _ G h3)).imp ?_
  rintro Z σ H ⟨F, c, M, h'⟩
  simp only [xst] at h'
  obtain ⟨x, c1, e1, h'⟩ := ask_res h'
  cases hr : (x.rd c1).bind toBl with
  | none => rw [hr] at h'; exact h'.elim
  | some kk =>
    rw [hr] at h'
    obtain ⟨d, r1, r2⟩ := obind_some hr
    have e := toBl_eq r2
    subst e
    refine ⟨F, c, [], [], x, c1, kk, by simpa using M, M.len, e1, r1, fun H' F' M' l' => ?_⟩
    have M2 : Mt P F' c1 σ H' := by simpa using M'
    cases kk with
    | true => exact ⟨F', c1, M2, h'⟩
    | false => exact ⟨F', c1, M2, h'⟩
theorem never_xe (G : Good Γ C P k X) : PassesOwn (model X.prog X.w) X.A X.env X.xe := by rw [G.xe]; exact PassesOwn.never
/-- an outcome at a later frozen part -/
theorem Ask.unbase {Z : Ends} {F1 H1 : Hp} {c1 : Env} {σ1 : L2.St} {o : Out} (M1 : Mt P F1 c1 σ1 H1) (h : Ask P Z o) : Ask { P with F0 := F1 } Z o := by
  cases o with
  | nx c => exact fun σ' H' F' M => h σ' H' F' (M.unbase M1)
  | bk c => exact fun σ' H' F' M => h σ' H' F' (M.unbase M1)
  | ct c => exact fun σ' H' F' M => h σ' H' F' (M.unbase M1)
  | rt fr d c => exact fun v σ' H' F' M l => h v σ' H' F' (M.unbase M1) l
  | ex x c => exact h
  | no => exact h
theorem s_for {tg : Tg} {it : E} {body : S} (hi : Snd Γ it) (hb : SndS Γ body) {st : Stmt} (G : Good Γ C P k X) (h : chkS (.forS tg it body) C st = true) : PS X st (tS P Γ (.forS tg it body)) := by
  simp only [chkS] at h
  split at h
  case h_2 => cases h
  simp only [Bool.and_eq_true] at h
  obtain ⟨⟨⟨h1, h2⟩, h3⟩, h4⟩ := h
  refine (ps_for (never_xe G) G.calm (hi.pi _ P _ _ _ _ G h2) (PG.ex (t := fun p : { p : Par // p.K = X.K } => gT p.1 tg) fun p => (g_all (G.par (p.2.trans G.kp.symm)) tg).1 _ h3)
    (PSs.ex (t := fun p : { p : Par // p.K = X.K } => tS p.1 Γ body) fun p => hb.pss _ p.1 _ _ _ (G.par (p.2.trans G.kp.symm)) h4) (folded_of h1)).imp ?_
  rintro Z σ H ⟨F, c, M, h'⟩
  simp only [xst] at h'
  obtain ⟨xs, c1, e1, h'⟩ := ask_res h'
  refine ⟨F, c, [], [], xs, c1, by simpa using M, M.len, e1, fun J H1 F1 M1 l1 sup => ?_⟩
  have M1 : Mt P F1 c1 σ H1 := by simpa using M1
  have hP : ({ P with F0 := F1 } : Par).K = X.K := G.kp
  have h' := h'.unbase M1
  generalize hf : (fun x c => match assign tg x c with | none => Out.no | some c => xst Γ body c) = f at h'
  refine ⟨fun i m σ' H' => m = xs.length - i ∧ i ≤ xs.length ∧ ∃ F' ci, Mt { P with F0 := F1 } F' ci σ' H' ∧ Ask { P with F0 := F1 } Z (forGo f (xs.drop i) ci), ⟨xs.length, rfl, Nat.zero_le _, F1, c1, M1.rebase, h'⟩, ?_⟩
  rintro i m σ' H' ⟨rfl, hi', F', ci, M2, q⟩
  have le' : Le F1 F' := M2.old
  by_cases hlt : i < xs.length
  · refine .inr ⟨sup.go i F' H' hlt le' M2.le, fun σ'' H'' => ∃ m', m' < xs.length - i ∧ m' = xs.length - (i + 1) ∧ i + 1 ≤ xs.length ∧ ∃ F' ci, Mt { P with F0 := F1 } F' ci σ'' H'' ∧ Ask { P with F0 := F1 } Z (forGo f (xs.drop (i + 1)) ci), fun _ _ z => z, fun v H'' y => ?_⟩
    obtain ⟨d, hd, nw⟩ := sup.yld i F' H' v H'' hlt le' M2.le y
    obtain ⟨F3, le3, M3⟩ := M2.new nw
    have dq : Dq ({ P with F0 := F1 } : Par).K F3 v d := M3.lastF M2.len
    have M4 := M3.take M2.len
    have edrop : xs.drop i = d :: xs.drop (i + 1) := by
      rw [List.drop_eq_getElem_cons hlt]
      congr 1
      rw [List.getElem?_eq_getElem hlt] at hd
      exact Option.some.inj hd
    rw [edrop] at q
    simp only [forGo] at q
    cases ha : assign tg d ci with
    | none =>
      have ef : f d ci = .no := by rw [← hf]; simp only [ha]
      rw [ef] at q
      exact q.elim
    | some c4 =>
      have ef : f d ci = xst Γ body c4 := by rw [← hf]; simp only [ha]
      rw [ef] at q
      refine ⟨⟨_, hP⟩, F3, ci, [], [], d, c4, by simpa using M4, M4.len, dq, ha, fun σ2 M5 l5 l6 _ => ?_⟩
      refine ⟨⟨_, hP⟩, F3, c4, by simpa using M5, ?_⟩
      cases ho : xst Γ body c4 with
      | nx c5 =>
        rw [ho] at q
        exact fun σ3 H3 F4 M6 => ⟨_, by omega, rfl, hlt, F4, c5, M6, q⟩
      | ct c5 =>
        rw [ho] at q
        exact fun σ3 H3 F4 M6 => ⟨_, by omega, rfl, hlt, F4, c5, M6, q⟩
      | bk c5 =>
        rw [ho] at q
        exact q
      | rt fr dd c5 =>
        rw [ho] at q
        exact q
      | ex x c5 => rw [ho] at q; exact q.elim
      | no => rw [ho] at q; exact q.elim
  · have ei : i = xs.length := by omega
    subst ei
    refine .inl ⟨sup.stop F' H' le' M2.le, ?_⟩
    rw [List.drop_length] at q
    exact q σ' H' F' M2
theorem s_whl {t : E} {body : S} (ht : Snd Γ t) (hb : SndS Γ body) {st : Stmt} (G : Good Γ C P k X) (h : chkS (.whl t body) C st = true) : PS X st (tS P Γ (.whl t body)) := by
  simp only [chkS] at h
  split at h
  case h_2 => cases h
  simp only [Bool.and_eq_true] at h
  obtain ⟨h1, h2⟩ := h
  refine (ps_while (never_xe G) (ht.pt _ P _ _ _ G h1) (hb.pss _ P _ _ _ G h2)).imp ?_
  rintro Z σ H ⟨F, c, M, h'⟩
  simp only [xst] at h'
  generalize hT : (fun c => (ev Γ t c).bind fun x c => Res.opt ((x.rd c).bind toBl) c) = tt at h'
  generalize hB : (fun c => xst Γ body c) = ff at h'
  have hno : whL tt ff c ≠ .no := fun e => by rw [e] at h'; exact h'
  obtain ⟨n, hn⟩ := whL_some rfl hno
  generalize whL tt ff c = o at h' hn
  refine ⟨fun m σ' H' => ∃ F' ci, Mt P F' ci σ' H' ∧ whGo tt ff m ci = some o, ⟨n, F, c, M, hn⟩, ?_⟩
  rintro m σ' H' ⟨F', ci, M2, q⟩
  cases m with
  | zero => cases q
  | succ m =>
    rw [whGo] at q
    cases hr : tt ci with
    | no => rw [hr] at q; cases q; exact h'.elim
    | ex x c2 => rw [hr] at q; cases q; exact h'.elim
    | ok b c2 =>
      rw [hr] at q
      have hr' : ((ev Γ t ci).bind fun x c => Res.opt ((x.rd c).bind toBl) c) = .ok b c2 := by rw [← hr, ← hT]
      obtain ⟨x, c3, e1, e2⟩ := bind_ok hr'
      obtain ⟨e2, w⟩ := opt_ok e2
      subst w
      obtain ⟨d, r1, r2⟩ := obind_some e2
      have e := toBl_eq r2
      subst e
      refine ⟨F', ci, [], [], x, c2, b, by simpa using M2, M2.len, e1, r1, fun H3 F3 M3 l3 => ?_⟩
      have M3 : Mt P F3 c2 σ' H3 := by simpa using M3
      cases b with
      | false =>
        cases q
        exact h' σ' H3 F3 M3
      | true =>
        simp only at q
        refine L2.iteT ⟨fun σ4 H4 => ∃ m', m' < m + 1 ∧ ∃ F' ci, Mt P F' ci σ4 H4 ∧ whGo tt ff m' ci = some o, fun _ _ z => z, F3, c2, M3, ?_⟩
        have ef : ff c2 = xst Γ body c2 := by rw [← hB]
        rw [ef] at q
        cases ho : xst Γ body c2 with
        | nx c5 =>
          rw [ho] at q
          exact fun σ3 H3 F4 M6 => ⟨m, by omega, F4, c5, M6, q⟩
        | ct c5 =>
          rw [ho] at q
          exact fun σ3 H3 F4 M6 => ⟨m, by omega, F4, c5, M6, q⟩
        | bk c5 =>
          rw [ho] at q
          cases q
          exact h'
        | rt fr dd c5 =>
          rw [ho] at q
          cases q
          exact h'
        | ex x c5 => rw [ho] at q; cases q; exact h'.elim
        | no => rw [ho] at q; cases q; exact h'.elim
end
end T

set_option Elab.async false
set_option linter.all false
set_option maxRecDepth 100000
set_option maxHeartbeats 1000000
/-! The evaluator is right: defs, a whole program. -/
namespace T
open PySem PySem.Spec PyProof.Rows L2
section
variable {Γ : Nat → Option Fn} {C : Ctx} {P : Par} {k : Nat} {X : Cx}
theorem ss_simple {s : S} {t : TS} {st : Stmt} (h : PS X st t) (i : ∀ Z σ H, tS P Γ s Z σ H → t Z σ H) : PS X st (tS P Γ s) := h.imp i
theorem sndS_all (Γ : Nat → Option Fn) : ∀ s : S, SndS Γ s := by
  intro s
  induction s with
  | pass =>
    refine ⟨fun C P k X st G h => ?_, fun C P k X sts G h => by simp [chkB] at h⟩
    simp only [chkS] at h
    split at h
    · refine ps_pass.imp ?_
      rintro Z σ H ⟨F, c, M, h'⟩
      simp only [xst] at h'
      exact h' σ H F M
    · cases h
  | brk =>
    refine ⟨fun C P k X st G h => ?_, fun C P k X sts G h => by simp [chkB] at h⟩
    simp only [chkS] at h
    split at h
    · refine ps_break.imp ?_
      rintro Z σ H ⟨F, c, M, h'⟩
      simp only [xst] at h'
      exact h' σ H F M
    · cases h
  | cont =>
    refine ⟨fun C P k X st G h => ?_, fun C P k X sts G h => by simp [chkB] at h⟩
    simp only [chkS] at h
    split at h
    · refine ps_continue.imp ?_
      rintro Z σ H ⟨F, c, M, h'⟩
      simp only [xst] at h'
      exact h' σ H F M
    · cases h
  | asg i e => exact ⟨fun C P k X st G h => s_asg (snd_all Γ e).1 G h fun own elt tg it cond _ => ⟨(snd_all Γ elt).1, (snd_all Γ it).1, (snd_all Γ cond).1⟩, fun C P k X sts G h => by simp [chkB] at h⟩
  | par is es => exact ⟨fun C P k X st G h => s_par (snd_all Γ es).1 G h, fun C P k X sts G h => by simp [chkB] at h⟩
  | unp tg e => exact ⟨fun C P k X st G h => s_unp (snd_all Γ e).1 G h, fun C P k X sts G h => by simp [chkB] at h⟩
  | drop e => exact ⟨fun C P k X st G h => s_drop (snd_all Γ e).1 G h, fun C P k X sts G h => by simp [chkB] at h⟩
  | aug i op e => exact ⟨fun C P k X st G h => s_aug (snd_all Γ e).1 G h, fun C P k X sts G h => by simp [chkB] at h⟩
  | setI x i e => exact ⟨fun C P k X st G h => s_setI (snd_all Γ i).1 (snd_all Γ e).1 G h, fun C P k X sts G h => by simp [chkB] at h⟩
  | augI x i op e => exact ⟨fun C P k X st G h => by simp [chkS] at h, fun C P k X sts G h => by simp [chkB] at h⟩
  | app x e => exact ⟨fun C P k X st G h => s_app (snd_all Γ e).1 G h, fun C P k X sts G h => by simp [chkB] at h⟩
  | ext x e => exact ⟨fun C P k X st G h => s_ext (snd_all Γ e).1 G h, fun C P k X sts G h => by simp [chkB] at h⟩
  | ret e => exact ⟨fun C P k X st G h => s_ret (snd_all Γ e).1 G h, fun C P k X sts G h => by simp [chkB] at h⟩
  | retN =>
    refine ⟨fun C P k X st G h => ?_, fun C P k X sts G h => by simp [chkB] at h⟩
    simp only [chkS] at h
    split at h
    · refine ps_retN.imp ?_
      rintro Z σ H ⟨F, c, M, h'⟩
      simp only [xst] at h'
      exact h' .non σ H F (M.pushF .non) M.len
    · cases h
  | ifS t a b ha hb => exact ⟨fun C P k X st G h => s_if (snd_all Γ t).1 ha hb G h, fun C P k X sts G h => by simp [chkB] at h⟩
  | forS tg it body hb => exact ⟨fun C P k X st G h => s_for (snd_all Γ it).1 hb G h, fun C P k X sts G h => by simp [chkB] at h⟩
  | whl t body hb => exact ⟨fun C P k X st G h => s_whl (snd_all Γ t).1 hb G h, fun C P k X sts G h => by simp [chkB] at h⟩
  | fga l s hs =>
    refine ⟨fun C P k X st G h => (hs.ps _ P _ _ _ G (by simpa only [chkS] using h)).imp ?_, fun C P k X sts G h => by simp [chkB] at h⟩
    rintro Z σ H ⟨F, c, M, h'⟩
    refine ⟨F, c, M, ?_⟩
    simp only [xst] at h'
    cases ho : xst Γ s c with
    | nx c => rw [ho] at h'; exact fun σ' H' F' M' => h' σ' H' F' (M'.forget l)
    | ct c => rw [ho] at h'; exact fun σ' H' F' M' => h' σ' H' F' (M'.forget l)
    | bk c => rw [ho] at h'; exact h'
    | rt fr d c => rw [ho] at h'; exact h'
    | ex x c => rw [ho] at h'; exact h'
    | no => rw [ho] at h'; exact h'
  | never =>
    refine ⟨fun C P k X st G h => ps_never.imp ?_, fun C P k X sts G h => pss_never.imp ?_⟩
    all_goals
      rintro Z σ H ⟨F, c, M, h'⟩
      simp only [xst] at h'
      exact h'
  | nil =>
    refine ⟨fun C P k X st G h => by simp [chkS] at h, fun C P k X sts G h => ?_⟩
    simp only [chkB] at h
    split at h
    · refine pss_nil.imp ?_
      rintro Z σ H ⟨F, c, M, h'⟩
      simp only [xst] at h'
      exact h' σ H F M
    · cases h
  | cons a b ha hb =>
    refine ⟨fun C P k X st G h => by simp [chkS] at h, fun C P k X sts G h => ?_⟩
    simp only [chkB] at h
    split at h
    · obtain ⟨h1, h2⟩ := bool_split h
      refine (pss_cons (ha.ps _ P _ _ _ G h1) (hb.pss _ P _ _ _ G h2)).imp ?_
      rintro Z σ H ⟨F, c, M, h'⟩
      simp only [xst] at h'
      refine ⟨F, c, M, ?_⟩
      cases ho : xst Γ a c with
      | nx c1 =>
        rw [ho] at h'
        exact fun σ' H' F' M' => ⟨F', c1, M', h'⟩
      | bk c1 => rw [ho] at h'; exact h'
      | ct c1 => rw [ho] at h'; exact h'
      | rt fr d c1 => rw [ho] at h'; exact h'
      | ex x c1 => rw [ho] at h'; exact h'
      | no => rw [ho] at h'; exact h'
    · cases h
end

/-! ### a def -/
theorem initE_length : ∀ (io : Option Nat) (ds : List D), (initE io ds).length = ds.length
  | none, [] => rfl
  | some _, [] => rfl
  | none, d :: ds => by rw [initE, List.length_cons, List.length_cons, initE_length]
  | some 0, d :: ds => by rw [initE, List.length_cons, List.length_cons, initE_length]
  | some (n + 1), d :: ds => by rw [initE, List.length_cons, List.length_cons, initE_length]
/-- the slots at the entry: what stands in each -/
theorem initE_cell {K : PySem.W.Frag} {G H : Hp} : ∀ {io : Option Nat} {vs : List V} {ds : List D} {i : Nat} {x : Cell}, ArgsOk K G H io vs ds → Env.cell (initE io ds) i = some x →
    ∃ v, vs[i]? = some v ∧ ((x.st = .fz ∧ io ≠ some i ∧ Dq K G v x.d) ∨ (x.st = .bor ∧ io = some i ∧ OwnOk K G H v x.d))
  | none, [], [], i, x, _, h => by simp [initE, Env.cell] at h
  | some _, [], [], i, x, _, h => by simp [initE, Env.cell] at h
  | none, v :: vs, d :: ds, 0, x, a, h => by
    simp [initE, Env.cell] at h
    subst h
    exact ⟨v, rfl, .inl ⟨rfl, (fun z => by cases z), a.1⟩⟩
  | none, v :: vs, d :: ds, i + 1, x, a, h => by
    obtain ⟨w, h1, h2⟩ := initE_cell (i := i) a.2 (by simpa [initE, Env.cell] using h)
    refine ⟨w, by simpa using h1, ?_⟩
    rcases h2 with ⟨q1, q2, q3⟩ | ⟨q1, q2, q3⟩
    · exact .inl ⟨q1, (fun z => by cases z), q3⟩
    · cases q2
  | some 0, v :: vs, d :: ds, 0, x, a, h => by
    simp [initE, Env.cell] at h
    subst h
    exact ⟨v, rfl, .inr ⟨rfl, rfl, a.1⟩⟩
  | some 0, v :: vs, d :: ds, i + 1, x, a, h => by
    obtain ⟨w, h1, h2⟩ := initE_cell (i := i) a.2 (by simpa [initE, Env.cell] using h)
    refine ⟨w, by simpa using h1, ?_⟩
    rcases h2 with ⟨q1, q2, q3⟩ | ⟨q1, q2, q3⟩
    · exact .inl ⟨q1, (fun z => by cases z), q3⟩
    · cases q2
  | some (n + 1), v :: vs, d :: ds, 0, x, a, h => by
    simp [initE, Env.cell] at h
    subst h
    exact ⟨v, rfl, .inl ⟨rfl, (fun z => by cases z), a.1⟩⟩
  | some (n + 1), v :: vs, d :: ds, i + 1, x, a, h => by
    obtain ⟨w, h1, h2⟩ := initE_cell (i := i) a.2 (by simpa [initE, Env.cell] using h)
    refine ⟨w, by simpa using h1, ?_⟩
    rcases h2 with ⟨q1, q2, q3⟩ | ⟨q1, q2, q3⟩
    · exact .inl ⟨q1, (fun z => q2 (by cases z; rfl)), q3⟩
    · exact .inr ⟨q1, by cases q2; rfl, q3⟩
theorem argsOk_io {K : PySem.W.Frag} {G H : Hp} : ∀ {n : Nat} {vs : List V} {ds : List D}, ArgsOk K G H (some n) vs ds → n < vs.length → ∃ v d, vs[n]? = some v ∧ OwnOk K G H v d
  | 0, v :: vs, d :: ds, a, _ => ⟨v, d, rfl, a.1⟩
  | n + 1, v :: vs, d :: ds, a, h => by
    obtain ⟨w, e, h1, h2⟩ := argsOk_io (n := n) a.2 (Nat.lt_of_succ_lt_succ h)
    exact ⟨w, e, by simpa using h1, h2⟩
  | _, [], _, _, h => absurd h (by simp)
  | 0, _ :: _, [], a, _ => a.elim
  | _ + 1, _ :: _, [], a, _ => a.elim
/-- the names' table of a program: all that a def's text is held against -/
structure Tab where
  nm : Nat → Str
  kw : Nat → List (Nat × List Str × List Nat)
  gls : List (Str × D)
  bls : List Str
structure TabOk (Γ : Nat → Option Fn) (Tb : Tab) (P : Program) (w : World) (K : PySem.W.Frag) (mg : Str → Option Value) (base : Heap) (k : Nat) : Prop where
  defs : ∀ i f, Γ i = some f → DefOk P w K mg base k (Tb.nm i) (Tb.kw i) f
  gl : ∀ x d, (x, d) ∈ Tb.gls → ∃ u v, mg x = some u ∧ RelV v u ∧ ∀ F, Dq K F v d
  bl : ∀ x, x ∈ Tb.bls → mg x = none
def ctxOf (Tb : Tab) (N : List Str) (sc : Scope) : Ctx := ⟨N, sc, fun _ => true, Tb.nm, Tb.kw, Tb.gls, Tb.bls⟩
theorem start_length {N : List Str} {vs : List V} (h : vs.length ≤ N.length) : (start N vs).length = N.length := by
  unfold L2.start
  rw [List.length_append, List.length_map, List.length_replicate]
  omega
theorem start_get {N : List Str} {vs : List V} {i : Nat} {v : V} (h : vs[i]? = some v) : (start N vs)[i]? = some (some v) := by
  unfold L2.start
  have hi : i < vs.length := (List.getElem?_eq_some_iff.mp h).1
  rw [List.getElem?_append_left (by rw [List.length_map]; exact hi), List.getElem?_map, h]; rfl
theorem fn_ok {Γ : Nat → Option Fn} {Tb : Tab} {P : Program} {w : World} {K : PySem.W.Frag} {mg : Str → Option Value} {base : Heap} {k : Nat} {x qual : Str} {st : Stmt} {f : Addr} {fd : FuncData} {N ps : List Str} {io : Option Nat} {body : S}
    (F : FunD K x qual (defArgs st) (defBody st) (defScope st) [] [] f fd) (T : TabOk Γ Tb P w K mg base k) (S : FnScope N ps (defScope st)) (hN : ps.length ≤ N.length) (hio : ∀ n, io = some n → n < ps.length) (h : chkB body (ctxOf Tb N (defScope st)) (defBody st) = true) :
    FnG P w K mg base CX0 (k + 1) f fd ps (SpF K (mkFn Γ ps.length N.length io body)) := by
  refine fnG_of F S (fun vs H Q E h => ?_) (fun cdv A outer s H vs Q E hr hsp => ?_)
  · obtain ⟨G, ds, fr, d, out, le, hl, _⟩ := h
    exact hl
  · obtain ⟨G, ds, fr, d, out, le, hl, args, hrun, post⟩ := hsp
    have hl : vs.length = ps.length := hl
    have args : ArgsOk K G H io vs ds := args
    have hld : ds.length = ps.length := by rw [← args.length]; exact hl
    have hrun : (if ds.length = ps.length then endE io (xst Γ body (initE io ds ++ List.replicate (N.length - ps.length) none)) else .no) = .ret fr d out := hrun
    rw [if_pos hld] at hrun
    let ioA : Option Addr := match io with
      | none => none
      | some n => match vs[n]? with
        | some (.ref a) => some a
        | _ => none
    have hioA : ∀ n, io = some n → ∃ a d, vs[n]? = some (V.ref a) ∧ OwnOk K G H (.ref a) d ∧ ioA = some a := fun n e => by
      subst e
      obtain ⟨v, d, h1, h2⟩ := argsOk_io args (by rw [hl]; exact hio n rfl)
      obtain ⟨a, o, ea, _, _⟩ := h2.ref
      subst ea
      exact ⟨a, d, h1, h2, by show (match vs[n]? with | some (.ref a) => some a | _ => none) = some a; rw [h1]⟩
    have hioN : io = none → ioA = none := fun e => by subst e; rfl
    let Pp : Par := ⟨K, G, H, ioA⟩
    have ioAdr : ∀ a, ioA = some a → G a = none ∧ H a ≠ none := fun a e => by
      cases hh : io with
      | none => rw [hioN hh] at e; cases e
      | some n =>
        obtain ⟨b, d, h1, h2, h3⟩ := hioA n hh
        rw [h3] at e; cases e
        obtain ⟨b', o, z1, z2, z3⟩ := h2.ref
        cases z1
        exact ⟨z2, by rw [z3]; exact fun z => by cases z⟩
    have key : ∀ i x, Env.cell (initE io ds ++ List.replicate (N.length - ps.length) none) i = some x → Env.cell (initE io ds) i = some x := fun i x hx => by
      by_cases hi : i < (initE io ds).length
      · rw [cell_left hi] at hx; exact hx
      · unfold Env.cell at hx
        rw [List.getElem?_append_right (by omega), List.getElem?_replicate] at hx
        split at hx <;> cases hx
    have M : Mt Pp G (initE io ds ++ List.replicate (N.length - ps.length) none) (start N vs) H := by
      refine ⟨?_, le, Le.refl G, fun a o e => .inl e, fun a o e _ => e, ioAdr, fun a e => (ioAdr a e).2, fun i x hx => ?_, fun i j x y v hx hy m1 m2 h3 h4 => ?_⟩
      · rw [List.length_append, initE_length, List.length_replicate, start_length (by omega)]
        omega
      · obtain ⟨v, h1, h2⟩ := initE_cell args (key i x hx)
        refine ⟨v, start_get h1, ?_⟩
        obtain ⟨stt, dd⟩ := x
        rcases h2 with ⟨q1, q2, q3⟩ | ⟨q1, q2, q3⟩
        · cases q1; exact q3
        · cases q1
          refine ⟨q3, fun a e => ?_⟩
          obtain ⟨b, d', z1, z2, z3⟩ := hioA i q2
          rw [h1] at z1; cases z1
          cases e
          exact z3
      · obtain ⟨v1, a1, a2⟩ := initE_cell args (key i x hx)
        obtain ⟨v2, b1, b2⟩ := initE_cell args (key j y hy)
        rcases a2 with ⟨q1, _, _⟩ | ⟨_, q2, _⟩
        · rw [q1] at m1; exact (Bool.false_ne_true m1).elim
        · rcases b2 with ⟨q1, _, _⟩ | ⟨_, q3, _⟩
          · rw [q1] at m2; exact (Bool.false_ne_true m2).elim
          · rw [q2] at q3; cases q3; rfl
    have GG : Good Γ (ctxOf Tb N (defScope st)) Pp k (cxOf CX0 P w K mg base N qual (defScope st) f cdv A outer s H E).nox :=
      ⟨rfl, rfl, rfl, S.nd, rfl, fun _ _ => rfl, hr, rfl, T.defs, T.gl, T.bl⟩
    refine ⟨tS Pp Γ body, PSs.nox ((sndS_all Γ body).pss _ Pp _ _ _ GG h), G, _, M, ?_⟩
    -- the end
    have outOk : ∀ (c : Env) (σ' : L2.St) (F' H' : Hp) (g : D → FRes), Mt Pp F' c σ' H' → outE io c g = .ret fr d out → (∀ o, g o = .ret fr d out → o = out) → ∀ n u, io = some n → vs[n]? = some u → OwnOk K F' H' u out := fun c σ' F' H' g M' ho hg n u hn hu => by
      subst hn
      unfold outE at ho
      simp only at ho
      split at ho
      · rename_i dd hc
        have e := hg dd ho
        subst e
        obtain ⟨v, h1, h2⟩ := M'.cell n ⟨.bor, dd⟩ hc
        have h2 : OwnOk K F' H' v dd ∧ ∀ a, v = .ref a → ioA = some a := h2
        obtain ⟨a, o, ea, _, _⟩ := h2.1.ref
        obtain ⟨b, d', z1, z2, z3⟩ := hioA n rfl
        rw [hu] at z1; cases z1
        have := h2.2 a ea
        rw [z3] at this; cases this
        subst ea
        exact h2.1
      · cases ho
    have fin : ∀ (c : Env) (σ' : L2.St) (F' H' : Hp) (v : V) (g : D → FRes), Mt Pp F' c σ' H' → outE io c g = .ret fr d out → (∀ o, g o = .ret fr d out → o = out) → ResOk K F' H H' fr v d → Q v H' := fun c σ' F' H' v g M' ho hg hres => by
      refine post v H' F' ⟨M'.old, M'.le, fun b o e hb => M'.fr b o e fun z => ?_, fun b o e => M'.gr b o e, fun n u hn hu => outOk c σ' F' H' g M' ho hg n u hn hu, hres⟩
      have z : ioA = some b := z
      cases hh : io with
      | none => rw [hioN hh] at z; cases z
      | some n =>
        obtain ⟨a, d', z1, z2, z3⟩ := hioA n hh
        rw [z3] at z; cases z
        exact hb n hh z1
    cases ho : xst Γ body (initE io ds ++ List.replicate (N.length - ps.length) none) with
    | nx c =>
      rw [ho] at hrun
      intro σ' H' F' M'
      have hrun : outE io c (fun o => .ret false .non o) = .ret fr d out := hrun
      have hfr : fr = false ∧ d = .non := by
        unfold outE at hrun
        split at hrun
        · cases hrun; exact ⟨rfl, rfl⟩
        · split at hrun
          · cases hrun; exact ⟨rfl, rfl⟩
          · cases hrun
      refine fin c σ' F' H' .non _ M' hrun (fun o e => by cases e; rfl) ?_
      rw [hfr.1, hfr.2]
      exact .non
    | rt fr' d' c =>
      rw [ho] at hrun
      intro v σ' H' F' M' lc
      have hrun : outE io c (fun o => .ret fr' d' o) = .ret fr d out := hrun
      have hfr : fr' = fr ∧ d' = d := by
        unfold outE at hrun
        split at hrun
        · cases hrun; exact ⟨rfl, rfl⟩
        · split at hrun
          · cases hrun; exact ⟨rfl, rfl⟩
          · cases hrun
      obtain ⟨e1, e2⟩ := hfr
      subst e1 e2
      refine fin c σ' F' H' v _ (M'.take lc) hrun (fun o e => by cases e; rfl) ?_
      obtain ⟨v', h1, h2⟩ := M'.cell c.length (tmpCell (fr', d')) (by rw [show c.length = c.length + 0 from rfl, cell_right]; rfl)
      rw [lc, List.getElem?_append_right (Nat.le_refl _), Nat.sub_self] at h1
      cases h1
      unfold ResOk
      cases fr' with
      | false => exact h2
      | true => exact h2
    | bk c => rw [ho] at hrun; cases hrun
    | ct c => rw [ho] at hrun; cases hrun
    | ex x c =>
      rw [ho] at hrun
      have hrun : outE io c (fun o => .ex x o) = .ret fr d out := hrun
      unfold outE at hrun
      split at hrun
      · cases hrun
      · split at hrun <;> cases hrun
    | no => rw [ho] at hrun; cases hrun
end T

set_option Elab.async false
set_option linter.all false
set_option maxRecDepth 100000
set_option maxHeartbeats 1000000
/-! Whole programs: a table of defs, the law's end. -/
namespace T
open PySem PySem.Spec PyProof.Rows L2

structure Df where
  nm : Str
  st : Stmt
  N : List Str
  ps : List Str
  io : Option Nat
  code : S
  kw : List (Nat × List Str × List Nat) := []
def Df.d (d : Df) : He.DefD := ⟨(d.nm, none), d.nm, d.nm, defArgs d.st, defBody d.st, defScope d.st, [], []⟩
/-- the defs, the last first -/
noncomputable def gam : List Df → Nat → Option Fn
  | [] => fun _ => none
  | d :: ds => fun i => if i = ds.length then some (mkFn (gam ds) d.ps.length d.N.length d.io d.code) else gam ds i
def nmOf : List Df → Nat → Str
  | [], _ => Str.empty
  | d :: ds, i => if i = ds.length then d.nm else nmOf ds i
def kwOf : List Df → Nat → List (Nat × List Str × List Nat)
  | [], _ => []
  | d :: ds, i => if i = ds.length then d.kw else kwOf ds i
def tabOf (ds : List Df) (cns : List (Str × Int)) (stn : List (Str × Str)) (bls : List Str) : Tab := ⟨nmOf ds, kwOf ds, (cns.map fun p => (p.1, .int p.2)) ++ (stn.map fun p => (p.1, .str p.2)), bls⟩
def faOf (ds : List Df) (cns : List (Str × Int)) (stn : List (Str × Str)) (bls : List Str) : List He.Fa := ds.map (fun d => .glo d.nm) ++ (cns.map (fun p => .int p.1 p.2) ++ (bls.map .free ++ stn.map (fun p => .str p.1 p.2)))
structure Df.Ok (d : Df) (T : Tab) : Prop where
  sc : FnScope d.N d.ps (defScope d.st)
  len : d.ps.length ≤ d.N.length
  io : ∀ n, d.io = some n → n < d.ps.length
  ck : chkB d.code (ctxOf T d.N (defScope d.st)) (defBody d.st) = true
  bn : ∀ (kV doc pm : Value) (an : Option Addr) (cdv ct : Value) (us : List Value), us.length = d.ps.length → bindArgs (PySem.W.fnOf d.nm d.nm (defArgs d.st) (defBody d.st) (defScope d.st) .none kV doc pm an cdv ct) ⟨us, []⟩ = pure (d.ps.zip us)
  kb : ∀ n ks pl, (n, ks, pl) ∈ d.kw → ∀ (kV doc pm : Value) (an : Option Addr) (cdv ct : Value) (us ws : List Value), us.length = n → ws.length = ks.length →
    bindArgs (PySem.W.fnOf d.nm d.nm (defArgs d.st) (defBody d.st) (defScope d.st) .none kV doc pm an cdv ct) ⟨us, ks.zip ws⟩ = pure (d.ps.zip (permL pl (us ++ ws)))
def DfsOk (T : Tab) : List Df → Prop
  | [] => True
  | d :: ds => d.Ok T ∧ (d.nm = T.nm ds.length ∧ d.kw = T.kw ds.length) ∧ DfsOk T ds
section
variable {P : Program} {w : World} {K : PySem.W.Frag} {mg : Str → Option Value} {base : Heap}
def FnIn (K : PySem.W.Frag) (mg : Str → Option Value) (d : Df) : Prop := ∃ fa fd, mg d.nm = some (.ref fa) ∧ FunD K d.nm d.nm (defArgs d.st) (defBody d.st) (defScope d.st) [] [] fa fd
theorem FunD.kbind {d : Df} {T : Tab} {f : Addr} {fd : FuncData} (o : d.Ok T) (F : FunD K d.nm d.nm (defArgs d.st) (defBody d.st) (defScope d.st) [] [] f fd) : ∀ n ks pm, (n, ks, pm) ∈ d.kw → KwOk K fd d.ps n ks pm := fun n ks pl hm s us ws _ h1 h2 => by
  obtain ⟨oc, od, dV, kV, doc, pm, an, cdv, ct, osl, rfl, lk, hcd, hD, hK⟩ := F.ex
  rcases hD with ⟨_, rfl⟩ | ⟨e, _⟩
  · exact .of_eq (o.kb n ks pl hm kV doc pm an cdv ct us ws h1 h2)
  · exact absurd rfl e
theorem DefOk.mono {j k : Nat} {x : Str} {kw : List (Nat × List Str × List Nat)} {f : Fn} (D : DefOk P w K mg base j x kw f) (h : j ≤ k) : DefOk P w K mg base k x kw f := by
  obtain ⟨fa, fd, ps, a, b, c, e, g⟩ := D.ex
  exact ⟨fa, fd, ps, a, b, c, e.mono h, g⟩
theorem tab_ok {T : Tab} (hgl : ∀ x d, (x, d) ∈ T.gls → ∃ u v, mg x = some u ∧ RelV v u ∧ ∀ F, Dq K F v d) (hbl : ∀ x, x ∈ T.bls → mg x = none) : ∀ ds : List Df, DfsOk T ds → (∀ d ∈ ds, FnIn K mg d) → TabOk (gam ds) T P w K mg base ds.length
  | [], _, _ => ⟨fun i f h => (by cases h), hgl, hbl⟩
  | d :: ds, o, hin => by
    obtain ⟨o1, ⟨o2, o3⟩, o4⟩ := o
    have ih := tab_ok hgl hbl ds o4 fun e he => hin e (List.mem_cons_of_mem _ he)
    refine ⟨fun i f h => ?_, hgl, hbl⟩
    unfold gam at h
    split at h
    · rename_i hi
      subst hi
      cases h
      obtain ⟨fa, fd, h1, h2⟩ := hin d List.mem_cons_self
      rw [← o2, ← o3]
      exact ⟨fa, fd, d.ps, h1, h2.kp, h2.bindsN o1.bn, fn_ok h2 ih o1.sc o1.len o1.io o1.ck, FunD.kbind o1 h2⟩
    · exact (ih.defs i f h).mono (Nat.le_succ _)
end
theorem dq_ints {K : PySem.W.Frag} {H : Hp} : ∀ ns : List Int, DqAll K H (ns.map V.int) (ns.map D.int)
  | [] => .nil
  | n :: ns => .cons (.int n) (dq_ints ns)
theorem mem_at {α : Type} {l : List α} {x : α} (h : x ∈ l) : ∃ i : Nat, l[i]? = some x := by
  obtain ⟨i, hi, e⟩ := List.mem_iff_getElem.mp h
  exact ⟨i, by rw [List.getElem?_eq_getElem hi, e]⟩
theorem facts_all {P : Program} {w : World} {K : PySem.W.Frag} {h : Heap} {mg : Str → Option Value} {f : Addr} {d : Df} {ds : List Df} {cns : List (Str × Int)} {stn : List (Str × Str)} {bls : List Str} {x : Str} (X : K.In h) (G : h.Ns mainGlobals mg) (hfa : mg d.nm = some (.ref f))
    (c : He.SaysD (faOf (d :: ds) cns stn bls) ((d :: ds).map Df.d) K) (ok : DfsOk (tabOf (d :: ds) cns stn bls) (d :: ds)) (hp : d.ps = [x]) :
    ∃ fd : FuncData, (∀ (s : Shared) (v : Value), BindsTo s fd ⟨[v], []⟩ [(x, v)]) ∧ ∀ base : Heap, K.In base → base.Ns mainGlobals mg → FnG P w K mg base CX0 (ds.length + 1) f fd [x] (SpF K (mkFn (gam ds) d.ps.length d.N.length d.io d.code)) := by
  have hin : ∀ e ∈ d :: ds, FnIn K mg e := fun e he => by
    obtain ⟨i, hi⟩ := mem_at (show e.d ∈ (d :: ds).map Df.d from List.mem_map_of_mem he)
    obtain ⟨fd, F⟩ := c.def_ i hi
    obtain ⟨j, hj⟩ := mem_at (show He.Fa.glo e.nm ∈ faOf (d :: ds) cns stn bls from List.mem_append_left _ (List.mem_map.mpr ⟨e, he, rfl⟩))
    exact ⟨_, fd, He.glo_ok X G (c.fact j hj), F⟩
  have hgl : ∀ y z, (y, z) ∈ (tabOf (d :: ds) cns stn bls).gls → ∃ u v, mg y = some u ∧ RelV v u ∧ ∀ F, Dq K F v z := fun y z hm => by
    rcases List.mem_append.mp (show (y, z) ∈ (cns.map fun p => (p.1, D.int p.2)) ++ (stn.map fun p => (p.1, D.str p.2)) from hm) with hm | hm
    · obtain ⟨p, hp1, hp2⟩ := List.mem_map.mp hm
      cases hp2
      obtain ⟨j, hj⟩ := mem_at (show He.Fa.int p.1 p.2 ∈ faOf (d :: ds) cns stn bls from List.mem_append_right _ (List.mem_append_left _ (List.mem_map.mpr ⟨p, hp1, rfl⟩)))
      obtain ⟨t, ht⟩ := He.int_ok X G (c.fact j hj)
      exact ⟨_, .int p.2, ht, ⟨t, rfl⟩, fun F => .int _⟩
    · obtain ⟨p, hp1, hp2⟩ := List.mem_map.mp hm
      cases hp2
      obtain ⟨j, hj⟩ := mem_at (show He.Fa.str p.1 p.2 ∈ faOf (d :: ds) cns stn bls from List.mem_append_right _ (List.mem_append_right _ (List.mem_append_right _ (List.mem_map.mpr ⟨p, hp1, rfl⟩))))
      obtain ⟨t, ht⟩ := He.str_ok X G (c.fact j hj)
      exact ⟨_, .str p.2, ht, ⟨t, rfl⟩, fun F => .str _⟩
  have hbl : ∀ y, y ∈ (tabOf (d :: ds) cns stn bls).bls → mg y = none := fun y hm => by
    obtain ⟨j, hj⟩ := mem_at (show He.Fa.free y ∈ faOf (d :: ds) cns stn bls from List.mem_append_right _ (List.mem_append_right _ (List.mem_append_left _ (List.mem_map.mpr ⟨y, hm, rfl⟩))))
    exact He.free_ok X G (c.fact j hj)
  obtain ⟨fa, fd, h1, F⟩ := hin d List.mem_cons_self
  have e := hfa.symm.trans h1
  cases e
  obtain ⟨o1, _, o4⟩ := ok
  refine ⟨fd, fun s v => ?_, fun base _ _ => ?_⟩
  · have b := FunD.bindsA (ps := d.ps) F o1.bn s [v] (by rw [hp]; rfl)
    rw [hp] at b
    exact b
  · have r := fn_ok (P := P) (w := w) (base := base) F (tab_ok hgl hbl ds o4 fun e he => hin e (List.mem_cons_of_mem _ he)) o1.sc o1.len o1.io o1.ck
    have e2 : FnG P w K mg base CX0 (ds.length + 1) f fd d.ps (SpF K (mkFn (gam ds) d.ps.length d.N.length d.io d.code)) := r
    rw [show d.ps = [x] from hp] at e2 ⊢
    exact e2
theorem sp_law {K : PySem.W.Frag} {F : Fn} {H : Hp} {a : Addr} {ns : List Int} (h1 : F.ar = 1) (h2 : F.io = none) (hS : SqL K H a (ns.map V.int)) (hr : F.run [.lst (ns.map D.int)] = .ret false (.bl true) .non) : SpF K F [.ref a] H (fun v _ => v = .bl true) fun _ _ _ => False := by
  refine ⟨H, _, false, .bl true, .non, Le.refl H, h1.symm, ?_, hr, fun v H' G' p => ?_⟩
  · rw [h2]
    exact argsOk_none (.cons (.lst hS (dq_ints ns)) .nil)
  · have r : Dq K G' v (.bl true) := p.res
    cases r
    rfl
/-- the script alone is tracked, or nothing (it is the module's own) -/
def onlyAt (a : Addr) (u : HO) : Hp := fun b => if b = a then some u else none
/-- the law's def, called at its head -/
theorem law_callG {P : Program} {w : World} {K : PySem.W.Frag} {mg mb : Str → Option Value} {CX : CXT} {k : Nat} {fa a : Addr} {fd : FuncData} {x : Str} {sp : Sp} {s₁ : Shared} {vs : List Value} {ns : List Int}
    (KX : K.In s₁.heap) (hns : s₁.heap.Ns mainGlobals mg) (hb : s₁.heap.Ns builtinsNs mb) (hbb : ∀ x : Str, x ≠ "__name__" → mb x = bootBuiltins x) (hlim : s₁.heap.NoLimit) (hg : s₁.gens = #[])
    (ha : s₁.heap.get? a = some { cls := .type "list", data := .seq vs.toArray }) (hi : IntsAre vs ns) (hl : ns.length ≤ sizeLine) (hr : RoomG k callerA)
    (F : ∀ base : Heap, K.In base → base.Ns mainGlobals mg → FnG P w K mg base CX k fa fd [x] sp) (hbind : ∀ (s : Shared) (u : Value), BindsTo s fd ⟨[u], []⟩ [(x, u)])
    (hsp : ∀ H : Hp, Only H → SqL K H a (ns.map V.int) → sp [.ref a] H (fun v _ => v = .bl true) fun _ _ _ => False)
    (hCX : ∀ H e s', CX [] H s₁ (fun _ _ _ => False) e s' → False) :
    codeAny (model P w) callerA (.call (.ref fa) ⟨[.ref a], []⟩) (fun r s' => r = .ok (.ret (.bool true)) ∧ OldK s₁.heap s'.heap ∧ s'.os = s₁.os ∧ AllBare s'.gens) s₁ := by
  have rv := vals_ints hi
  have run : ∀ H : Hp, Only H → SqL K H a (ns.map V.int) → HOk P w H s₁.heap → (∀ b, b ≠ a → H b = none) → (K.lookup a ≠ none → H a = none) →
      codeAny (model P w) callerA (.call (.ref fa) ⟨[.ref a], []⟩) (fun r s' => r = .ok (.ret (.bool true)) ∧ OldK s₁.heap s'.heap ∧ s'.os = s₁.os ∧ AllBare s'.gens) s₁ := by
    intro H hO hS hok hA hK
    have free : ∀ (b : Addr) (o : Obj), s₁.heap.get? b = some o → (b = a → H a = none) → (hidT s₁.heap H).get? b = some o := fun b o e h => hidT_get e (by
      by_cases q : b = a
      · rw [q]; exact h q
      · exact hA b q)
    have dictNs : ∀ (b : Addr) (m : Str → Option Value), s₁.heap.Ns b m → (hidT s₁.heap H).Ns b m := fun b m ⟨o, es, ep, e, d, r⟩ => ⟨o, es, ep, free b o e (fun q => by
      rw [q, ha] at e
      obtain rfl := Option.some.inj e
      have d : Data.seq vs.toArray _ = Data.dict es ep := d
      cases d), d, r⟩
    have kb : K.In (hidT s₁.heap H) := fun b o e => free b o (KX b o e) fun q => hK (by rw [← q, e]; exact fun z => nomatch z)
    have md : Mod K mg (hidT s₁.heap H) := ⟨kb, dictNs _ _ hns, ⟨mb, dictNs _ _ hb, hbb⟩, by obtain ⟨mc, h1, h2⟩ := hlim; exact ⟨mc, dictNs _ _ h1, h2⟩⟩
    have e0 : Env0 P w K mg (hidT s₁.heap H) callerA [] s₁ H := ⟨rfl, md, fun b o e => of_hidT e, Nat.le_of_eq (hidT_size _ _), trivial, fun b z => absurd (show b ∈ ([] : List Addr) from z) List.not_mem_nil, hok, .of_eq hg⟩
    refine codeAny_mono ((F _ kb (dictNs _ _ hns)).run callerA [] s₁ H ⟨[.ref a], []⟩ [.ref a] [.ref a] _ _ hr e0 (hbind s₁ (.ref a)) (.cons rfl .nil) (hsp H hO hS)) fun r s' h => ?_
    match r, h with
    | .error e, h => exact (hCX H e s' h).elim
    | .ok (.ret u), h =>
      obtain ⟨v, H', os, bare, un, hok', ru, q⟩ := h
      have q : v = .bl true := q
      subst q
      obtain rfl : u = Value.bool true := ru
      refine ⟨rfl, OldK.of_keep fun b o e => ?_, os, bare⟩
      rcases hO b with z | ⟨ob, xs, z⟩
      · exact un.keep b o e z (fun y => absurd (show b ∈ ([] : List Addr) from y) List.not_mem_nil) (by simp)
      · have e1 := (hok b _ z).1
        have e2 := (hok' b _ (un.frzs b ob _ z)).1
        rw [e] at e1
        obtain rfl := Option.some.inj e1
        exact e2
  by_cases hk : K.lookup a = none
  · have at_a : onlyAt a (.frz { cls := .type "list", data := .seq vs.toArray } (.lst (ns.map V.int))) a = some (.frz { cls := .type "list", data := .seq vs.toArray } (.lst (ns.map V.int))) := if_pos rfl
    refine run (onlyAt a (.frz { cls := .type "list", data := .seq vs.toArray } (.lst (ns.map V.int)))) (fun b => ?_) (.inl (.inr ⟨_, at_a⟩)) (fun b u z => ?_) (fun b q => if_neg q) fun z => absurd hk z
    · by_cases q : b = a
      · exact .inr ⟨_, _, by rw [q]; exact at_a⟩
      · exact .inl (if_neg q)
    · by_cases q : b = a
      · rw [q, at_a] at z
        obtain rfl := Option.some.inj z
        rw [q]
        exact ⟨ha, by rw [List.length_map]; exact hl, vs, _, rv, ha⟩
      · rw [show onlyAt a _ b = none from if_neg q] at z
        cases z
  · obtain ⟨o, ho⟩ := Option.ne_none_iff_exists'.mp hk
    have e := KX a o ho
    rw [ha] at e
    obtain rfl := Option.some.inj e
    exact run (fun _ => none) (fun _ => .inl rfl) (.inr ⟨_, vs.toArray, _, ho, rfl, rfl, rfl, by rw [List.size_toArray, hi.length]; exact hl, by simpa using rv⟩) (fun b u z => nomatch (show (none : Option HO) = some u from z)) (fun _ _ => rfl) fun _ => rfl
theorem walk_ofEB {l : PySem.W.OpenLaw} {n k : Nat} {q : Program} {loose : List Str} {XP : (Str → Option Value) → Heap → Prop} {YP : World → Heap → Prop} {d : DefRec} {CX : CXT} {x : Str}
    (hn : l.most = some n) (hn2 : n ≤ sizeLine) (hdf : d.params.defaults = []) (hr : RoomG k callerA)
    (F : ∀ (w : World) (mg : Str → Option Value) (fa : Addr) (h : Heap), YP w h → h.Ns mainGlobals mg → mg d.name = some (.ref fa) →
      ∃ (K : PySem.W.Frag) (fd : FuncData) (sp : Sp), K.In h ∧ (∀ (s : Shared) (u : Value), BindsTo s fd ⟨[u], []⟩ [(x, u)]) ∧
        (∀ (H : Hp) (a : Addr) (ns : List Int), ns.length ≤ n → (∀ z ∈ ns, Builtin.Int.intBits z ≤ 1048576) → Only H → SqL K H a (ns.map V.int) → sp [.ref a] H (fun v _ => v = .bl true) fun _ _ _ => False) ∧
        ∀ base : Heap, K.In base → base.Ns mainGlobals mg → FnG l.prog w K mg base CX k fa fd [x] sp)
    (hCX : ∀ (H : Hp) (s : Shared) (e : Value) (s' : Shared), CX [] H s (fun _ _ _ => False) e s' → False) :
    PySem.W.WalkO q loose XP YP l.row.toRowW d [] (fun f vs => PySem.call f vs) := by
  refine Att.attach_callB hn hdf fun w s₀ s₁ mg mb fa o pm cd doc a vs ns G Y ho hd hcd hmg hobj hints hlen hbits hg => ?_
  obtain ⟨K, fd, sp, KX, hb, hsp, hF⟩ := F w mg fa _ Y G.T.g hmg
  exact law_callG KX G.T.g G.T.b G.T.builtins G.T.nolimit hg hobj hints (Nat.le_trans hlen hn2) hr hF hb (fun H hO hS => hsp H a ns hlen hbits hO hS) fun H e s' => hCX H s₁ e s'
end T

set_option Elab.async false
set_option linter.all false
set_option maxRecDepth 100000
namespace Lw
open PySem PySem.Spec PyProof.Rows L2 T
def c__law_source : S := .cons (.ret (.lstE (.cons (.var 0) (.cons (.var 0) (.cons (.int 0) (.nil)))))) (.nil)
def c__law_mixed : S := .cons (.asg 2 (.bin .mod (.bin .mul (.bin .add (.bin .mod (.var 0) (.int 2147483646)) (.int 1)) (.bin .add (.bin .mul (.var 1) (.int 7919)) (.int 104729))) (.int 2147483647))) (.cons (.asg 2 (.bin .mod (.bin .mul (.bin .add (.var 2) (.bin .mul (.bin .mod (.bin .div (.var 0) (.int 2147483646)) (.int 1000003)) (.bin .add (.var 1) (.int 31)))) (.int 48271)) (.int 2147483629))) (.cons (.asg 2 (.bin .mod (.bin .mul (.var 2) (.bin .add (.bin .add (.bin .div (.var 2) (.int 1013)) (.int 69621)) (.var 1))) (.int 2147483587))) (.cons (.ret (.bin .mod (.bin .mul (.var 2) (.bin .add (.bin .div (.var 2) (.int 2003)) (.int 40692))) (.int 2147483563))) (.nil))))
def c__law_take (i__law_mixed : Nat) : S := .cons (.ifS (.cmp .ge (.ix (.var 0) (.int 0)) (.bin .pow (.int 10) (.int 18))) (.cons (.asg 2 (.bin .mod (.ix (.var 0) (.int 0)) (.var 1))) (.cons (.setI 0 (.int 0) (.bin .div (.ix (.var 0) (.int 0)) (.var 1))) (.cons (.ret (.var 2)) (.nil)))) (.nil)) (.cons (.setI 0 (.int 2) (.bin .add (.ix (.var 0) (.int 2)) (.int 1))) (.cons (.ret (.bin .mod (.call i__law_mixed (.cons (.ix (.var 0) (.int 1)) (.cons (.ix (.var 0) (.int 2)) (.nil)))) (.var 1))) (.nil)))
def c__law_big (i__law_take : Nat) : S := .cons (.asg 1 (.int 0)) (.cons (.forS (.nm 2) (.range1 (.int 4)) (.cons (.asg 1 (.bin .add (.bin .mul (.var 1) (.bin .pow (.int 10) (.int 9))) (.call i__law_take (.cons (.var 0) (.cons (.bin .pow (.int 10) (.int 9)) (.nil)))))) (.nil))) (.cons (.ret (.var 1)) (.nil)))
def c__law_rounds (i__law_take : Nat) : S := .cons (.asg 2 (.lstE (.nil))) (.cons (.asg 3 (.ix (.lstE (.cons (.int 2) (.cons (.int 3) (.cons (.int 4) (.cons (.int 7) (.cons (.bin .pow (.int 10) (.int 12)) (.nil))))))) (.call i__law_take (.cons (.var 0) (.cons (.int 5) (.nil)))))) (.cons (.forS (.nm 4) (.range1 (.call i__law_take (.cons (.var 0) (.cons (.bin .add (.var 1) (.int 1)) (.nil))))) (.cons (.app 2 (.bin .add (.int 2) (.call i__law_take (.cons (.var 0) (.cons (.var 3) (.nil)))))) (.nil))) (.cons (.ret (.var 2)) (.nil))))
def c__law_people (i__law_take : Nat) (i__law_big : Nat) : S := .cons (.asg 2 (.call i__law_take (.cons (.var 0) (.cons (.int 4) (.nil))))) (.cons (.asg 3 (.lstE (.nil))) (.cons (.forS (.nm 4) (.range1 (.call i__law_take (.cons (.var 0) (.cons (.bin .add (.var 1) (.int 1)) (.nil))))) (.cons (.asg 5 (.lstE (.cons (.call i__law_take (.cons (.var 0) (.cons (.int 4) (.nil)))) (.cons (.call i__law_take (.cons (.var 0) (.cons (.int 40) (.nil)))) (.cons (.call i__law_big (.cons (.var 0) (.nil))) (.cons (.bi .int (.cons (.cmp .eq (.call i__law_take (.cons (.var 0) (.cons (.int 5) (.nil)))) (.int 0)) (.nil))) (.nil))))))) (.cons (.app 3 (.ix (.var 5) (.var 2))) (.nil)))) (.cons (.ret (.bi .tuple (.cons (.var 3) (.nil)))) (.nil))))
def c_is_integer : S := .cons (.ret (.andE (.isi (.var 0) true [.int]) (.nt (.isi (.var 0) true [.bool])))) (.nil)
def c_is_at_least (i_is_integer : Nat) : S := .cons (.ret (.andE (.call i_is_integer (.cons (.var 0) (.nil))) (.cmp .ge (.var 0) (.var 1)))) (.nil)
def c_require_schedule (i_is_at_least : Nat) : S := .cons (.ifS (.orE (.nt (.tru (.isi (.var 0) false [.list, .tuple]))) (.cmp .gt (.bi .len (.cons (.var 0) (.nil))) (.gl "MAX_ROUNDS" (.int 200)))) (.cons (.never) (.nil)) (.nil)) (.cons (.forS (.tp (.cons (.nm 1) (.cons (.nm 2) (.nil)))) (.enum (.var 0)) (.cons (.ifS (.nt (.tru (.call i_is_at_least (.cons (.var 2) (.cons (.int 2) (.nil)))))) (.cons (.never) (.nil)) (.nil)) (.nil))) (.nil))
def c_is_group (i_is_at_least : Nat) : S := .cons (.ret (.andE (.isi (.var 0) true [.tuple]) (.andE (.cmp .eq (.bi .len (.cons (.var 0) (.nil))) (.var 1)) (.bi .all (.cons (.lc [2] (.call i_is_at_least (.cons (.var 2) (.cons (.int 0) (.nil)))) (.nm 2) (.seq (.var 0)) .yes) (.nil)))))) (.nil)
def c_require_counts (i_is_group : Nat) : S := .cons (.ifS (.orE (.nt (.tru (.isi (.var 0) true [.tuple]))) (.orE (.cmp .gt (.bi .len (.cons (.var 0) (.nil))) (.gl "MAX_ROUNDS" (.int 200))) (.nt (.tru (.call i_is_group (.cons (.var 0) (.cons (.bi .len (.cons (.var 0) (.nil))) (.nil)))))))) (.cons (.never) (.nil)) (.nil)) (.nil)
def c_greatest_common_divisor : S := .cons (.whl (.cmp .ne (.var 1) (.int 0)) (.cons (.par [0, 1] (.cons (.var 1) (.cons (.bin .mod (.var 0) (.var 1)) (.nil)))) (.nil))) (.cons (.ret (.bi .abs (.cons (.var 0) (.nil)))) (.nil))
def c__law_gcd : S := .cons (.whl (.cmp .ne (.var 1) (.int 0)) (.cons (.par [0, 1] (.cons (.var 1) (.cons (.bin .mod (.var 0) (.var 1)) (.nil)))) (.nil))) (.cons (.ret (.var 0)) (.nil))
def c_lowest_terms (i_greatest_common_divisor : Nat) : S := .cons (.asg 2 (.call i_greatest_common_divisor (.cons (.var 0) (.cons (.var 1) (.nil))))) (.cons (.ret (.tupE (.cons (.bin .div (.var 0) (.var 2)) (.cons (.bin .div (.var 1) (.var 2)) (.nil))))) (.nil))
def c_products : S := .cons (.asg 1 (.lstE (.cons (.int 1) (.nil)))) (.cons (.forS (.nm 2) (.seq (.var 0)) (.cons (.app 1 (.bin .mul (.ix (.var 1) (.neg (.int 1))) (.var 2))) (.nil))) (.cons (.ret (.var 1)) (.nil)))
def c__law_weighed : S := .cons (.unp (.tp (.cons (.nm 2) (.cons (.nm 3) (.nil)))) (.tupE (.cons (.int 0) (.cons (.int 1) (.nil))))) (.cons (.forS (.tp (.cons (.nm 4) (.cons (.nm 5) (.nil)))) (.zip (.var 0) (.var 1)) (.cons (.asg 3 (.bin .mul (.var 3) (.var 4))) (.cons (.asg 2 (.bin .add (.bin .mul (.var 2) (.var 4)) (.var 5))) (.nil)))) (.cons (.ret (.tupE (.cons (.var 2) (.cons (.var 3) (.nil))))) (.nil)))
def c_scaled_weight (i_products : Nat) : S := .cons (.asg 2 (.call i_products (.cons (.var 0) (.nil)))) (.cons (.ret (.bi .sum (.cons (.lc [3, 4] (.bin .mul (.var 3) (.bin .div (.ix (.var 2) (.neg (.int 1))) (.var 4))) (.tp (.cons (.nm 3) (.cons (.nm 4) (.nil)))) (.zip (.var 1) (.sl (.var 2) (.int 1) .nopart)) .yes) (.nil)))) (.nil))
def c_weight (i_lowest_terms : Nat) (i_products : Nat) (i_scaled_weight : Nat) (i_require_counts : Nat) (i_require_schedule : Nat) : S := .cons (.drop (.call i_require_schedule (.cons (.var 0) (.nil)))) (.cons (.drop (.call i_require_counts (.cons (.var 1) (.nil)))) (.cons (.ret (.call i_lowest_terms (.cons (.call i_scaled_weight (.cons (.var 0) (.cons (.var 1) (.nil)))) (.cons (.ix (.call i_products (.cons (.var 0) (.nil))) (.neg (.int 1))) (.nil))))) (.nil)))
end Lw

set_option Elab.async false
set_option linter.all false
set_option maxRecDepth 100000
set_option maxHeartbeats 1000000
namespace Lw
open PySem PySem.Spec PyProof.Rows L2 T
theorem mulOk_of {i j : Int} (a b : Nat) (hi : i.natAbs < 2 ^ a) (hj : j.natAbs < 2 ^ b) (h : a + b ≤ 1000000) (ha : 0 < a) (hb : 0 < b) : mulOk i j = true := by
  unfold mulOk
  have h1 : i.natAbs.log2 < a := by
    by_cases z : i.natAbs = 0
    · rw [z]; exact Nat.lt_of_le_of_lt (by decide) ha
    · exact (Nat.log2_lt z).mpr hi
  have h2 : j.natAbs.log2 < b := by
    by_cases z : j.natAbs = 0
    · rw [z]; exact Nat.lt_of_le_of_lt (by decide) hb
    · exact (Nat.log2_lt z).mpr hj
  exact decide_eq_true (by omega)
theorem mulOk_small {i j : Int} (h1 : -(2 ^ 100) < i) (h2 : i < 2 ^ 100) (h3 : -(2 ^ 100) < j) (h4 : j < 2 ^ 100) : mulOk i j = true :=
  mulOk_of 100 100 (by omega) (by omega) (by decide) (by decide) (by decide)
theorem run_source (Γ : Nat → Option Fn) (c : Int) : (mkFn Γ 1 1 none c__law_source).run [.int c] = .ret true (.lst [.int c, .int c, .int 0]) .non := by
  simp [c__law_source, mkFn, xst, ev, evs, evi, initE, endE, outE, Env.cell, Env.put, Env.nx, clear?, BV.rd, BV.esc, BV.keep, BV.giveBack, T.cellOf, escAll, rdAll, keepAll, T.putAll, Res.bind_ok, Res.opt_some, Res.out_ok, Option.bind, Option.map, binD, divOk, cmpD, truD, ixD, toInt, toBl, bvOf, biD, sizeLine, isTyD, isT, D.dt, isNon, isLs, writable, T.assign, itemsD, Option.join, List.getElem?_cons_zero, List.getElem?_cons_succ, List.getElem?_nil, List.set_cons_zero, List.set_cons_succ, List.length_cons, List.length_nil, List.cons_append, List.nil_append, List.append_nil, List.replicate, callF, passIo, List.eraseIdx, List.insertIdx_zero, List.insertIdx_succ_cons, T.forGo, rangeD, in62, ixN, atI, Stt.mut]
def mixed (c d : Int) : Int :=
  let a := (c % 2147483646 + 1) * (d * 7919 + 104729) % 2147483647
  let b := (a + c / 2147483646 % 1000003 * (d + 31)) * 48271 % 2147483629
  let e := b * (b / 1013 + 69621 + d) % 2147483587
  e * (e / 2003 + 40692) % 2147483563
theorem run_mixed (Γ : Nat → Option Fn) (c d : Int) (h0 : 0 ≤ d) (h1 : d < 1000000000) : (mkFn Γ 2 3 none c__law_mixed).run [.int c, .int d] = .ret false (.int (mixed c d)) .non := by
  have m1 : mulOk d 7919 = true := mulOk_small (by omega) (by omega) (by omega) (by omega)
  have a0 := Int.emod_nonneg c (b := 2147483646) (by decide)
  have a1 := Int.emod_lt_of_pos c (b := 2147483646) (by decide)
  have m2 : mulOk (c % 2147483646 + 1) (d * 7919 + 104729) = true := mulOk_small (by omega) (by omega) (by omega) (by omega)
  generalize hA : (c % 2147483646 + 1) * (d * 7919 + 104729) % 2147483647 = A
  have b0 : 0 ≤ A := hA ▸ Int.emod_nonneg _ (by decide)
  have b1 : A < 2147483647 := hA ▸ Int.emod_lt_of_pos _ (by decide)
  have c0 := Int.emod_nonneg (c / 2147483646) (b := 1000003) (by decide)
  have c1 := Int.emod_lt_of_pos (c / 2147483646) (b := 1000003) (by decide)
  have m3 : mulOk (c / 2147483646 % 1000003) (d + 31) = true := mulOk_small (by omega) (by omega) (by omega) (by omega)
  have d0 : 0 ≤ c / 2147483646 % 1000003 * (d + 31) := Int.mul_nonneg c0 (by omega)
  have d1 : c / 2147483646 % 1000003 * (d + 31) ≤ 1000003 * 2000000000 := Int.mul_le_mul (by omega) (by omega) (by omega) (by decide)
  have m4 : mulOk (A + c / 2147483646 % 1000003 * (d + 31)) 48271 = true := mulOk_small (by omega) (by omega) (by omega) (by omega)
  generalize hB : (A + c / 2147483646 % 1000003 * (d + 31)) * 48271 % 2147483629 = B
  have e0 : 0 ≤ B := hB ▸ Int.emod_nonneg _ (by decide)
  have e1 : B < 2147483629 := hB ▸ Int.emod_lt_of_pos _ (by decide)
  have m5 : mulOk B (B / 1013 + 69621 + d) = true := mulOk_small (by omega) (by omega) (by omega) (by omega)
  generalize hE : B * (B / 1013 + 69621 + d) % 2147483587 = E1
  have f0 : 0 ≤ E1 := hE ▸ Int.emod_nonneg _ (by decide)
  have f1 : E1 < 2147483587 := hE ▸ Int.emod_lt_of_pos _ (by decide)
  have m6 : mulOk E1 (E1 / 2003 + 40692) = true := mulOk_small (by omega) (by omega) (by omega) (by omega)
  have o1 : (2147483646 : Nat).log2 < 9000 := by decide
  have o2 : (1013 : Nat).log2 < 9000 := by decide
  have o3 : (2003 : Nat).log2 < 9000 := by decide
  have key : mixed c d = E1 * (E1 / 2003 + 40692) % 2147483563 := by unfold mixed; simp only [hA, hB, hE]
  rw [key]
  simp [c__law_mixed, mkFn, xst, ev, evs, evi, initE, endE, outE, Env.cell, Env.put, Env.nx, clear?, BV.rd, BV.esc, BV.keep, BV.giveBack, T.cellOf, escAll, rdAll, keepAll, T.putAll, Res.bind_ok, Res.opt_some, Res.out_ok, Option.bind, Option.map, binD, divOk, cmpD, truD, ixD, toInt, toBl, bvOf, biD, sizeLine, isTyD, isT, D.dt, isNon, isLs, writable, T.assign, itemsD, Option.join, List.getElem?_cons_zero, List.getElem?_cons_succ, List.getElem?_nil, List.set_cons_zero, List.set_cons_succ, List.length_cons, List.length_nil, List.cons_append, List.nil_append, List.append_nil, List.replicate, callF, passIo, List.eraseIdx, List.insertIdx_zero, List.insertIdx_succ_cons, T.forGo, rangeD, in62, ixN, atI, Stt.mut, m1, m2, m3, m4, m5, m6, hA, hB, hE, o1, o2, o3]
theorem mixed_nonneg (c d : Int) : 0 ≤ mixed c d := Int.emod_nonneg _ (by decide)
theorem mixed_lt (c d : Int) : mixed c d < 2147483563 := Int.emod_lt_of_pos _ (by decide)
end Lw


set_option Elab.async false
set_option linter.all false
set_option maxRecDepth 100000
set_option maxHeartbeats 1000000
namespace Lw
open PySem PySem.Spec PyProof.Rows L2 T
theorem forGo_inv {f : D → T.Env → Out} (I : Nat → T.Env → Prop) : ∀ (xs : List D) (i : Nat) (c : T.Env), (∀ j x c, xs[j]? = some x → I (i + j) c → ∃ c', f x c = .nx c' ∧ I (i + j + 1) c') → I i c → ∃ c', T.forGo f xs c = .nx c' ∧ I (i + xs.length) c'
  | [], i, c, _, h => ⟨c, rfl, h⟩
  | x :: xs, i, c, hs, h => by
    obtain ⟨c1, e1, h1⟩ := hs 0 x c rfl h
    obtain ⟨c2, e2, h2⟩ := forGo_inv I xs (i + 1) c1 (fun j y c hj hI => by
      have := hs (j + 1) y c hj (by rw [show i + (j + 1) = i + 1 + j by omega]; exact hI)
      rw [show i + (j + 1) + 1 = i + 1 + j + 1 by omega] at this
      exact this) h1
    refine ⟨c2, ?_, by rw [List.length_cons, show i + (xs.length + 1) = i + 1 + xs.length by omega]; exact h2⟩
    unfold T.forGo
    rw [e1]
    exact e2
theorem rangeD_length : ∀ (n : Nat) (lo : Int), (rangeD lo n).length = n
  | 0, _ => rfl
  | n + 1, lo => by rw [rangeD, List.length_cons, rangeD_length n]
theorem rangeD_get : ∀ (n : Nat) (lo : Int) (j : Nat) (x : D), (rangeD lo n)[j]? = some x → x = .int (lo + j)
  | 0, _, _, _, h => by simp [rangeD] at h
  | n + 1, lo, 0, x, h => by
    rw [rangeD] at h
    cases h
    simp
  | n + 1, lo, j + 1, x, h => by
    rw [rangeD, List.getElem?_cons_succ] at h
    rw [rangeD_get n (lo + 1) j x h]
    congr 1
    rw [Int.natCast_succ]
    omega
def MixedOk (F : Fn) : Prop := F.ar = 2 ∧ F.io = none ∧ ∀ c d : Int, 0 ≤ d → d < 1000000000 → F.run [.int c, .int d] = .ret false (.int (mixed c d)) .non
def src (s c n : Int) : D := .lst [.int s, .int c, .int n]
def TakeOk (F : Fn) : Prop := F.ar = 2 ∧ F.io = some 0 ∧ ∀ s c n k : Int, 0 ≤ n → n < 100000000 → 0 < k → k < 2 ^ 100 → ∃ r s' n', F.run [src s c n, .int k] = .ret false (.int r) (src s' c n') ∧ 0 ≤ r ∧ r < k ∧ n ≤ n' ∧ n' ≤ n + 1
theorem ok_take {Γ : Nat → Option Fn} {i : Nat} {F : Fn} (hΓ : Γ i = some F) (hF : MixedOk F) : TakeOk (mkFn Γ 2 3 (some 0) (c__law_take i)) := by
  obtain ⟨f1, f2, f3⟩ := hF
  refine ⟨rfl, rfl, fun s c n k h0 h1 h2 h3 => ?_⟩
  have hk : k.natAbs.log2 < 9000 := by
    have z : k.natAbs ≠ 0 := by omega
    exact (Nat.log2_lt z).mpr (Nat.lt_of_lt_of_le (show k.natAbs < 2 ^ 100 by omega) (Nat.pow_le_pow_right (by decide) (by decide)))
  have f4 := f3 c (n + 1) (by omega) (by omega)
  by_cases hs : (10 : Int) ^ 18 ≤ s
  · refine ⟨s % k, s / k, n, ?_, Int.emod_nonneg _ (by omega), Int.emod_lt_of_pos _ h2, by omega, by omega⟩
    have hs' : (1000000000000000000 : Int) ≤ s := by omega
    simp [c__law_take, src, mkFn, xst, ev, evs, evi, initE, endE, outE, Env.cell, Env.put, Env.nx, clear?, BV.rd, BV.esc, BV.keep, BV.giveBack, T.cellOf, escAll, rdAll, keepAll, T.putAll, Res.bind_ok, Res.opt_some, Res.out_ok, Option.bind, Option.map, binD, divOk, cmpD, truD, ixD, toInt, toBl, bvOf, biD, sizeLine, isTyD, isT, D.dt, isNon, isLs, writable, T.assign, itemsD, Option.join, List.getElem?_cons_zero, List.getElem?_cons_succ, List.getElem?_nil, List.set_cons_zero, List.set_cons_succ, List.length_cons, List.length_nil, List.cons_append, List.nil_append, List.append_nil, List.replicate, callF, passIo, List.eraseIdx, List.insertIdx_zero, List.insertIdx_succ_cons, T.forGo, rangeD, in62, ixN, atI, Stt.mut, hs', h2, hk]
  · refine ⟨mixed c (n + 1) % k, s, n + 1, ?_, Int.emod_nonneg _ (by omega), Int.emod_lt_of_pos _ h2, by omega, by omega⟩
    have hs' : ¬ (1000000000000000000 : Int) ≤ s := by omega
    simp [c__law_take, src, mkFn, xst, ev, evs, evi, initE, endE, outE, Env.cell, Env.put, Env.nx, clear?, BV.rd, BV.esc, BV.keep, BV.giveBack, T.cellOf, escAll, rdAll, keepAll, T.putAll, Res.bind_ok, Res.opt_some, Res.out_ok, Option.bind, Option.map, binD, divOk, cmpD, truD, ixD, toInt, toBl, bvOf, biD, sizeLine, isTyD, isT, D.dt, isNon, isLs, writable, T.assign, itemsD, Option.join, List.getElem?_cons_zero, List.getElem?_cons_succ, List.getElem?_nil, List.set_cons_zero, List.set_cons_succ, List.length_cons, List.length_nil, List.cons_append, List.nil_append, List.append_nil, List.replicate, callF, passIo, List.eraseIdx, List.insertIdx_zero, List.insertIdx_succ_cons, T.forGo, rangeD, in62, ixN, atI, Stt.mut, hs', h2, hk, hΓ, f1, f2, f4]
def BigOk (F : Fn) : Prop := F.ar = 1 ∧ F.io = some 0 ∧ ∀ s c n : Int, 0 ≤ n → n < 90000000 → ∃ r s' n', F.run [src s c n] = .ret false (.int r) (src s' c n') ∧ 0 ≤ r ∧ r < 10 ^ 36 ∧ n ≤ n' ∧ n' ≤ n + 4
theorem ok_big {Γ : Nat → Option Fn} {i : Nat} {F : Fn} (hΓ : Γ i = some F) (hF : TakeOk F) : BigOk (mkFn Γ 1 3 (some 0) (c__law_big i)) := by
  obtain ⟨f1, f2, f3⟩ := hF
  refine ⟨rfl, rfl, fun s c n h0 h1 => ?_⟩
  obtain ⟨r1, s1, n1, e1, a1, b1, g1, k1⟩ := f3 s c n 1000000000 h0 (by omega) (by omega) (by omega)
  obtain ⟨r2, s2, n2, e2, a2, b2, g2, k2⟩ := f3 s1 c n1 1000000000 (by omega) (by omega) (by omega) (by omega)
  obtain ⟨r3, s3, n3, e3, a3, b3, g3, k3⟩ := f3 s2 c n2 1000000000 (by omega) (by omega) (by omega) (by omega)
  obtain ⟨r4, s4, n4, e4, a4, b4, g4, k4⟩ := f3 s3 c n3 1000000000 (by omega) (by omega) (by omega) (by omega)
  have m1 : mulOk r1 1000000000 = true := mulOk_small (by omega) (by omega) (by omega) (by omega)
  have m2 : mulOk (r1 * 1000000000 + r2) 1000000000 = true := mulOk_small (by omega) (by omega) (by omega) (by omega)
  have m3 : mulOk ((r1 * 1000000000 + r2) * 1000000000 + r3) 1000000000 = true := mulOk_small (by omega) (by omega) (by omega) (by omega)
  have m0 : mulOk 0 1000000000 = true := mulOk_small (by omega) (by omega) (by omega) (by omega)
  refine ⟨((r1 * 1000000000 + r2) * 1000000000 + r3) * 1000000000 + r4, s4, n4, ?_, by omega, by omega, by omega, by omega⟩
  simp only [src] at e1 e2 e3 e4
  simp [c__law_big, src, mkFn, xst, ev, evs, evi, initE, endE, outE, Env.cell, Env.put, Env.nx, clear?, BV.rd, BV.esc, BV.keep, BV.giveBack, T.cellOf, escAll, rdAll, keepAll, T.putAll, Res.bind_ok, Res.opt_some, Res.out_ok, Option.bind, Option.map, binD, divOk, cmpD, truD, ixD, toInt, toBl, bvOf, biD, sizeLine, isTyD, isT, D.dt, isNon, isLs, writable, T.assign, itemsD, Option.join, List.getElem?_cons_zero, List.getElem?_cons_succ, List.getElem?_nil, List.set_cons_zero, List.set_cons_succ, List.length_cons, List.length_nil, List.cons_append, List.nil_append, List.append_nil, List.replicate, callF, passIo, List.eraseIdx, List.insertIdx_zero, List.insertIdx_succ_cons, T.forGo, rangeD, in62, ixN, atI, Stt.mut, m0, m1, m2, m3, e1, e2, e3, e4, hΓ, f1, f2]
end Lw


set_option Elab.async false
set_option linter.all false
set_option maxRecDepth 100000
set_option maxHeartbeats 1000000
namespace Lw
open PySem PySem.Spec PyProof.Rows L2 T
def nth : Nat → S → S
  | 0, .cons a _ => a
  | n + 1, .cons _ b => nth n b
  | _, s => s
theorem run_eq {Γ : Nat → Option Fn} {ar n : Nat} {io : Option Nat} {body : S} {ds : List D} (h : ds.length = ar) : (mkFn Γ ar n io body).run ds = endE io (xst Γ body (initE io ds ++ List.replicate (n - ar) none)) := by
  simp [mkFn, h]
theorem seq_nx {Γ : Nat → Option Fn} {a b : S} {c : T.Env} (c' : T.Env) (h : xst Γ a c = .nx c') : xst Γ (.cons a b) c = xst Γ b c' := by
  simp only [xst, h]
theorem seq_rt {Γ : Nat → Option Fn} {a b : S} {c : T.Env} (fr : Bool) (d : D) (c' : T.Env) (h : xst Γ a c = .rt fr d c') : xst Γ (.cons a b) c = .rt fr d c' := by
  simp only [xst, h]
theorem for_nx {Γ : Nat → Option Fn} {tg : Tg} {it : E} {body : S} {c : T.Env} (I : Nat → T.Env → Prop) (xs : List D) (c1 : T.Env) (hi : evi Γ it c = .ok xs c1) (h0 : I 0 c1)
    (hs : ∀ j x c, xs[j]? = some x → I j c → ∃ c2 c', T.assign tg x c = some c2 ∧ xst Γ body c2 = .nx c' ∧ I (j + 1) c') : ∃ c', xst Γ (.forS tg it body) c = .nx c' ∧ I xs.length c' := by
  obtain ⟨c', e, h⟩ := forGo_inv (f := fun x c => match T.assign tg x c with
        | none => .no
        | some c => xst Γ body c) I xs 0 c1 (fun j x c hj hI => by
    rw [Nat.zero_add] at hI ⊢
    obtain ⟨c2, c', e1, e2, h⟩ := hs j x c hj hI
    exact ⟨c', by simp only [e1, e2], h⟩) h0
  rw [Nat.zero_add] at h
  refine ⟨c', ?_, h⟩
  simp only [xst, hi, Res.out_ok]
  exact e
def RoundsOk (F : Fn) : Prop := F.ar = 2 ∧ F.io = some 0 ∧ ∀ s c n h : Int, 0 ≤ n → n < 90000000 → 0 ≤ h → h ≤ 1000 →
  ∃ (es : List Int) (s' n' : Int), F.run [src s c n, .int h] = .ret true (.lst (es.map D.int)) (src s' c n') ∧ (es.length : Int) ≤ h ∧ (∀ e ∈ es, (2 : Int) ≤ e ∧ e < 2 ^ 50) ∧ n ≤ n' ∧ n' ≤ n + h + 2
theorem ok_rounds {Γ : Nat → Option Fn} {i : Nat} {F : Fn} (hΓ : Γ i = some F) (hF : TakeOk F) : RoundsOk (mkFn Γ 2 5 (some 0) (c__law_rounds i)) := by
  obtain ⟨f1, f2, f3⟩ := hF
  refine ⟨rfl, rfl, fun s c n h h0 h1 hh0 hh1 => ?_⟩
  obtain ⟨r1, s1, n1, e1, a1, b1, g1, k1⟩ := f3 s c n 5 h0 (by omega) (by omega) (by omega)
  obtain ⟨r2, s2, n2, e2, a2, b2, g2, k2⟩ := f3 s1 c n1 (h + 1) (by omega) (by omega) (by omega) (by omega)
  have far : ∃ v : Int, 2 ≤ v ∧ v ≤ 1000000000000 ∧ xst Γ (.asg 3 (.ix (.lstE (.cons (.int 2) (.cons (.int 3) (.cons (.int 4) (.cons (.int 7) (.cons (.bin .pow (.int 10) (.int 12)) (.nil))))))) (.call i (.cons (.var 0) (.cons (.int 5) (.nil)))))) [some ⟨.bor, src s c n⟩, some ⟨.fz, .int h⟩, some ⟨.own, .lst []⟩, none, none] = .nx [some ⟨.bor, src s1 c n1⟩, some ⟨.fz, .int h⟩, some ⟨.own, .lst []⟩, some ⟨.fz, .int v⟩, none] := by
    have : r1 = 0 ∨ r1 = 1 ∨ r1 = 2 ∨ r1 = 3 ∨ r1 = 4 := by omega
    rcases this with z | z | z | z | z <;> subst z
    · exact ⟨2, by decide, by decide, by simp [mkFn, xst, ev, evs, evi, initE, endE, outE, Env.cell, Env.put, Env.nx, clear?, BV.rd, BV.esc, BV.keep, BV.giveBack, T.cellOf, escAll, rdAll, keepAll, T.putAll, Res.bind_ok, Res.opt_some, Res.out_ok, Option.bind, Option.map, binD, divOk, cmpD, truD, ixD, toInt, toBl, bvOf, biD, sizeLine, isTyD, isT, D.dt, isNon, isLs, writable, T.assign, itemsD, Option.join, List.getElem?_cons_zero, List.getElem?_cons_succ, List.getElem?_nil, List.set_cons_zero, List.set_cons_succ, List.length_cons, List.length_nil, List.cons_append, List.nil_append, List.append_nil, List.replicate, callF, passIo, List.eraseIdx, List.insertIdx_zero, List.insertIdx_succ_cons, T.forGo, rangeD, in62, ixN, atI, Stt.mut, hΓ, f1, f2, e1]⟩
    · exact ⟨3, by decide, by decide, by simp [mkFn, xst, ev, evs, evi, initE, endE, outE, Env.cell, Env.put, Env.nx, clear?, BV.rd, BV.esc, BV.keep, BV.giveBack, T.cellOf, escAll, rdAll, keepAll, T.putAll, Res.bind_ok, Res.opt_some, Res.out_ok, Option.bind, Option.map, binD, divOk, cmpD, truD, ixD, toInt, toBl, bvOf, biD, sizeLine, isTyD, isT, D.dt, isNon, isLs, writable, T.assign, itemsD, Option.join, List.getElem?_cons_zero, List.getElem?_cons_succ, List.getElem?_nil, List.set_cons_zero, List.set_cons_succ, List.length_cons, List.length_nil, List.cons_append, List.nil_append, List.append_nil, List.replicate, callF, passIo, List.eraseIdx, List.insertIdx_zero, List.insertIdx_succ_cons, T.forGo, rangeD, in62, ixN, atI, Stt.mut, hΓ, f1, f2, e1]⟩
    · exact ⟨4, by decide, by decide, by simp [mkFn, xst, ev, evs, evi, initE, endE, outE, Env.cell, Env.put, Env.nx, clear?, BV.rd, BV.esc, BV.keep, BV.giveBack, T.cellOf, escAll, rdAll, keepAll, T.putAll, Res.bind_ok, Res.opt_some, Res.out_ok, Option.bind, Option.map, binD, divOk, cmpD, truD, ixD, toInt, toBl, bvOf, biD, sizeLine, isTyD, isT, D.dt, isNon, isLs, writable, T.assign, itemsD, Option.join, List.getElem?_cons_zero, List.getElem?_cons_succ, List.getElem?_nil, List.set_cons_zero, List.set_cons_succ, List.length_cons, List.length_nil, List.cons_append, List.nil_append, List.append_nil, List.replicate, callF, passIo, List.eraseIdx, List.insertIdx_zero, List.insertIdx_succ_cons, T.forGo, rangeD, in62, ixN, atI, Stt.mut, hΓ, f1, f2, e1]⟩
    · exact ⟨7, by decide, by decide, by simp [mkFn, xst, ev, evs, evi, initE, endE, outE, Env.cell, Env.put, Env.nx, clear?, BV.rd, BV.esc, BV.keep, BV.giveBack, T.cellOf, escAll, rdAll, keepAll, T.putAll, Res.bind_ok, Res.opt_some, Res.out_ok, Option.bind, Option.map, binD, divOk, cmpD, truD, ixD, toInt, toBl, bvOf, biD, sizeLine, isTyD, isT, D.dt, isNon, isLs, writable, T.assign, itemsD, Option.join, List.getElem?_cons_zero, List.getElem?_cons_succ, List.getElem?_nil, List.set_cons_zero, List.set_cons_succ, List.length_cons, List.length_nil, List.cons_append, List.nil_append, List.append_nil, List.replicate, callF, passIo, List.eraseIdx, List.insertIdx_zero, List.insertIdx_succ_cons, T.forGo, rangeD, in62, ixN, atI, Stt.mut, hΓ, f1, f2, e1]⟩
    · exact ⟨1000000000000, by decide, by decide, by simp [mkFn, xst, ev, evs, evi, initE, endE, outE, Env.cell, Env.put, Env.nx, clear?, BV.rd, BV.esc, BV.keep, BV.giveBack, T.cellOf, escAll, rdAll, keepAll, T.putAll, Res.bind_ok, Res.opt_some, Res.out_ok, Option.bind, Option.map, binD, divOk, cmpD, truD, ixD, toInt, toBl, bvOf, biD, sizeLine, isTyD, isT, D.dt, isNon, isLs, writable, T.assign, itemsD, Option.join, List.getElem?_cons_zero, List.getElem?_cons_succ, List.getElem?_nil, List.set_cons_zero, List.set_cons_succ, List.length_cons, List.length_nil, List.cons_append, List.nil_append, List.append_nil, List.replicate, callF, passIo, List.eraseIdx, List.insertIdx_zero, List.insertIdx_succ_cons, T.forGo, rangeD, in62, ixN, atI, Stt.mut, hΓ, f1, f2, e1]⟩
  obtain ⟨v, v1, v2, v3⟩ := far
  have loop := for_nx (Γ := Γ) (tg := .nm 4) (it := .range1 (.call i (.cons (.var 0) (.cons (.bin .add (.var 1) (.int 1)) .nil))))
    (body := .cons (.app 2 (.bin .add (.int 2) (.call i (.cons (.var 0) (.cons (.var 3) .nil))))) .nil) (c := [some ⟨.bor, src s1 c n1⟩, some ⟨.fz, .int h⟩, some ⟨.own, .lst []⟩, some ⟨.fz, .int v⟩, none])
    (fun j cc => ∃ (s' n' : Int) (es : List Int) (kk : Option Cell), cc = [some ⟨.bor, src s' c n'⟩, some ⟨.fz, .int h⟩, some ⟨.own, .lst (es.map D.int)⟩, some ⟨.fz, .int v⟩, kk] ∧ T.clear? kk = true ∧ es.length = j ∧ (∀ e ∈ es, (2 : Int) ≤ e ∧ e < 2 ^ 50) ∧ n ≤ n' ∧ n' ≤ n + 2 + j)
    (rangeD 0 r2.toNat) [some ⟨.bor, src s2 c n2⟩, some ⟨.fz, .int h⟩, some ⟨.own, .lst []⟩, some ⟨.fz, .int v⟩, none]
    (by
      have : (-4611686018427387904 : Int) ≤ r2 := by omega
      have h2 : r2 < (4611686018427387904 : Int) := by omega
      simp [mkFn, xst, ev, evs, evi, initE, endE, outE, Env.cell, Env.put, Env.nx, clear?, BV.rd, BV.esc, BV.keep, BV.giveBack, T.cellOf, escAll, rdAll, keepAll, T.putAll, Res.bind_ok, Res.opt_some, Res.out_ok, Option.bind, Option.map, binD, divOk, cmpD, truD, ixD, toInt, toBl, bvOf, biD, sizeLine, isTyD, isT, D.dt, isNon, isLs, writable, T.assign, itemsD, Option.join, List.getElem?_cons_zero, List.getElem?_cons_succ, List.getElem?_nil, List.set_cons_zero, List.set_cons_succ, List.length_cons, List.length_nil, List.cons_append, List.nil_append, List.append_nil, List.replicate, callF, passIo, List.eraseIdx, List.insertIdx_zero, List.insertIdx_succ_cons, T.forGo, rangeD, in62, ixN, atI, Stt.mut, hΓ, f1, f2, e2, this, h2])
    ⟨s2, n2, [], none, rfl, rfl, rfl, by simp, by omega, by omega⟩
    (fun j x cc hj hI => by
      obtain ⟨s', n', es, kk, rfl, hk, hl, he, hn1, hn2⟩ := hI
      have hjr : j < r2.toNat := by
        have := (List.getElem?_eq_some_iff.mp hj).1
        rw [rangeD_length] at this
        exact this
      obtain ⟨r, s3, n3, e3, a3, b3, g3, k3⟩ := f3 s' c n' v (by omega) (by omega) (by omega) (by omega)
      have hx := rangeD_get _ _ _ _ hj
      subst hx
      refine ⟨[some ⟨.bor, src s' c n'⟩, some ⟨.fz, .int h⟩, some ⟨.own, .lst (es.map D.int)⟩, some ⟨.fz, .int v⟩, some ⟨.fz, .int (0 + j)⟩], [some ⟨.bor, src s3 c n3⟩, some ⟨.fz, .int h⟩, some ⟨.own, .lst ((es ++ [2 + r]).map D.int)⟩, some ⟨.fz, .int v⟩, some ⟨.fz, .int (0 + j)⟩], ?_, ?_, s3, n3, es ++ [2 + r], _, rfl, rfl, by simp [hl], ?_, by omega, by omega⟩
      · simp only [T.assign, Env.put, Env.cell, List.getElem?_cons_succ, List.getElem?_cons_zero, Option.join, hk]
        simp [hk]
      · have hlen : es.length < 16777216 := by omega
        simp [mkFn, xst, ev, evs, evi, initE, endE, outE, Env.cell, Env.put, Env.nx, clear?, BV.rd, BV.esc, BV.keep, BV.giveBack, T.cellOf, escAll, rdAll, keepAll, T.putAll, Res.bind_ok, Res.opt_some, Res.out_ok, Option.bind, Option.map, binD, divOk, cmpD, truD, ixD, toInt, toBl, bvOf, biD, sizeLine, isTyD, isT, D.dt, isNon, isLs, writable, T.assign, itemsD, Option.join, List.getElem?_cons_zero, List.getElem?_cons_succ, List.getElem?_nil, List.set_cons_zero, List.set_cons_succ, List.length_cons, List.length_nil, List.cons_append, List.nil_append, List.append_nil, List.replicate, callF, passIo, List.eraseIdx, List.insertIdx_zero, List.insertIdx_succ_cons, T.forGo, rangeD, in62, ixN, atI, Stt.mut, hΓ, f1, f2, e3, hlen]
      · intro e hm
        rw [List.mem_append, List.mem_singleton] at hm
        rcases hm with hm | hm
        · exact he e hm
        · subst hm; constructor <;> omega)
  obtain ⟨c', e, s', n', es, kk, rfl, hk, hl, he, hn1, hn2⟩ := loop
  rw [rangeD_length] at hl hn2
  refine ⟨es, s', n', ?_, by omega, he, by omega, by omega⟩
  refine (run_eq rfl).trans ?_
  unfold c__law_rounds
  rw [seq_nx [some ⟨.bor, src s c n⟩, some ⟨.fz, .int h⟩, some ⟨.own, .lst []⟩, none, none] (by simp [mkFn, xst, ev, evs, evi, initE, endE, outE, Env.cell, Env.put, Env.nx, clear?, BV.rd, BV.esc, BV.keep, BV.giveBack, T.cellOf, escAll, rdAll, keepAll, T.putAll, Res.bind_ok, Res.opt_some, Res.out_ok, Option.bind, Option.map, binD, divOk, cmpD, truD, ixD, toInt, toBl, bvOf, biD, sizeLine, isTyD, isT, D.dt, isNon, isLs, writable, T.assign, itemsD, Option.join, List.getElem?_cons_zero, List.getElem?_cons_succ, List.getElem?_nil, List.set_cons_zero, List.set_cons_succ, List.length_cons, List.length_nil, List.cons_append, List.nil_append, List.append_nil, List.replicate, callF, passIo, List.eraseIdx, List.insertIdx_zero, List.insertIdx_succ_cons, T.forGo, rangeD, in62, ixN, atI, Stt.mut])]
  rw [seq_nx _ v3]
  rw [seq_nx _ e]
  simp [mkFn, xst, ev, evs, evi, initE, endE, outE, Env.cell, Env.put, Env.nx, clear?, BV.rd, BV.esc, BV.keep, BV.giveBack, T.cellOf, escAll, rdAll, keepAll, T.putAll, Res.bind_ok, Res.opt_some, Res.out_ok, Option.bind, Option.map, binD, divOk, cmpD, truD, ixD, toInt, toBl, bvOf, biD, sizeLine, isTyD, isT, D.dt, isNon, isLs, writable, T.assign, itemsD, Option.join, List.getElem?_cons_zero, List.getElem?_cons_succ, List.getElem?_nil, List.set_cons_zero, List.set_cons_succ, List.length_cons, List.length_nil, List.cons_append, List.nil_append, List.append_nil, List.replicate, callF, passIo, List.eraseIdx, List.insertIdx_zero, List.insertIdx_succ_cons, T.forGo, rangeD, in62, ixN, atI, Stt.mut]
end Lw


set_option Elab.async false
set_option linter.all false
set_option maxRecDepth 100000
set_option maxHeartbeats 1000000
namespace Lw
open PySem PySem.Spec PyProof.Rows L2 T
theorem eqD_int (i j : Int) : eqD (.int i) (.int j) = some (decide (i = j)) := by
  have h : ∀ k : Int, SeqAt.shaped (.int k) = true := fun k => by unfold SeqAt.shaped; rfl
  unfold eqD
  rw [if_pos (by simp [D.noDic, D.toPy, h])]
  simp only [D.toPy, PyData.eqv]
  rfl
theorem ints_noDic : ∀ xs : List Int, D.noDics (xs.map D.int) = true
  | [] => by simp [D.noDics]
  | x :: xs => by simp [D.noDics, D.noDic, ints_noDic xs]
theorem ints_lay : ∀ xs : List Int, PyData.canLayAll0 (D.toPys (xs.map D.int)) = true
  | [] => by simp [D.toPys, PyData.canLayAll0]
  | x :: xs => by simp [D.toPys, D.toPy, PyData.canLayAll0, PyData.canLay0, ints_lay xs]
theorem ints_depth : ∀ xs : List Int, PyData.depthAll (D.toPys (xs.map D.int)) = 0
  | [] => by simp [D.toPys, PyData.depthAll]
  | x :: xs => by simp [D.toPys, D.toPy, PyData.depthAll, PyData.depth, ints_depth xs]
theorem ints_eqv : ∀ xs ys : List Int, PyData.eqvAll (D.toPys (xs.map D.int)) (D.toPys (ys.map D.int)) = decide (xs = ys)
  | [], [] => by simp [D.toPys, PyData.eqvAll]
  | [], _ :: _ => by simp [D.toPys, PyData.eqvAll]
  | _ :: _, [] => by simp [D.toPys, PyData.eqvAll]
  | x :: xs, y :: ys => by
    simp only [List.map_cons, D.toPys, D.toPy, PyData.eqvAll, PyData.eqv, ints_eqv xs ys]
    by_cases h : x = y <;> by_cases h2 : xs = ys <;> simp [h, h2]
theorem eqD_tup (xs ys : List Int) : eqD (.tup (xs.map D.int)) (.tup (ys.map D.int)) = some (decide (xs = ys)) := by
  have h : ∀ zs : List Int, SeqAt.shaped (D.tup (zs.map D.int)).toPy = true := fun zs => by
    simp [SeqAt.shaped, D.toPy, PyData.canLay0, PyData.depth, ints_lay, ints_depth]
  unfold eqD
  rw [if_pos (by simp [D.noDic, h, ints_noDic])]
  simp only [D.toPy, PyData.eqv, ints_eqv]
theorem eqD_lst (xs ys : List Int) : eqD (.lst (xs.map D.int)) (.lst (ys.map D.int)) = some (decide (xs = ys)) := by
  have h : ∀ zs : List Int, SeqAt.shaped (D.lst (zs.map D.int)).toPy = true := fun zs => by
    simp [SeqAt.shaped, D.toPy, PyData.canLay0, PyData.depth, ints_lay, ints_depth]
  unfold eqD
  rw [if_pos (by simp [D.noDic, h, ints_noDic])]
  simp only [D.toPy, PyData.eqv, ints_eqv]
def PeopleOk (F : Fn) : Prop := F.ar = 2 ∧ F.io = some 0 ∧ ∀ s c n h : Int, 0 ≤ n → n < 80000000 → 0 ≤ h → h ≤ 1000 →
  ∃ (es : List Int) (s' n' : Int), F.run [src s c n, .int h] = .ret false (.tup (es.map D.int)) (src s' c n') ∧ (es.length : Int) ≤ h ∧ (∀ e ∈ es, (0 : Int) ≤ e ∧ e < 2 ^ 120) ∧ n ≤ n' ∧ n' ≤ n + 7 * h + 2
theorem ok_people {Γ : Nat → Option Fn} {i j : Nat} {F B : Fn} (hΓ : Γ i = some F) (hF : TakeOk F) (hΓ2 : Γ j = some B) (hB : BigOk B) : PeopleOk (mkFn Γ 2 6 (some 0) (c__law_people i j)) := by
  obtain ⟨f1, f2, f3⟩ := hF
  obtain ⟨b1, b2, b3⟩ := hB
  refine ⟨rfl, rfl, fun s c n h h0 h1 hh0 hh1 => ?_⟩
  obtain ⟨w, s1, n1, e1, wa, wb, g1, k1⟩ := f3 s c n 4 h0 (by omega) (by omega) (by omega)
  obtain ⟨r2, s2, n2, e2, a2, b2', g2, k2⟩ := f3 s1 c n1 (h + 1) (by omega) (by omega) (by omega) (by omega)
  have loop := for_nx (Γ := Γ) (tg := .nm 4) (it := .range1 (.call i (.cons (.var 0) (.cons (.bin .add (.var 1) (.int 1)) .nil))))
    (body := .cons (.asg 5 (.lstE (.cons (.call i (.cons (.var 0) (.cons (.int 4) (.nil)))) (.cons (.call i (.cons (.var 0) (.cons (.int 40) (.nil)))) (.cons (.call j (.cons (.var 0) (.nil))) (.cons (.bi .int (.cons (.cmp .eq (.call i (.cons (.var 0) (.cons (.int 5) (.nil)))) (.int 0)) (.nil))) (.nil))))))) (.cons (.app 3 (.ix (.var 5) (.var 2))) (.nil)))
    (c := [some ⟨.bor, src s1 c n1⟩, some ⟨.fz, .int h⟩, some ⟨.fz, .int w⟩, some ⟨.own, .lst []⟩, none, none])
    (fun j cc => ∃ (s' n' : Int) (es : List Int) (kk ll : Option Cell), cc = [some ⟨.bor, src s' c n'⟩, some ⟨.fz, .int h⟩, some ⟨.fz, .int w⟩, some ⟨.own, .lst (es.map D.int)⟩, kk, ll] ∧ T.clear? kk = true ∧ T.clear? ll = true ∧ es.length = j ∧ (∀ e ∈ es, (0 : Int) ≤ e ∧ e < 2 ^ 120) ∧ n ≤ n' ∧ n' ≤ n + 2 + 7 * j)
    (rangeD 0 r2.toNat) [some ⟨.bor, src s2 c n2⟩, some ⟨.fz, .int h⟩, some ⟨.fz, .int w⟩, some ⟨.own, .lst []⟩, none, none]
    (by
      have : (-4611686018427387904 : Int) ≤ r2 := by omega
      have h2 : r2 < (4611686018427387904 : Int) := by omega
      simp [mkFn, xst, ev, evs, evi, initE, endE, outE, Env.cell, Env.put, Env.nx, clear?, BV.rd, BV.esc, BV.keep, BV.giveBack, T.cellOf, escAll, rdAll, keepAll, T.putAll, Res.bind_ok, Res.opt_some, Res.out_ok, Option.bind, Option.map, binD, divOk, cmpD, truD, ixD, toInt, toBl, bvOf, biD, sizeLine, isTyD, isT, D.dt, isNon, isLs, writable, T.assign, itemsD, Option.join, List.getElem?_cons_zero, List.getElem?_cons_succ, List.getElem?_nil, List.set_cons_zero, List.set_cons_succ, List.length_cons, List.length_nil, List.cons_append, List.nil_append, List.append_nil, List.replicate, callF, passIo, List.eraseIdx, List.insertIdx_zero, List.insertIdx_succ_cons, T.forGo, rangeD, in62, ixN, atI, Stt.mut, hΓ, f1, f2, e2, this, h2])
    ⟨s2, n2, [], none, none, rfl, rfl, rfl, rfl, by simp, by omega, by omega⟩
    (fun m x cc hj hI => by
      obtain ⟨s', n', es, kk, ll, rfl, hk, hl', hl, he, hn1, hn2⟩ := hI
      have hjr : m < r2.toNat := by
        have := (List.getElem?_eq_some_iff.mp hj).1
        rw [rangeD_length] at this
        exact this
      obtain ⟨p3, s3, n3, e3, a3, b3', g3, k3⟩ := f3 s' c n' 4 (by omega) (by omega) (by omega) (by omega)
      obtain ⟨p4, s4, n4, e4, a4, b4, g4, k4⟩ := f3 s3 c n3 40 (by omega) (by omega) (by omega) (by omega)
      obtain ⟨p5, s5, n5, e5, a5, b5, g5, k5⟩ := b3 s4 c n4 (by omega) (by omega)
      obtain ⟨p6, s6, n6, e6, a6, b6, g6, k6⟩ := f3 s5 c n5 5 (by omega) (by omega) (by omega) (by omega)
      have hx := rangeD_get _ _ _ _ hj
      subst hx
      have pick : ∃ v : Int, 0 ≤ v ∧ v < 2 ^ 120 ∧ atI [D.int p3, D.int p4, D.int p5, D.int (if p6 = 0 then 1 else 0)] w = some (.int v) := by
        have : w = 0 ∨ w = 1 ∨ w = 2 ∨ w = 3 := by omega
        rcases this with z | z | z | z <;> subst z
        · exact ⟨p3, a3, by omega, rfl⟩
        · exact ⟨p4, a4, by omega, rfl⟩
        · exact ⟨p5, a5, by omega, rfl⟩
        · exact ⟨_, by split <;> decide, by split <;> decide, rfl⟩
      obtain ⟨v, v1, v2, v3⟩ := pick
      refine ⟨[some ⟨.bor, src s' c n'⟩, some ⟨.fz, .int h⟩, some ⟨.fz, .int w⟩, some ⟨.own, .lst (es.map D.int)⟩, some ⟨.fz, .int (0 + m)⟩, ll],
        [some ⟨.bor, src s6 c n6⟩, some ⟨.fz, .int h⟩, some ⟨.fz, .int w⟩, some ⟨.own, .lst ((es ++ [v]).map D.int)⟩, some ⟨.fz, .int (0 + m)⟩, some ⟨.own, .lst [D.int p3, D.int p4, D.int p5, D.int (if p6 = 0 then 1 else 0)]⟩], ?_, ?_, s6, n6, es ++ [v], _, _, rfl, rfl, rfl, by simp [hl], ?_, by omega, by omega⟩
      · simp only [T.assign, Env.put, Env.cell, List.getElem?_cons_succ, List.getElem?_cons_zero, Option.join, hk]
        simp [hk]
      · have hlen : es.length < 16777216 := by omega
        rw [seq_nx [some ⟨.bor, src s6 c n6⟩, some ⟨.fz, .int h⟩, some ⟨.fz, .int w⟩, some ⟨.own, .lst (es.map D.int)⟩, some ⟨.fz, .int (0 + m)⟩, some ⟨.own, .lst [D.int p3, D.int p4, D.int p5, D.int (if p6 = 0 then 1 else 0)]⟩] ?_]
        · have ha : ixD (.lst [D.int p3, D.int p4, D.int p5, D.int (if p6 = 0 then 1 else 0)]) (.int w) = some (.int v) := v3
          generalize [D.int p3, D.int p4, D.int p5, D.int (if p6 = 0 then 1 else 0)] = L at ha ⊢
          have hlen2 : es.length < sizeLine := by unfold sizeLine; omega
          simp [xst, ev, writable, Env.cell, BV.rd, ha, hlen2, BV.esc]
        · have hl2 := hl'
          simp only [T.clear?] at hl2
          have hput : Env.put [some ⟨.bor, src s6 c n6⟩, some ⟨.fz, .int h⟩, some ⟨.fz, .int w⟩, some ⟨.own, .lst (es.map D.int)⟩, some ⟨.fz, .int (0 + m)⟩, ll] 5 ⟨.own, .lst [D.int p3, D.int p4, D.int p5, D.int (if p6 = 0 then 1 else 0)]⟩ = some [some ⟨.bor, src s6 c n6⟩, some ⟨.fz, .int h⟩, some ⟨.fz, .int w⟩, some ⟨.own, .lst (es.map D.int)⟩, some ⟨.fz, .int (0 + m)⟩, some ⟨.own, .lst [D.int p3, D.int p4, D.int p5, D.int (if p6 = 0 then 1 else 0)]⟩] := by
            simp only [Env.put, Env.cell, List.getElem?_cons_succ, List.getElem?_cons_zero, Option.join]
            simp [hl']
          have hev : ev Γ (.lstE (.cons (.call i (.cons (.var 0) (.cons (.int 4) (.nil)))) (.cons (.call i (.cons (.var 0) (.cons (.int 40) (.nil)))) (.cons (.call j (.cons (.var 0) (.nil))) (.cons (.bi .int (.cons (.cmp .eq (.call i (.cons (.var 0) (.cons (.int 5) (.nil)))) (.int 0)) (.nil))) (.nil)))))) [some ⟨.bor, src s' c n'⟩, some ⟨.fz, .int h⟩, some ⟨.fz, .int w⟩, some ⟨.own, .lst (es.map D.int)⟩, some ⟨.fz, .int (0 + m)⟩, ll] = .ok (.fr (.lst [D.int p3, D.int p4, D.int p5, D.int (if p6 = 0 then 1 else 0)])) [some ⟨.bor, src s6 c n6⟩, some ⟨.fz, .int h⟩, some ⟨.fz, .int w⟩, some ⟨.own, .lst (es.map D.int)⟩, some ⟨.fz, .int (0 + m)⟩, ll] := by
            simp [mkFn, xst, ev, evs, evi, initE, endE, outE, Env.cell, Env.put, Env.nx, clear?, BV.rd, BV.esc, BV.keep, BV.giveBack, T.cellOf, escAll, rdAll, keepAll, T.putAll, Res.bind_ok, Res.opt_some, Res.out_ok, Option.bind, Option.map, binD, divOk, cmpD, truD, ixD, toInt, toBl, bvOf, biD, sizeLine, isTyD, isT, D.dt, isNon, isLs, writable, T.assign, itemsD, Option.join, List.getElem?_cons_zero, List.getElem?_cons_succ, List.getElem?_nil, List.set_cons_zero, List.set_cons_succ, List.length_cons, List.length_nil, List.cons_append, List.nil_append, List.append_nil, List.replicate, callF, passIo, List.eraseIdx, List.insertIdx_zero, List.insertIdx_succ_cons, T.forGo, rangeD, in62, ixN, atI, Stt.mut, hΓ, f1, f2, hΓ2, b1, b2, e3, e4, e5, e6, eqD_int]
          simp only [xst, hev, Res.out_ok, BV.keep, T.cellOf, if_true, hput, Env.nx]
      · intro e hm
        rw [List.mem_append, List.mem_singleton] at hm
        rcases hm with hm | hm
        · exact he e hm
        · subst hm; exact ⟨v1, v2⟩)
  obtain ⟨c', e, s', n', es, kk, ll, rfl, hk, hl', hl, he, hn1, hn2⟩ := loop
  rw [rangeD_length] at hl hn2
  refine ⟨es, s', n', ?_, by omega, he, by omega, by omega⟩
  refine (run_eq rfl).trans ?_
  unfold c__law_people
  rw [seq_nx [some ⟨.bor, src s1 c n1⟩, some ⟨.fz, .int h⟩, some ⟨.fz, .int w⟩, none, none, none] (by simp [mkFn, xst, ev, evs, evi, initE, endE, outE, Env.cell, Env.put, Env.nx, clear?, BV.rd, BV.esc, BV.keep, BV.giveBack, T.cellOf, escAll, rdAll, keepAll, T.putAll, Res.bind_ok, Res.opt_some, Res.out_ok, Option.bind, Option.map, binD, divOk, cmpD, truD, ixD, toInt, toBl, bvOf, biD, sizeLine, isTyD, isT, D.dt, isNon, isLs, writable, T.assign, itemsD, Option.join, List.getElem?_cons_zero, List.getElem?_cons_succ, List.getElem?_nil, List.set_cons_zero, List.set_cons_succ, List.length_cons, List.length_nil, List.cons_append, List.nil_append, List.append_nil, List.replicate, callF, passIo, List.eraseIdx, List.insertIdx_zero, List.insertIdx_succ_cons, T.forGo, rangeD, in62, ixN, atI, Stt.mut, hΓ, f1, f2, e1])]
  rw [seq_nx [some ⟨.bor, src s1 c n1⟩, some ⟨.fz, .int h⟩, some ⟨.fz, .int w⟩, some ⟨.own, .lst []⟩, none, none] (by simp [mkFn, xst, ev, evs, evi, initE, endE, outE, Env.cell, Env.put, Env.nx, clear?, BV.rd, BV.esc, BV.keep, BV.giveBack, T.cellOf, escAll, rdAll, keepAll, T.putAll, Res.bind_ok, Res.opt_some, Res.out_ok, Option.bind, Option.map, binD, divOk, cmpD, truD, ixD, toInt, toBl, bvOf, biD, sizeLine, isTyD, isT, D.dt, isNon, isLs, writable, T.assign, itemsD, Option.join, List.getElem?_cons_zero, List.getElem?_cons_succ, List.getElem?_nil, List.set_cons_zero, List.set_cons_succ, List.length_cons, List.length_nil, List.cons_append, List.nil_append, List.append_nil, List.replicate, callF, passIo, List.eraseIdx, List.insertIdx_zero, List.insertIdx_succ_cons, T.forGo, rangeD, in62, ixN, atI, Stt.mut])]
  rw [seq_nx _ e]
  simp [mkFn, xst, ev, evs, evi, initE, endE, outE, Env.cell, Env.put, Env.nx, clear?, BV.rd, BV.esc, BV.keep, BV.giveBack, T.cellOf, escAll, rdAll, keepAll, T.putAll, Res.bind_ok, Res.opt_some, Res.out_ok, Option.bind, Option.map, binD, divOk, cmpD, truD, ixD, toInt, toBl, bvOf, biD, sizeLine, isTyD, isT, D.dt, isNon, isLs, writable, T.assign, itemsD, Option.join, List.getElem?_cons_zero, List.getElem?_cons_succ, List.getElem?_nil, List.set_cons_zero, List.set_cons_succ, List.length_cons, List.length_nil, List.cons_append, List.nil_append, List.append_nil, List.replicate, callF, passIo, List.eraseIdx, List.insertIdx_zero, List.insertIdx_succ_cons, T.forGo, rangeD, in62, ixN, atI, Stt.mut]
end Lw


set_option Elab.async false
set_option linter.all false
set_option maxRecDepth 100000
set_option maxHeartbeats 1000000
namespace Lw
open PySem PySem.Spec PyProof.Rows L2 T
theorem gcd_loop {t : T.Env → Res Bool} {f : T.Env → Out} (ht : ∀ a b : Nat, t [some ⟨.fz, .int a⟩, some ⟨.fz, .int b⟩] = .ok (decide (b ≠ 0)) [some ⟨.fz, .int a⟩, some ⟨.fz, .int b⟩])
    (hf : ∀ a b : Nat, 0 < b → f [some ⟨.fz, .int a⟩, some ⟨.fz, .int b⟩] = .nx [some ⟨.fz, .int b⟩, some ⟨.fz, .int ((a % b : Nat) : Int)⟩]) : ∀ (k b a : Nat), b ≤ k → ∃ n, T.whGo t f n [some ⟨.fz, .int a⟩, some ⟨.fz, .int b⟩] = some (.nx [some ⟨.fz, .int ((Nat.gcd a b : Nat) : Int)⟩, some ⟨.fz, .int 0⟩])
  | k, 0, a, _ => ⟨1, by
    have h := ht a 0
    simp only [ne_eq, not_true_eq_false, decide_false] at h
    unfold T.whGo
    rw [h]
    simp⟩
  | 0, b + 1, a, h => absurd h (by omega)
  | k + 1, b + 1, a, h => by
    obtain ⟨n, e⟩ := gcd_loop ht hf k (a % (b + 1)) (b + 1) (by have h3 : a % (b + 1) < b + 1 := Nat.mod_lt a (Nat.succ_pos b); omega)
    refine ⟨n + 1, ?_⟩
    have h1 := ht a (b + 1)
    rw [decide_eq_true (by omega)] at h1
    have h2 := hf a (b + 1) (by omega)
    unfold T.whGo
    rw [h1]
    simp only
    rw [h2]
    simp only
    rw [e]
    congr 6
    rw [Nat.gcd_comm a, Nat.gcd_rec (b + 1) a, Nat.gcd_comm]
def GcdOk (F : Fn) : Prop := F.ar = 2 ∧ F.io = none ∧ ∀ a b : Nat, F.run [.int a, .int b] = .ret false (.int (Nat.gcd a b : Nat)) .non
theorem gcd_body (Γ : Nat → Option Fn) (a b : Nat) : xst Γ (.whl (.cmp .ne (.var 1) (.int 0)) (.cons (.par [0, 1] (.cons (.var 1) (.cons (.bin .mod (.var 0) (.var 1)) (.nil)))) (.nil))) [some ⟨.fz, .int a⟩, some ⟨.fz, .int b⟩] = .nx [some ⟨.fz, .int ((Nat.gcd a b : Nat) : Int)⟩, some ⟨.fz, .int 0⟩] := by
  simp only [xst]
  obtain ⟨n, e⟩ := gcd_loop (t := fun c => (ev Γ (.cmp .ne (.var 1) (.int 0)) c).bind fun x c => Res.opt ((x.rd c).bind toBl) c) (f := fun c => xst Γ (.cons (.par [0, 1] (.cons (.var 1) (.cons (.bin .mod (.var 0) (.var 1)) (.nil)))) (.nil)) c)
    (fun a b => by simp [mkFn, xst, ev, evs, evi, initE, endE, outE, Env.cell, Env.put, Env.nx, clear?, BV.rd, BV.esc, BV.keep, BV.giveBack, T.cellOf, escAll, rdAll, keepAll, T.putAll, Res.bind_ok, Res.opt_some, Res.out_ok, Option.bind, Option.map, binD, divOk, cmpD, truD, ixD, toInt, toBl, bvOf, biD, sizeLine, isTyD, isT, D.dt, isNon, isLs, writable, T.assign, itemsD, Option.join, List.getElem?_cons_zero, List.getElem?_cons_succ, List.getElem?_nil, List.set_cons_zero, List.set_cons_succ, List.length_cons, List.length_nil, List.cons_append, List.nil_append, List.append_nil, List.replicate, callF, passIo, List.eraseIdx, List.insertIdx_zero, List.insertIdx_succ_cons, T.forGo, rangeD, in62, ixN, atI, Stt.mut, eqD_int]) (fun a b hb => by
      have : (0 : Int) < b := by omega
      simp [mkFn, xst, ev, evs, evi, initE, endE, outE, Env.cell, Env.put, Env.nx, clear?, BV.rd, BV.esc, BV.keep, BV.giveBack, T.cellOf, escAll, rdAll, keepAll, T.putAll, Res.bind_ok, Res.opt_some, Res.out_ok, Option.bind, Option.map, binD, divOk, cmpD, truD, ixD, toInt, toBl, bvOf, biD, sizeLine, isTyD, isT, D.dt, isNon, isLs, writable, T.assign, itemsD, Option.join, List.getElem?_cons_zero, List.getElem?_cons_succ, List.getElem?_nil, List.set_cons_zero, List.set_cons_succ, List.length_cons, List.length_nil, List.cons_append, List.nil_append, List.append_nil, List.replicate, callF, passIo, List.eraseIdx, List.insertIdx_zero, List.insertIdx_succ_cons, T.forGo, rangeD, in62, ixN, atI, Stt.mut, hb, this]) b b a (Nat.le_refl b)
  exact whL_eq e
theorem ok_gcd0 (Γ : Nat → Option Fn) : GcdOk (mkFn Γ 2 2 none c__law_gcd) := by
  refine ⟨rfl, rfl, fun a b => (run_eq rfl).trans ?_⟩
  unfold c__law_gcd
  show endE none (xst Γ (.cons _ (.cons _ .nil)) [some ⟨.fz, .int a⟩, some ⟨.fz, .int b⟩]) = _
  rw [seq_nx _ (gcd_body Γ a b)]
  simp [mkFn, xst, ev, evs, evi, initE, endE, outE, Env.cell, Env.put, Env.nx, clear?, BV.rd, BV.esc, BV.keep, BV.giveBack, T.cellOf, escAll, rdAll, keepAll, T.putAll, Res.bind_ok, Res.opt_some, Res.out_ok, Option.bind, Option.map, binD, divOk, cmpD, truD, ixD, toInt, toBl, bvOf, biD, sizeLine, isTyD, isT, D.dt, isNon, isLs, writable, T.assign, itemsD, Option.join, List.getElem?_cons_zero, List.getElem?_cons_succ, List.getElem?_nil, List.set_cons_zero, List.set_cons_succ, List.length_cons, List.length_nil, List.cons_append, List.nil_append, List.append_nil, List.replicate, callF, passIo, List.eraseIdx, List.insertIdx_zero, List.insertIdx_succ_cons, T.forGo, rangeD, in62, ixN, atI, Stt.mut]
theorem ok_gcd1 (Γ : Nat → Option Fn) : GcdOk (mkFn Γ 2 2 none c_greatest_common_divisor) := by
  refine ⟨rfl, rfl, fun a b => (run_eq rfl).trans ?_⟩
  unfold c_greatest_common_divisor
  show endE none (xst Γ (.cons _ (.cons _ .nil)) [some ⟨.fz, .int a⟩, some ⟨.fz, .int b⟩]) = _
  rw [seq_nx _ (gcd_body Γ a b)]
  have : ¬ ((Nat.gcd a b : Nat) : Int) < 0 := by omega
  simp [mkFn, xst, ev, evs, evi, initE, endE, outE, Env.cell, Env.put, Env.nx, clear?, BV.rd, BV.esc, BV.keep, BV.giveBack, T.cellOf, escAll, rdAll, keepAll, T.putAll, Res.bind_ok, Res.opt_some, Res.out_ok, Option.bind, Option.map, binD, divOk, cmpD, truD, ixD, toInt, toBl, bvOf, biD, sizeLine, isTyD, isT, D.dt, isNon, isLs, writable, T.assign, itemsD, Option.join, List.getElem?_cons_zero, List.getElem?_cons_succ, List.getElem?_nil, List.set_cons_zero, List.set_cons_succ, List.length_cons, List.length_nil, List.cons_append, List.nil_append, List.append_nil, List.replicate, callF, passIo, List.eraseIdx, List.insertIdx_zero, List.insertIdx_succ_cons, T.forGo, rangeD, in62, ixN, atI, Stt.mut, this]
def LowOk (F : Fn) : Prop := F.ar = 2 ∧ F.io = none ∧ ∀ a b : Nat, 0 < b → b < 2 ^ 8900 → F.run [.int a, .int b] = .ret false (.tup [.int ((a / Nat.gcd a b : Nat) : Int), .int ((b / Nat.gcd a b : Nat) : Int)]) .non
theorem log_small {g b : Nat} (h0 : 0 < b) (h : b < 2 ^ 8900) (hg : g ∣ b) : 0 < g ∧ g.log2 < 9000 := by
  have g0 := Nat.pos_of_dvd_of_pos hg h0
  refine ⟨g0, (Nat.log2_lt (by omega)).mpr (Nat.lt_of_le_of_lt (Nat.le_of_dvd h0 hg) (Nat.lt_trans h (Nat.pow_lt_pow_right (by decide) (by decide))))⟩
theorem ok_low {Γ : Nat → Option Fn} {i : Nat} {F : Fn} (hΓ : Γ i = some F) (hF : GcdOk F) : LowOk (mkFn Γ 2 3 none (c_lowest_terms i)) := by
  obtain ⟨f1, f2, f3⟩ := hF
  refine ⟨rfl, rfl, fun a b h0 h1 => ?_⟩
  obtain ⟨g0, g1⟩ := log_small h0 h1 (Nat.gcd_dvd_right a b)
  have e := f3 a b
  generalize Nat.gcd a b = g at g0 g1 e ⊢
  have g2 : (0 : Int) < g := by omega
  simp [c_lowest_terms, mkFn, xst, ev, evs, evi, initE, endE, outE, Env.cell, Env.put, Env.nx, clear?, BV.rd, BV.esc, BV.keep, BV.giveBack, T.cellOf, escAll, rdAll, keepAll, T.putAll, Res.bind_ok, Res.opt_some, Res.out_ok, Option.bind, Option.map, binD, divOk, cmpD, truD, ixD, toInt, toBl, bvOf, biD, sizeLine, isTyD, isT, D.dt, isNon, isLs, writable, T.assign, itemsD, Option.join, List.getElem?_cons_zero, List.getElem?_cons_succ, List.getElem?_nil, List.set_cons_zero, List.set_cons_succ, List.length_cons, List.length_nil, List.cons_append, List.nil_append, List.append_nil, List.replicate, callF, passIo, List.eraseIdx, List.insertIdx_zero, List.insertIdx_succ_cons, T.forGo, rangeD, in62, ixN, atI, Stt.mut, hΓ, f1, f2, e, g0, g1, g2]
end Lw


set_option Elab.async false
set_option linter.all false
set_option maxRecDepth 100000
set_option maxHeartbeats 1000000
namespace Lw
open PySem PySem.Spec PyProof.Rows L2 T
def nD (es : List Nat) : List D := es.map fun e : Nat => D.int (e : Int)
theorem lcGo_map {f : D → T.Env → Res (Option D)} (I : T.Env → Prop) (g : D → D) : ∀ (xs : List D) (c : T.Env), (∀ x ∈ xs, ∀ c, I c → ∃ c', f x c = .ok (some (g x)) c' ∧ I c') → I c → ∃ c', T.lcGo f xs c = .ok (xs.map g) c' ∧ I c'
  | [], c, _, h => ⟨c, rfl, h⟩
  | x :: xs, c, hs, h => by
    obtain ⟨c1, e1, h1⟩ := hs x List.mem_cons_self c h
    obtain ⟨c2, e2, h2⟩ := lcGo_map I g xs c1 (fun y hy => hs y (List.mem_cons_of_mem _ hy)) h1
    exact ⟨c2, by simp [T.lcGo, e1, e2], h2⟩
theorem lcGo_inv {f : D → T.Env → Res (Option D)} (I : Nat → List D → T.Env → Prop) : ∀ (xs : List D) (i : Nat) (acc : List D) (c : T.Env), (∀ j x acc c, xs[j]? = some x → I (i + j) acc c → ∃ d c', f x c = .ok (some d) c' ∧ I (i + j + 1) (acc ++ [d]) c') → I i acc c →
    ∃ l c', T.lcGo f xs c = .ok l c' ∧ l.length = xs.length ∧ I (i + xs.length) (acc ++ l) c'
  | [], i, acc, c, _, h => ⟨[], c, rfl, rfl, by simpa using h⟩
  | x :: xs, i, acc, c, hs, h => by
    obtain ⟨d, c1, e1, h1⟩ := hs 0 x acc c rfl h
    obtain ⟨l, c2, e2, hl, h2⟩ := lcGo_inv I xs (i + 1) (acc ++ [d]) c1 (fun j y acc c hj hI => by
      have := hs (j + 1) y acc c hj (by rw [show i + (j + 1) = i + 1 + j by omega]; exact hI)
      rw [show i + (j + 1) + 1 = i + 1 + j + 1 by omega] at this
      exact this) h1
    refine ⟨d :: l, c2, by simp [T.lcGo, e1, e2], by simp [hl], ?_⟩
    rw [List.length_cons, show i + (xs.length + 1) = i + 1 + xs.length by omega]
    simpa using h2
theorem enumD_get : ∀ (xs : List D) (k : Int) (j : Nat) (x : D), (enumD k xs)[j]? = some x → ∃ y, xs[j]? = some y ∧ x = .tup [.int (k + j), y]
  | [], _, _, _, h => by simp [enumD] at h
  | y :: xs, k, 0, x, h => by
    rw [enumD] at h
    cases h
    exact ⟨y, rfl, by simp⟩
  | y :: xs, k, j + 1, x, h => by
    rw [enumD, List.getElem?_cons_succ] at h
    obtain ⟨z, h1, h2⟩ := enumD_get xs (k + 1) j x h
    refine ⟨z, h1, ?_⟩
    rw [h2]
    congr 3
    rw [Int.natCast_succ]
    omega
theorem enumD_length : ∀ (xs : List D) (k : Int), (enumD k xs).length = xs.length
  | [], _ => rfl
  | x :: xs, k => by rw [enumD, List.length_cons, List.length_cons, enumD_length xs]
def IsIntOk (F : Fn) : Prop := F.ar = 1 ∧ F.io = none ∧ ∀ v : Int, F.run [.int v] = .ret false (.bl true) .non
theorem ok_isint (Γ : Nat → Option Fn) : IsIntOk (mkFn Γ 1 1 none c_is_integer) := by
  refine ⟨rfl, rfl, fun v => ?_⟩
  simp [c_is_integer, mkFn, xst, ev, evs, evi, initE, endE, outE, Env.cell, Env.put, Env.nx, clear?, BV.rd, BV.esc, BV.keep, BV.giveBack, T.cellOf, escAll, rdAll, keepAll, T.putAll, Res.bind_ok, Res.opt_some, Res.out_ok, Option.bind, Option.map, binD, divOk, cmpD, truD, ixD, toInt, toBl, bvOf, biD, sizeLine, isTyD, isT, D.dt, isNon, isLs, writable, T.assign, itemsD, Option.join, List.getElem?_cons_zero, List.getElem?_cons_succ, List.getElem?_nil, List.set_cons_zero, List.set_cons_succ, List.length_cons, List.length_nil, List.cons_append, List.nil_append, List.append_nil, List.replicate, callF, passIo, List.eraseIdx, List.insertIdx_zero, List.insertIdx_succ_cons, T.forGo, rangeD, in62, ixN, atI, Stt.mut]
def AtLeastOk (F : Fn) : Prop := F.ar = 2 ∧ F.io = none ∧ ∀ v l : Int, F.run [.int v, .int l] = .ret false (.bl (decide (l ≤ v))) .non
theorem ok_atleast {Γ : Nat → Option Fn} {i : Nat} {F : Fn} (hΓ : Γ i = some F) (hF : IsIntOk F) : AtLeastOk (mkFn Γ 2 2 none (c_is_at_least i)) := by
  obtain ⟨f1, f2, f3⟩ := hF
  refine ⟨rfl, rfl, fun v l => ?_⟩
  simp [c_is_at_least, mkFn, xst, ev, evs, evi, initE, endE, outE, Env.cell, Env.put, Env.nx, clear?, BV.rd, BV.esc, BV.keep, BV.giveBack, T.cellOf, escAll, rdAll, keepAll, T.putAll, Res.bind_ok, Res.opt_some, Res.out_ok, Option.bind, Option.map, binD, divOk, cmpD, truD, ixD, toInt, toBl, bvOf, biD, sizeLine, isTyD, isT, D.dt, isNon, isLs, writable, T.assign, itemsD, Option.join, List.getElem?_cons_zero, List.getElem?_cons_succ, List.getElem?_nil, List.set_cons_zero, List.set_cons_succ, List.length_cons, List.length_nil, List.cons_append, List.nil_append, List.append_nil, List.replicate, callF, passIo, List.eraseIdx, List.insertIdx_zero, List.insertIdx_succ_cons, T.forGo, rangeD, in62, ixN, atI, Stt.mut, hΓ, f1, f2, f3]
/-- a list (true) or a tuple of numbers -/
def sqD (b : Bool) (es : List Nat) : D := if b then .lst (nD es) else .tup (nD es)
theorem sqD_items (b : Bool) (es : List Nat) : itemsD (sqD b es) = some (nD es) := by cases b <;> rfl
theorem clear_fz (d : D) : T.clear? (some ⟨.fz, d⟩) = true := rfl
def ReqSchedOk (F : Fn) : Prop := F.ar = 1 ∧ F.io = none ∧ ∀ (b : Bool) (es : List Nat), (∀ e ∈ es, 2 ≤ e) → es.length ≤ 200 → F.run [sqD b es] = .ret false .non .non
theorem ok_reqsched {Γ : Nat → Option Fn} {i : Nat} {F : Fn} (hΓ : Γ i = some F) (hF : AtLeastOk F) : ReqSchedOk (mkFn Γ 1 3 none (c_require_schedule i)) := by
  obtain ⟨f1, f2, f3⟩ := hF
  refine ⟨rfl, rfl, fun b es he hl => ?_⟩
  have loop := for_nx (Γ := Γ) (tg := .tp (.cons (.nm 1) (.cons (.nm 2) .nil))) (it := .enum (.var 0))
    (body := .cons (.ifS (.nt (.tru (.call i (.cons (.var 2) (.cons (.int 2) .nil))))) (.cons .never .nil) .nil) .nil) (c := [some ⟨.fz, sqD b es⟩, none, none])
    (fun j cc => ∃ kk ll, cc = [some ⟨.fz, sqD b es⟩, kk, ll] ∧ T.clear? kk = true ∧ T.clear? ll = true)
    (enumD 0 (nD es)) [some ⟨.fz, sqD b es⟩, none, none] (by cases b <;> simp [mkFn, xst, ev, evs, evi, initE, endE, outE, Env.cell, Env.put, Env.nx, clear?, BV.rd, BV.esc, BV.keep, BV.giveBack, T.cellOf, escAll, rdAll, keepAll, T.putAll, Res.bind_ok, Res.opt_some, Res.out_ok, Option.bind, Option.map, binD, divOk, cmpD, truD, ixD, toInt, toBl, bvOf, biD, sizeLine, isTyD, isT, D.dt, isNon, isLs, writable, T.assign, itemsD, Option.join, List.getElem?_cons_zero, List.getElem?_cons_succ, List.getElem?_nil, List.set_cons_zero, List.set_cons_succ, List.length_cons, List.length_nil, List.cons_append, List.nil_append, List.append_nil, List.replicate, callF, passIo, List.eraseIdx, List.insertIdx_zero, List.insertIdx_succ_cons, T.forGo, rangeD, in62, ixN, atI, Stt.mut, sqD]) ⟨none, none, rfl, rfl, rfl⟩
    (fun j x cc hj hI => by
      obtain ⟨kk, ll, rfl, hk, hl'⟩ := hI
      obtain ⟨y, hy, rfl⟩ := enumD_get _ _ _ _ hj
      obtain ⟨e, hem, rfl⟩ := List.mem_map.mp (List.mem_of_getElem? hy)
      have h2 : (2 : Int) ≤ e := by have := he e hem; omega
      refine ⟨[some ⟨.fz, sqD b es⟩, some ⟨.fz, .int (0 + j)⟩, some ⟨.fz, .int e⟩], [some ⟨.fz, sqD b es⟩, some ⟨.fz, .int (0 + j)⟩, some ⟨.fz, .int e⟩], ?_, ?_, some ⟨.fz, .int (0 + j)⟩, some ⟨.fz, .int e⟩, rfl, rfl, rfl⟩
      · simp only [T.assign, Env.put, Env.cell, List.getElem?_cons_succ, List.getElem?_cons_zero, Option.join, hk]
        simp [hk, hl', Env.put, Env.cell]
      · simp [mkFn, xst, ev, evs, evi, initE, endE, outE, Env.cell, Env.put, Env.nx, clear?, BV.rd, BV.esc, BV.keep, BV.giveBack, T.cellOf, escAll, rdAll, keepAll, T.putAll, Res.bind_ok, Res.opt_some, Res.out_ok, Option.bind, Option.map, binD, divOk, cmpD, truD, ixD, toInt, toBl, bvOf, biD, sizeLine, isTyD, isT, D.dt, isNon, isLs, writable, T.assign, itemsD, Option.join, List.getElem?_cons_zero, List.getElem?_cons_succ, List.getElem?_nil, List.set_cons_zero, List.set_cons_succ, List.length_cons, List.length_nil, List.cons_append, List.nil_append, List.append_nil, List.replicate, callF, passIo, List.eraseIdx, List.insertIdx_zero, List.insertIdx_succ_cons, T.forGo, rangeD, in62, ixN, atI, Stt.mut, hΓ, f1, f2, f3, h2])
  obtain ⟨c', e, kk, ll, rfl, hk, hl'⟩ := loop
  refine (run_eq rfl).trans ?_
  unfold c_require_schedule
  show endE none (xst Γ (.cons _ (.cons _ .nil)) [some ⟨.fz, sqD b es⟩, none, none]) = _
  have h3 : ¬ (200 : Int) < es.length := by omega
  rw [seq_nx [some ⟨.fz, sqD b es⟩, none, none] (by cases b <;> simp [mkFn, xst, ev, evs, evi, initE, endE, outE, Env.cell, Env.put, Env.nx, clear?, BV.rd, BV.esc, BV.keep, BV.giveBack, T.cellOf, escAll, rdAll, keepAll, T.putAll, Res.bind_ok, Res.opt_some, Res.out_ok, Option.bind, Option.map, binD, divOk, cmpD, truD, ixD, toInt, toBl, bvOf, biD, sizeLine, isTyD, isT, D.dt, isNon, isLs, writable, T.assign, itemsD, Option.join, List.getElem?_cons_zero, List.getElem?_cons_succ, List.getElem?_nil, List.set_cons_zero, List.set_cons_succ, List.length_cons, List.length_nil, List.cons_append, List.nil_append, List.append_nil, List.replicate, callF, passIo, List.eraseIdx, List.insertIdx_zero, List.insertIdx_succ_cons, T.forGo, rangeD, in62, ixN, atI, Stt.mut, sqD, nD, h3])]
  rw [seq_nx _ e]
  simp [mkFn, xst, ev, evs, evi, initE, endE, outE, Env.cell, Env.put, Env.nx, clear?, BV.rd, BV.esc, BV.keep, BV.giveBack, T.cellOf, escAll, rdAll, keepAll, T.putAll, Res.bind_ok, Res.opt_some, Res.out_ok, Option.bind, Option.map, binD, divOk, cmpD, truD, ixD, toInt, toBl, bvOf, biD, sizeLine, isTyD, isT, D.dt, isNon, isLs, writable, T.assign, itemsD, Option.join, List.getElem?_cons_zero, List.getElem?_cons_succ, List.getElem?_nil, List.set_cons_zero, List.set_cons_succ, List.length_cons, List.length_nil, List.cons_append, List.nil_append, List.append_nil, List.replicate, callF, passIo, List.eraseIdx, List.insertIdx_zero, List.insertIdx_succ_cons, T.forGo, rangeD, in62, ixN, atI, Stt.mut]
end Lw


set_option Elab.async false
set_option linter.all false
set_option maxRecDepth 100000
set_option maxHeartbeats 200000
namespace Lw
open PySem PySem.Spec PyProof.Rows L2 T
noncomputable def lcF (Γ : Nat → Option Fn) (own : List Nat) (elt : E) (tg : Tg) (cond : E) : D → T.Env → Res (Option D) := fun x c => match T.assign tg x (wipeE own c) with
          | none => .no
          | some c => (ev Γ cond c).bind fun t c => match (t.rd c).bind toBl with
            | some true => (ev Γ elt c).bind fun y c => (y.esc c).bind fun d c => .ok (some d) c
            | some false => .ok none c
            | none => .no
theorem lcF_yes {Γ : Nat → Option Fn} {own : List Nat} {elt : E} {tg : Tg} {x d : D} {c c3 c4 : T.Env} (c1 : T.Env) (y : BV) (h1 : T.assign tg x (wipeE own c) = some c1) (h2 : ev Γ elt c1 = .ok y c3) (h3 : y.esc c3 = .ok d c4) : lcF Γ own elt tg .yes x c = .ok (some d) c4 := by
  unfold lcF
  rw [h1]
  simp only [ev, Res.bind_ok, BV.rd, toBl, Option.bind_some, h2, h3]
theorem lc_ok {Γ : Nat → Option Fn} {own : List Nat} {elt : E} {tg : Tg} {it cond : E} {c : T.Env} (xs : List D) (c1 : T.Env) (hi : evi Γ it c = .ok xs c1) (hf : own.all (free? c1) = true) (l : List D) (c2 : T.Env) (hg : T.lcGo (lcF Γ own elt tg cond) xs c1 = .ok l c2) (hl : l.length ≤ sizeLine) :
    ev Γ (.lc own elt tg it cond) c = .ok (.fr (.lst l)) (restE c1 own c2) := by
  simp only [ev, hi, Res.bind_ok, hf, Bool.true_eq_false, if_false]
  show (T.lcGo (lcF Γ own elt tg cond) xs c1).bind _ = _
  rw [hg]
  simp only [Res.bind_ok, hl, if_true]
def IsGroupOk (F : Fn) : Prop := F.ar = 2 ∧ F.io = none ∧ ∀ es : List Nat, es.length ≤ 1000 → F.run [.tup (nD es), .int es.length] = .ret false (.bl true) .non
theorem toBls_true : ∀ xs : List D, toBls (xs.map fun _ => D.bl true) = some (xs.map fun _ => true)
  | [] => rfl
  | x :: xs => by rw [List.map_cons, toBls, toBls_true xs]; rfl
theorem all_true {α : Type} : ∀ xs : List α, (xs.map fun _ => true).all id = true
  | [] => rfl
  | x :: xs => by rw [List.map_cons, List.all_cons, all_true xs]; rfl
theorem ok_isgroup {Γ : Nat → Option Fn} {i : Nat} {F : Fn} (hΓ : Γ i = some F) (hF : AtLeastOk F) : IsGroupOk (mkFn Γ 2 3 none (c_is_group i)) := by
  obtain ⟨f1, f2, f3⟩ := hF
  refine ⟨rfl, rfl, fun es hl => ?_⟩
  have lc : ev Γ (.lc [2] (.call i (.cons (.var 2) (.cons (.int 0) .nil))) (.nm 2) (.seq (.var 0)) .yes) [some ⟨.fz, .tup (nD es)⟩, some ⟨.fz, .int es.length⟩, none] = .ok (.fr (.lst ((nD es).map fun _ => D.bl true))) [some ⟨.fz, .tup (nD es)⟩, some ⟨.fz, .int es.length⟩, none] := by
    obtain ⟨c', e, kk, rfl⟩ := lcGo_map (f := lcF Γ [2] (.call i (.cons (.var 2) (.cons (.int 0) .nil))) (.nm 2) .yes) (fun c => ∃ kk, c = [some ⟨.fz, .tup (nD es)⟩, some ⟨.fz, .int es.length⟩, kk]) (fun _ => D.bl true) (nD es) [some ⟨.fz, .tup (nD es)⟩, some ⟨.fz, .int es.length⟩, none]
      (fun x hx c hc => by
        obtain ⟨kk, rfl⟩ := hc
        obtain ⟨e, hem, rfl⟩ := List.mem_map.mp hx
        have h0 : (0 : Int) ≤ e := by omega
        refine ⟨[some ⟨.fz, .tup (nD es)⟩, some ⟨.fz, .int es.length⟩, some ⟨.fz, .int e⟩], ?_, some ⟨.fz, .int e⟩, rfl⟩
        generalize D.tup (nD es) = aa
        generalize D.int es.length = bb
        refine lcF_yes (c3 := [some ⟨.fz, aa⟩, some ⟨.fz, bb⟩, some ⟨.fz, .int e⟩]) [some ⟨.fz, aa⟩, some ⟨.fz, bb⟩, some ⟨.fz, .int e⟩] (.dt (.bl true)) (by simp [wipeE, mkFn, xst, ev, evs, evi, initE, endE, outE, Env.cell, Env.put, Env.nx, clear?, BV.rd, BV.esc, BV.keep, BV.giveBack, T.cellOf, escAll, rdAll, keepAll, T.putAll, Res.bind_ok, Res.opt_some, Res.out_ok, Option.bind, Option.map, binD, divOk, cmpD, truD, ixD, toInt, toBl, bvOf, biD, sizeLine, isTyD, isT, D.dt, isNon, isLs, writable, T.assign, itemsD, Option.join, List.getElem?_cons_zero, List.getElem?_cons_succ, List.getElem?_nil, List.set_cons_zero, List.set_cons_succ, List.length_cons, List.length_nil, List.cons_append, List.nil_append, List.append_nil, List.replicate, callF, passIo, List.eraseIdx, List.insertIdx_zero, List.insertIdx_succ_cons, T.forGo, rangeD, in62, ixN, atI, Stt.mut]) (by simp [mkFn, xst, ev, evs, evi, initE, endE, outE, Env.cell, Env.put, Env.nx, clear?, BV.rd, BV.esc, BV.keep, BV.giveBack, T.cellOf, escAll, rdAll, keepAll, T.putAll, Res.bind_ok, Res.opt_some, Res.out_ok, Option.bind, Option.map, binD, divOk, cmpD, truD, ixD, toInt, toBl, bvOf, biD, sizeLine, isTyD, isT, D.dt, isNon, isLs, writable, T.assign, itemsD, Option.join, List.getElem?_cons_zero, List.getElem?_cons_succ, List.getElem?_nil, List.set_cons_zero, List.set_cons_succ, List.length_cons, List.length_nil, List.cons_append, List.nil_append, List.append_nil, List.replicate, callF, passIo, List.eraseIdx, List.insertIdx_zero, List.insertIdx_succ_cons, T.forGo, rangeD, in62, ixN, atI, Stt.mut, hΓ, f1, f2, f3, h0]) (by simp [mkFn, xst, ev, evs, evi, initE, endE, outE, Env.cell, Env.put, Env.nx, clear?, BV.rd, BV.esc, BV.keep, BV.giveBack, T.cellOf, escAll, rdAll, keepAll, T.putAll, Res.bind_ok, Res.opt_some, Res.out_ok, Option.bind, Option.map, binD, divOk, cmpD, truD, ixD, toInt, toBl, bvOf, biD, sizeLine, isTyD, isT, D.dt, isNon, isLs, writable, T.assign, itemsD, Option.join, List.getElem?_cons_zero, List.getElem?_cons_succ, List.getElem?_nil, List.set_cons_zero, List.set_cons_succ, List.length_cons, List.length_nil, List.cons_append, List.nil_append, List.append_nil, List.replicate, callF, passIo, List.eraseIdx, List.insertIdx_zero, List.insertIdx_succ_cons, T.forGo, rangeD, in62, ixN, atI, Stt.mut])) ⟨none, rfl⟩
    have hlen : ((nD es).map fun _ => D.bl true).length ≤ sizeLine := by
      rw [List.length_map, nD, List.length_map]; exact Nat.le_trans hl (by decide)
    have h2 := lc_ok (Γ := Γ) (own := [2]) (it := .seq (.var 0)) (c := [some ⟨.fz, .tup (nD es)⟩, some ⟨.fz, .int es.length⟩, none]) (nD es) _ (by simp [mkFn, xst, ev, evs, evi, initE, endE, outE, Env.cell, Env.put, Env.nx, clear?, BV.rd, BV.esc, BV.keep, BV.giveBack, T.cellOf, escAll, rdAll, keepAll, T.putAll, Res.bind_ok, Res.opt_some, Res.out_ok, Option.bind, Option.map, binD, divOk, cmpD, truD, ixD, toInt, toBl, bvOf, biD, sizeLine, isTyD, isT, D.dt, isNon, isLs, writable, T.assign, itemsD, Option.join, List.getElem?_cons_zero, List.getElem?_cons_succ, List.getElem?_nil, List.set_cons_zero, List.set_cons_succ, List.length_cons, List.length_nil, List.cons_append, List.nil_append, List.append_nil, List.replicate, callF, passIo, List.eraseIdx, List.insertIdx_zero, List.insertIdx_succ_cons, T.forGo, rangeD, in62, ixN, atI, Stt.mut]) (by simp [free?, Env.cell]) _ _ e hlen
    exact h2
  have hn : (nD es).length = es.length := by simp [nD]
  refine (run_eq rfl).trans ?_
  unfold c_is_group
  show endE none (xst Γ (.cons (.ret (.andE _ (.andE _ (.bi .all (.cons _ .nil))))) .nil) [some ⟨.fz, .tup (nD es)⟩, some ⟨.fz, .int es.length⟩, none]) = _
  have hall : biD .all [.lst ((nD es).map fun _ => D.bl true)] = some (false, .bl true) := by
    simp only [biD, toBls_true, Option.map, all_true]
  generalize (E.lc [2] (.call i (.cons (.var 2) (.cons (.int 0) .nil))) (.nm 2) (.seq (.var 0)) .yes) = lce at lc ⊢
  simp [mkFn, xst, ev, evs, evi, initE, endE, outE, Env.cell, Env.put, Env.nx, clear?, BV.rd, BV.esc, BV.keep, BV.giveBack, T.cellOf, escAll, rdAll, keepAll, T.putAll, Res.bind_ok, Res.opt_some, Res.out_ok, Option.bind, Option.map, binD, divOk, cmpD, truD, ixD, toInt, toBl, bvOf, biD, sizeLine, isTyD, isT, D.dt, isNon, isLs, writable, T.assign, itemsD, Option.join, List.getElem?_cons_zero, List.getElem?_cons_succ, List.getElem?_nil, List.set_cons_zero, List.set_cons_succ, List.length_cons, List.length_nil, List.cons_append, List.nil_append, List.append_nil, List.replicate, callF, passIo, List.eraseIdx, List.insertIdx_zero, List.insertIdx_succ_cons, T.forGo, rangeD, in62, ixN, atI, Stt.mut, eqD_int, hn, lc, toBls_true, all_true]
end Lw


set_option Elab.async false
set_option linter.all false
set_option maxRecDepth 100000
set_option maxHeartbeats 400000
namespace Lw
open PySem PySem.Spec PyProof.Rows L2 T
theorem nD_len (es : List Nat) : (nD es).length = es.length := by simp [nD]
def ReqCountsOk (F : Fn) : Prop := F.ar = 1 ∧ F.io = none ∧ ∀ es : List Nat, es.length ≤ 200 → F.run [.tup (nD es)] = .ret false .non .non
theorem ok_reqcounts {Γ : Nat → Option Fn} {i : Nat} {F : Fn} (hΓ : Γ i = some F) (hF : IsGroupOk F) : ReqCountsOk (mkFn Γ 1 1 none (c_require_counts i)) := by
  obtain ⟨f1, f2, f3⟩ := hF
  refine ⟨rfl, rfl, fun es hl => ?_⟩
  have h1 := f3 es (by omega)
  have h2 : ¬ (200 : Int) < es.length := by omega
  simp [c_require_counts, mkFn, xst, ev, evs, evi, initE, endE, outE, Env.cell, Env.put, Env.nx, clear?, BV.rd, BV.esc, BV.keep, BV.giveBack, T.cellOf, escAll, rdAll, keepAll, T.putAll, Res.bind_ok, Res.opt_some, Res.out_ok, Option.bind, Option.map, binD, divOk, cmpD, truD, ixD, toInt, toBl, bvOf, biD, sizeLine, isTyD, isT, D.dt, isNon, isLs, writable, T.assign, itemsD, Option.join, List.getElem?_cons_zero, List.getElem?_cons_succ, List.getElem?_nil, List.set_cons_zero, List.set_cons_succ, List.length_cons, List.length_nil, List.cons_append, List.nil_append, List.append_nil, List.replicate, callF, passIo, List.eraseIdx, List.insertIdx_zero, List.insertIdx_succ_cons, T.forGo, rangeD, in62, ixN, atI, Stt.mut, nD_len, h2, hΓ, f1, f2, h1]
/-- the product of the first j -/
def pp (es : List Nat) (j : Nat) : Nat := (es.take j).foldr (· * ·) 1
theorem foldr_app (a : List Nat) (x : Nat) : (a ++ [x]).foldr (· * ·) 1 = a.foldr (· * ·) 1 * x := by
  induction a with
  | nil => simp
  | cons y a ih => simp only [List.cons_append, List.foldr_cons, ih, Nat.mul_assoc]
theorem pp_zero (es : List Nat) : pp es 0 = 1 := rfl
theorem pp_succ {es : List Nat} {j x : Nat} (h : es[j]? = some x) : pp es (j + 1) = pp es j * x := by
  unfold pp
  rw [List.take_add_one, h]
  exact foldr_app _ _
theorem pp_pos {es : List Nat} (h : ∀ e ∈ es, 2 ≤ e) : ∀ j, 0 < pp es j := by
  intro j
  unfold pp
  have h' : ∀ e ∈ es.take j, 2 ≤ e := fun e he => h e (List.mem_of_mem_take he)
  generalize es.take j = l at h'
  induction l with
  | nil => simp
  | cons x l ih =>
    simp only [List.foldr_cons]
    exact Nat.mul_pos (by have := h' x List.mem_cons_self; omega) (ih fun e he => h' e (List.mem_cons_of_mem _ he))
theorem pp_step {es : List Nat} (h : ∀ e ∈ es, 2 ≤ e) (j : Nat) : pp es j ∣ pp es (j + 1) := by
  cases hj : es[j]? with
  | none =>
    have hn := List.getElem?_eq_none_iff.mp hj
    unfold pp
    rw [List.take_of_length_le hn, List.take_of_length_le (by omega)]
    exact Nat.dvd_refl _
  | some x => rw [pp_succ hj]; exact Nat.dvd_mul_right _ _
theorem pp_dvd {es : List Nat} (h : ∀ e ∈ es, 2 ≤ e) {i j : Nat} (hij : i ≤ j) : pp es i ∣ pp es j := by
  induction hij with
  | refl => exact Nat.dvd_refl _
  | step _ ih => exact Nat.dvd_trans ih (pp_step h _)
theorem pp_le {es : List Nat} (h : ∀ e ∈ es, 2 ≤ e) {i j : Nat} (hij : i ≤ j) : pp es i ≤ pp es j := Nat.le_of_dvd (pp_pos h j) (pp_dvd h hij)
def pref (es : List Nat) (j : Nat) : List Nat := (List.range (j + 1)).map (pp es)
theorem pref_zero (es : List Nat) : pref es 0 = [1] := rfl
theorem pref_succ (es : List Nat) (j : Nat) : pref es (j + 1) = pref es j ++ [pp es (j + 1)] := by
  unfold pref
  rw [List.range_succ, List.map_append]; rfl
theorem atI_last' (l : List D) (x : D) : atI (l ++ [x]) (-1) = some x := atI_last l x
theorem pref_last (es : List Nat) (j : Nat) : ixD (.lst (nD (pref es j))) (.int (-1)) = some (.int (pp es j : Nat)) := by
  cases j with
  | zero => rfl
  | succ j =>
    rw [pref_succ]
    unfold nD
    rw [List.map_append]
    exact atI_last' _ _
structure Good1 (es : List Nat) : Prop where
  ge : ∀ e ∈ es, 2 ≤ e
  lt : ∀ e ∈ es, e < 2 ^ 50
  len : es.length ≤ 200
  pr : pp es es.length < 2 ^ 8900
theorem pp_small {es : List Nat} (g : Good1 es) {j : Nat} (h : j ≤ es.length) : pp es j < 2 ^ 8900 := Nat.lt_of_le_of_lt (pp_le g.ge h) g.pr
def ProdOk (F : Fn) : Prop := F.ar = 1 ∧ F.io = none ∧ ∀ (b : Bool) (es : List Nat), Good1 es → F.run [sqD b es] = .ret true (.lst (nD (pref es es.length))) .non
theorem mul_nat {a b : Nat} (x y : Nat) (h1 : a < 2 ^ x) (h2 : b < 2 ^ y) (h : x + y ≤ 1000000) (hx : 0 < x) (hy : 0 < y) : mulOk (a : Int) (b : Int) = true := mulOk_of x y (by simpa using h1) (by simpa using h2) h hx hy
theorem ok_products (Γ : Nat → Option Fn) : ProdOk (mkFn Γ 1 3 none c_products) := by
  refine ⟨rfl, rfl, fun b es g => ?_⟩
  have loop := for_nx (Γ := Γ) (tg := .nm 2) (it := .seq (.var 0)) (body := .cons (.app 1 (.bin .mul (.ix (.var 1) (.neg (.int 1))) (.var 2))) .nil) (c := [some ⟨.fz, sqD b es⟩, some ⟨.own, .lst [.int 1]⟩, none])
    (fun j cc => ∃ kk, cc = [some ⟨.fz, sqD b es⟩, some ⟨.own, .lst (nD (pref es j))⟩, kk] ∧ T.clear? kk = true)
    (nD es) [some ⟨.fz, sqD b es⟩, some ⟨.own, .lst [.int 1]⟩, none] (by cases b <;> simp [mkFn, xst, ev, evs, evi, initE, endE, outE, Env.cell, Env.put, Env.nx, clear?, BV.rd, BV.esc, BV.keep, BV.giveBack, T.cellOf, escAll, rdAll, keepAll, T.putAll, Res.bind_ok, Res.opt_some, Res.out_ok, Option.bind, Option.map, binD, divOk, cmpD, truD, ixD, toInt, toBl, bvOf, biD, sizeLine, isTyD, isT, D.dt, isNon, isLs, writable, T.assign, itemsD, Option.join, List.getElem?_cons_zero, List.getElem?_cons_succ, List.getElem?_nil, List.set_cons_zero, List.set_cons_succ, List.length_cons, List.length_nil, List.cons_append, List.nil_append, List.append_nil, List.replicate, callF, passIo, List.eraseIdx, List.insertIdx_zero, List.insertIdx_succ_cons, T.forGo, rangeD, in62, ixN, atI, Stt.mut, sqD]) ⟨none, rfl, rfl⟩
    (fun j x cc hj hI => by
      obtain ⟨kk, rfl, hk⟩ := hI
      have hjl : j < es.length := by
        have := (List.getElem?_eq_some_iff.mp hj).1
        rwa [nD_len] at this
      obtain ⟨e, he, rfl⟩ : ∃ e, es[j]? = some e ∧ x = .int (e : Nat) := by
        unfold nD at hj
        rw [List.getElem?_map] at hj
        cases h : es[j]? with
        | none => rw [h] at hj; cases hj
        | some e => rw [h] at hj; exact ⟨e, rfl, (Option.some.inj hj).symm⟩
      have hm : mulOk (pp es j : Nat) (e : Nat) = true := mul_nat 8900 50 (pp_small g (by omega)) (g.lt e (List.mem_of_getElem? he)) (by decide) (by decide) (by decide)
      refine ⟨[some ⟨.fz, sqD b es⟩, some ⟨.own, .lst (nD (pref es j))⟩, some ⟨.fz, .int (e : Nat)⟩], [some ⟨.fz, sqD b es⟩, some ⟨.own, .lst (nD (pref es (j + 1)))⟩, some ⟨.fz, .int (e : Nat)⟩], ?_, ?_, _, rfl, rfl⟩
      · simp only [T.assign, Env.put, Env.cell, List.getElem?_cons_succ, List.getElem?_cons_zero, Option.join, hk]
        simp [hk]
      · have hl : (nD (pref es j)).length < sizeLine := by
          rw [nD_len]; unfold pref; rw [List.length_map, List.length_range]
          have := g.len
          exact Nat.lt_of_le_of_lt (show j + 1 ≤ 1000 by omega) (by decide)
        have hp := pref_last es j
        have e1 : nD (pref es (j + 1)) = nD (pref es j) ++ [.int ((pp es j : Int) * (e : Int))] := by
          rw [pref_succ, pp_succ he]
          simp [nD]
        rw [e1]
        generalize nD (pref es j) = L at hl hp ⊢
        simp [xst, ev, writable, Env.cell, BV.rd, hp, hl, BV.esc, toInt, binD, hm, bvOf])
  obtain ⟨c', e, kk, rfl, hk⟩ := loop
  rw [nD_len] at e
  refine (run_eq rfl).trans ?_
  unfold c_products
  show endE none (xst Γ (.cons _ (.cons _ (.cons _ .nil))) [some ⟨.fz, sqD b es⟩, none, none]) = _
  rw [seq_nx [some ⟨.fz, sqD b es⟩, some ⟨.own, .lst [.int 1]⟩, none] (by simp [mkFn, xst, ev, evs, evi, initE, endE, outE, Env.cell, Env.put, Env.nx, clear?, BV.rd, BV.esc, BV.keep, BV.giveBack, T.cellOf, escAll, rdAll, keepAll, T.putAll, Res.bind_ok, Res.opt_some, Res.out_ok, Option.bind, Option.map, binD, divOk, cmpD, truD, ixD, toInt, toBl, bvOf, biD, sizeLine, isTyD, isT, D.dt, isNon, isLs, writable, T.assign, itemsD, Option.join, List.getElem?_cons_zero, List.getElem?_cons_succ, List.getElem?_nil, List.set_cons_zero, List.set_cons_succ, List.length_cons, List.length_nil, List.cons_append, List.nil_append, List.append_nil, List.replicate, callF, passIo, List.eraseIdx, List.insertIdx_zero, List.insertIdx_succ_cons, T.forGo, rangeD, in62, ixN, atI, Stt.mut])]
  rw [seq_nx _ e]
  simp [mkFn, xst, ev, evs, evi, initE, endE, outE, Env.cell, Env.put, Env.nx, clear?, BV.rd, BV.esc, BV.keep, BV.giveBack, T.cellOf, escAll, rdAll, keepAll, T.putAll, Res.bind_ok, Res.opt_some, Res.out_ok, Option.bind, Option.map, binD, divOk, cmpD, truD, ixD, toInt, toBl, bvOf, biD, sizeLine, isTyD, isT, D.dt, isNon, isLs, writable, T.assign, itemsD, Option.join, List.getElem?_cons_zero, List.getElem?_cons_succ, List.getElem?_nil, List.set_cons_zero, List.set_cons_succ, List.length_cons, List.length_nil, List.cons_append, List.nil_append, List.append_nil, List.replicate, callF, passIo, List.eraseIdx, List.insertIdx_zero, List.insertIdx_succ_cons, T.forGo, rangeD, in62, ixN, atI, Stt.mut]
end Lw


set_option Elab.async false
set_option linter.all false
set_option maxRecDepth 100000
set_option maxHeartbeats 400000
namespace Lw
open PySem PySem.Spec PyProof.Rows L2 T
def wg : Nat → Nat → List Nat → List Nat → Nat × Nat
  | t, b, e :: es, c :: cs => wg (t * e + c) (b * e) es cs
  | t, b, _, _ => (t, b)
def pl : Nat → List Nat → List Nat
  | _, [] => []
  | b, e :: es => b * e :: pl (b * e) es
def pd : Nat → List Nat → Nat
  | b, [] => b
  | b, e :: es => pd (b * e) es
def sw (P : Nat) : List Nat → List Nat → Nat
  | c :: cs, p :: ps => c * (P / p) + sw P cs ps
  | _, _ => 0
theorem pd_dvd : ∀ (es : List Nat) (b : Nat), b ∣ pd b es
  | [], b => Nat.dvd_refl b
  | e :: es, b => Nat.dvd_trans (Nat.dvd_mul_right b e) (pd_dvd es (b * e))
theorem sw_wg : ∀ (es cs : List Nat) (t b : Nat), 0 < b → (∀ e ∈ es, 0 < e) → t * (pd b es / b) + sw (pd b es) cs (pl b es) = (wg t b es cs).1 * (pd b es / (wg t b es cs).2) ∧ (wg t b es cs).2 ∣ pd b es ∧ 0 < (wg t b es cs).2
  | [], [], t, b, hb, _ => by simp [wg, sw, pl, pd, hb]
  | [], _ :: _, t, b, hb, _ => by simp [wg, sw, pl, pd, hb]
  | e :: es, [], t, b, hb, _ => by simpa [wg, sw, hb] using pd_dvd (e :: es) b
  | e :: es, c :: cs, t, b, hb, he => by
    have he0 : 0 < e := he e List.mem_cons_self
    have hbe : 0 < b * e := Nat.mul_pos hb he0
    obtain ⟨i1, i2, i3⟩ := sw_wg es cs (t * e + c) (b * e) hbe fun x hx => he x (List.mem_cons_of_mem _ hx)
    refine ⟨?_, i2, i3⟩
    show t * (pd (b * e) es / b) + (c * (pd (b * e) es / (b * e)) + sw (pd (b * e) es) cs (pl (b * e) es)) = _
    show _ = (wg (t * e + c) (b * e) es cs).1 * (pd (b * e) es / (wg (t * e + c) (b * e) es cs).2)
    rw [← i1]
    obtain ⟨k, hk⟩ := pd_dvd es (b * e)
    have h1 : pd (b * e) es / (b * e) = k := by rw [hk]; exact Nat.mul_div_cancel_left k hbe
    have h2 : pd (b * e) es / b = e * k := by rw [hk, Nat.mul_assoc]; exact Nat.mul_div_cancel_left _ hb
    rw [h1, h2, Nat.add_mul, Nat.mul_assoc]
    omega
/-- the reduced weights agree -/
theorem low_same {t p S P : Nat} (h1 : S = t * (P / p)) (h2 : p ∣ P) (hp : 0 < p) (hP : 0 < P) : S / Nat.gcd S P = t / Nat.gcd t p ∧ P / Nat.gcd S P = p / Nat.gcd t p := by
  obtain ⟨k, hk⟩ := h2
  have hk0 : 0 < k := by
    rcases Nat.eq_zero_or_pos k with z | z
    · rw [z, Nat.mul_zero] at hk; omega
    · exact z
  have e1 : P / p = k := by rw [hk]; exact Nat.mul_div_cancel_left k hp
  rw [e1] at h1
  have e2 : Nat.gcd S P = Nat.gcd t p * k := by rw [h1, hk, Nat.gcd_mul_right]
  rw [e2, h1, hk]
  exact ⟨Nat.mul_div_mul_right _ _ hk0, Nat.mul_div_mul_right _ _ hk0⟩
theorem pd_le : ∀ (es : List Nat) (b : Nat), (∀ e ∈ es, 2 ≤ e) → b ≤ pd b es
  | [], b, _ => Nat.le_refl b
  | e :: es, b, h => Nat.le_trans (Nat.le_mul_of_pos_right b (by have := h e List.mem_cons_self; omega)) (pd_le es (b * e) fun x hx => h x (List.mem_cons_of_mem _ hx))
theorem wloop (Γ : Nat → Option Fn) (E C : Option Cell) : ∀ (es cs : List Nat) (t b N : Nat) (kk ll : Option Cell), (∀ e ∈ es, 2 ≤ e ∧ e < 2 ^ 50) → (∀ c ∈ cs, c < 2 ^ 20000) → pd b es < 2 ^ 8900 → t < 2 ^ N → 20000 ≤ N → N + 51 * es.length ≤ 90000 → T.clear? kk = true → T.clear? ll = true →
    ∃ kk' ll', T.forGo (fun x c => match T.assign (.tp (.cons (.nm 4) (.cons (.nm 5) (.nil)))) x c with
        | none => .no
        | some c => xst Γ (.cons (.asg 3 (.bin .mul (.var 3) (.var 4))) (.cons (.asg 2 (.bin .add (.bin .mul (.var 2) (.var 4)) (.var 5))) (.nil))) c) (zipD (nD es) (nD cs)) [E, C, some ⟨.fz, .int (t : Nat)⟩, some ⟨.fz, .int (b : Nat)⟩, kk, ll]
      = .nx [E, C, some ⟨.fz, .int ((wg t b es cs).1 : Nat)⟩, some ⟨.fz, .int ((wg t b es cs).2 : Nat)⟩, kk', ll']
  | [], cs, t, b, N, kk, ll, _, _, _, _, _, _, _, _ => ⟨kk, ll, by simp [nD, zipD, T.forGo, wg]⟩
  | e :: es, [], t, b, N, kk, ll, _, _, _, _, _, _, _, _ => ⟨kk, ll, by simp [nD, zipD, T.forGo, wg]⟩
  | e :: es, c :: cs, t, b, N, kk, ll, he, hc, hp, ht, hN, hl, h1, h2 => by
    have he0 := he e List.mem_cons_self
    have hc0 := hc c List.mem_cons_self
    have hpb : pd (b * e) es < 2 ^ 8900 := hp
    have hbe := pd_le es (b * e) fun x hx => (he x (List.mem_cons_of_mem _ hx)).1
    have hb : b ≤ b * e := Nat.le_mul_of_pos_right b (by omega)
    have ht2 : t * e + c < 2 ^ (N + 51) := by
      have a1 : t * e ≤ 2 ^ N * 2 ^ 50 := Nat.mul_le_mul (Nat.le_of_lt ht) (Nat.le_of_lt he0.2)
      have a2 : c < 2 ^ N := Nat.lt_of_lt_of_le hc0 (Nat.pow_le_pow_right (by decide) hN)
      have a3 : 2 ^ (N + 51) = 2 ^ N * 2 ^ 50 * 2 := by rw [Nat.pow_add]; omega
      have a4 : 2 ^ N ≤ 2 ^ N * 2 ^ 50 := Nat.le_mul_of_pos_right _ (by decide)
      omega
    have m1 : mulOk (b : Nat) (e : Nat) = true := mul_nat 8900 50 (by omega) he0.2 (by decide) (by decide) (by decide)
    have m2 : mulOk (t : Nat) (e : Nat) = true := mul_nat N 50 ht he0.2 (by omega) (by omega) (by decide)
    obtain ⟨kk', ll', ih⟩ := wloop Γ E C es cs (t * e + c) (b * e) (N + 51) (some ⟨.fz, .int (e : Nat)⟩) (some ⟨.fz, .int (c : Nat)⟩) (fun x hx => he x (List.mem_cons_of_mem _ hx)) (fun x hx => hc x (List.mem_cons_of_mem _ hx)) hpb ht2 (by omega) (by rw [List.length_cons] at hl; omega) rfl rfl
    refine ⟨kk', ll', ?_⟩
    have ea : T.assign (.tp (.cons (.nm 4) (.cons (.nm 5) (.nil)))) (.tup [.int (e : Nat), .int (c : Nat)]) [E, C, some ⟨.fz, .int (t : Nat)⟩, some ⟨.fz, .int (b : Nat)⟩, kk, ll] = some [E, C, some ⟨.fz, .int (t : Nat)⟩, some ⟨.fz, .int (b : Nat)⟩, some ⟨.fz, .int (e : Nat)⟩, some ⟨.fz, .int (c : Nat)⟩] := by
      simp [T.assign, Env.put, Env.cell, h1, h2]
    have eb : xst Γ (.cons (.asg 3 (.bin .mul (.var 3) (.var 4))) (.cons (.asg 2 (.bin .add (.bin .mul (.var 2) (.var 4)) (.var 5))) (.nil))) [E, C, some ⟨.fz, .int (t : Nat)⟩, some ⟨.fz, .int (b : Nat)⟩, some ⟨.fz, .int (e : Nat)⟩, some ⟨.fz, .int (c : Nat)⟩] = .nx [E, C, some ⟨.fz, .int ((t * e + c : Nat) : Int)⟩, some ⟨.fz, .int ((b * e : Nat) : Int)⟩, some ⟨.fz, .int (e : Nat)⟩, some ⟨.fz, .int (c : Nat)⟩] := by
      simp [mkFn, xst, ev, evs, evi, initE, endE, outE, Env.cell, Env.put, Env.nx, clear?, BV.rd, BV.esc, BV.keep, BV.giveBack, T.cellOf, escAll, rdAll, keepAll, T.putAll, Res.bind_ok, Res.opt_some, Res.out_ok, Option.bind, Option.map, binD, divOk, cmpD, truD, ixD, toInt, toBl, bvOf, biD, sizeLine, isTyD, isT, D.dt, isNon, isLs, writable, T.assign, itemsD, Option.join, List.getElem?_cons_zero, List.getElem?_cons_succ, List.getElem?_nil, List.set_cons_zero, List.set_cons_succ, List.length_cons, List.length_nil, List.cons_append, List.nil_append, List.append_nil, List.replicate, callF, passIo, List.eraseIdx, List.insertIdx_zero, List.insertIdx_succ_cons, T.forGo, rangeD, in62, ixN, atI, Stt.mut, m1, m2]
    show T.forGo _ (.tup [.int (e : Nat), .int (c : Nat)] :: zipD (nD es) (nD cs)) _ = _
    unfold T.forGo
    simp only [ea, eb]
    exact ih
end Lw


set_option Elab.async false
set_option linter.all false
set_option maxRecDepth 100000
set_option maxHeartbeats 400000
namespace Lw
open PySem PySem.Spec PyProof.Rows L2 T
theorem pp_cons (e : Nat) (es : List Nat) (i : Nat) : pp (e :: es) (i + 1) = e * pp es i := by simp [pp]
theorem pl_eq : ∀ (es : List Nat) (b : Nat), pl b es = (List.range es.length).map fun i => b * pp es (i + 1)
  | [], b => rfl
  | e :: es, b => by
    rw [pl, pl_eq es, List.length_cons, List.range_succ_eq_map, List.map_cons, List.map_map]
    congr 1
    · rw [pp_cons, pp_zero, Nat.mul_one]
    · apply List.map_congr_left
      intro i _
      simp only [Function.comp, Nat.succ_eq_add_one]
      rw [pp_cons e es (i + 1), Nat.mul_assoc]
theorem pd_eq : ∀ (es : List Nat) (b : Nat), pd b es = b * pp es es.length
  | [], b => by simp [pd, pp]
  | e :: es, b => by rw [pd, pd_eq es, List.length_cons, pp_cons, Nat.mul_assoc]
theorem pref_tail (es : List Nat) : (pref es es.length).drop 1 = pl 1 es := by
  rw [pl_eq]
  unfold pref
  rw [List.range_succ_eq_map, List.map_cons, List.drop_succ_cons, List.drop_zero, List.map_map]
  apply List.map_congr_left
  intro i _
  simp
theorem cut_one {α : Type} (xs : List α) : T.cutD xs (some 1) none = xs.drop 1 := by
  unfold T.cutD
  rw [show HT.sIx xs.length 0 (some 1) = min 1 xs.length from HT.sIx_nat xs.length 0 1, HT.sIx_none]
  cases xs with
  | nil => rfl
  | cons x r =>
    rw [show min 1 (x :: r).length = 1 by
      rw [List.length_cons]
      omega]
    show (List.take ((x :: r).length - 1) r) = r
    rw [List.length_cons, Nat.add_sub_cancel]
    exact List.take_length
def WeighedOk (F : Fn) : Prop := F.ar = 2 ∧ F.io = none ∧ ∀ (es cs : List Nat), Good1 es → (∀ c ∈ cs, c < 2 ^ 20000) → F.run [.lst (nD es), .tup (nD cs)] = .ret false (.tup [.int ((wg 0 1 es cs).1 : Nat), .int ((wg 0 1 es cs).2 : Nat)]) .non
theorem ok_weighed (Γ : Nat → Option Fn) : WeighedOk (mkFn Γ 2 6 none c__law_weighed) := by
  refine ⟨rfl, rfl, fun es cs g hc => ?_⟩
  have hp : pd 1 es < 2 ^ 8900 := by rw [pd_eq, Nat.one_mul]; exact g.pr
  obtain ⟨kk, ll, e⟩ := wloop Γ (some ⟨.fz, .lst (nD es)⟩) (some ⟨.fz, .tup (nD cs)⟩) es cs 0 1 20100 none none (fun x hx => ⟨g.ge x hx, g.lt x hx⟩) hc hp (Nat.two_pow_pos 20100) (by decide) (by have := g.len; omega) rfl rfl
  refine (run_eq rfl).trans ?_
  unfold c__law_weighed
  show endE none (xst Γ (.cons _ (.cons (.forS _ _ _) (.cons _ .nil))) [some ⟨.fz, .lst (nD es)⟩, some ⟨.fz, .tup (nD cs)⟩, none, none, none, none]) = _
  rw [seq_nx [some ⟨.fz, .lst (nD es)⟩, some ⟨.fz, .tup (nD cs)⟩, some ⟨.fz, .int (0 : Nat)⟩, some ⟨.fz, .int (1 : Nat)⟩, none, none] (by simp [mkFn, xst, ev, evs, evi, initE, endE, outE, Env.cell, Env.put, Env.nx, clear?, BV.rd, BV.esc, BV.keep, BV.giveBack, T.cellOf, escAll, rdAll, keepAll, T.putAll, Res.bind_ok, Res.opt_some, Res.out_ok, Option.bind, Option.map, binD, divOk, cmpD, truD, ixD, toInt, toBl, bvOf, biD, sizeLine, isTyD, isT, D.dt, isNon, isLs, writable, T.assign, itemsD, Option.join, List.getElem?_cons_zero, List.getElem?_cons_succ, List.getElem?_nil, List.set_cons_zero, List.set_cons_succ, List.length_cons, List.length_nil, List.cons_append, List.nil_append, List.append_nil, List.replicate, callF, passIo, List.eraseIdx, List.insertIdx_zero, List.insertIdx_succ_cons, T.forGo, rangeD, in62, ixN, atI, Stt.mut])]
  rw [seq_nx [some ⟨.fz, .lst (nD es)⟩, some ⟨.fz, .tup (nD cs)⟩, some ⟨.fz, .int ((wg 0 1 es cs).1 : Nat)⟩, some ⟨.fz, .int ((wg 0 1 es cs).2 : Nat)⟩, kk, ll] (by
    have hi : evi Γ (.zip (.var 0) (.var 1)) [some ⟨.fz, .lst (nD es)⟩, some ⟨.fz, .tup (nD cs)⟩, some ⟨.fz, .int (0 : Nat)⟩, some ⟨.fz, .int (1 : Nat)⟩, none, none] = .ok (zipD (nD es) (nD cs)) [some ⟨.fz, .lst (nD es)⟩, some ⟨.fz, .tup (nD cs)⟩, some ⟨.fz, .int (0 : Nat)⟩, some ⟨.fz, .int (1 : Nat)⟩, none, none] := by simp [mkFn, xst, ev, evs, evi, initE, endE, outE, Env.cell, Env.put, Env.nx, clear?, BV.rd, BV.esc, BV.keep, BV.giveBack, T.cellOf, escAll, rdAll, keepAll, T.putAll, Res.bind_ok, Res.opt_some, Res.out_ok, Option.bind, Option.map, binD, divOk, cmpD, truD, ixD, toInt, toBl, bvOf, biD, sizeLine, isTyD, isT, D.dt, isNon, isLs, writable, T.assign, itemsD, Option.join, List.getElem?_cons_zero, List.getElem?_cons_succ, List.getElem?_nil, List.set_cons_zero, List.set_cons_succ, List.length_cons, List.length_nil, List.cons_append, List.nil_append, List.append_nil, List.replicate, callF, passIo, List.eraseIdx, List.insertIdx_zero, List.insertIdx_succ_cons, T.forGo, rangeD, in62, ixN, atI, Stt.mut]
    simp only [xst, hi, Res.out_ok]
    exact e)]
  simp [mkFn, xst, ev, evs, evi, initE, endE, outE, Env.cell, Env.put, Env.nx, clear?, BV.rd, BV.esc, BV.keep, BV.giveBack, T.cellOf, escAll, rdAll, keepAll, T.putAll, Res.bind_ok, Res.opt_some, Res.out_ok, Option.bind, Option.map, binD, divOk, cmpD, truD, ixD, toInt, toBl, bvOf, biD, sizeLine, isTyD, isT, D.dt, isNon, isLs, writable, T.assign, itemsD, Option.join, List.getElem?_cons_zero, List.getElem?_cons_succ, List.getElem?_nil, List.set_cons_zero, List.set_cons_succ, List.length_cons, List.length_nil, List.cons_append, List.nil_append, List.append_nil, List.replicate, callF, passIo, List.eraseIdx, List.insertIdx_zero, List.insertIdx_succ_cons, T.forGo, rangeD, in62, ixN, atI, Stt.mut]
theorem zip_mem : ∀ {xs ys : List D} {x : D}, x ∈ zipD xs ys → ∃ a b, a ∈ xs ∧ b ∈ ys ∧ x = .tup [a, b]
  | [], _, x, h => by simp [zipD] at h
  | _ :: _, [], x, h => by simp [zipD] at h
  | a :: xs, b :: ys, x, h => by
    rw [zipD] at h
    rcases List.mem_cons.mp h with h | h
    · exact ⟨a, b, List.mem_cons_self, List.mem_cons_self, h⟩
    · obtain ⟨a', b', h1, h2, h3⟩ := zip_mem h
      exact ⟨a', b', List.mem_cons_of_mem _ h1, List.mem_cons_of_mem _ h2, h3⟩
def gq (P : Nat) : D → D
  | .tup [.int c, .int p] => .int (c * ((P : Int) / p))
  | d => d
theorem gq_sum (P : Nat) : ∀ cs qs : List Nat, ∃ l, toInts ((zipD (nD cs) (nD qs)).map (gq P)) = some l ∧ l.sum = (sw P cs qs : Nat)
  | [], qs => ⟨[], rfl, by simp [sw]⟩
  | c :: cs, [] => ⟨[], rfl, by simp [sw]⟩
  | c :: cs, q :: qs => by
    obtain ⟨l, e, h⟩ := gq_sum P cs qs
    refine ⟨(c : Int) * ((P : Int) / q) :: l, ?_, ?_⟩
    · show toInts (gq P (.tup [.int c, .int q]) :: (zipD (nD cs) (nD qs)).map (gq P)) = _
      simp only [gq, toInts, e]
      rfl
    · rw [List.sum_cons, h]
      simp [sw]
theorem zip_len : ∀ xs ys : List D, (zipD xs ys).length ≤ xs.length
  | [], _ => by simp [zipD]
  | _ :: _, [] => by simp [zipD]
  | _ :: xs, _ :: ys => by simp only [zipD, List.length_cons]; have := zip_len xs ys; omega
def ScaledOk (F : Fn) : Prop := F.ar = 2 ∧ F.io = none ∧ ∀ (b : Bool) (es cs : List Nat), Good1 es → (∀ c ∈ cs, c < 2 ^ 20000) → cs.length ≤ 200 → F.run [sqD b es, .tup (nD cs)] = .ret false (.int (sw (pd 1 es) cs (pl 1 es) : Nat)) .non
theorem ok_scaled {Γ : Nat → Option Fn} {i : Nat} {F : Fn} (hΓ : Γ i = some F) (hF : ProdOk F) : ScaledOk (mkFn Γ 2 5 none (c_scaled_weight i)) := by
  obtain ⟨f1, f2, f3⟩ := hF
  refine ⟨rfl, rfl, fun b es cs g hc hcl => ?_⟩
  have fr := f3 b es g
  have hP : pp es es.length = pd 1 es := by rw [pd_eq, Nat.one_mul]
  have hlast := pref_last es es.length
  rw [hP] at hlast
  have hdrop : (nD (pref es es.length)).drop 1 = nD (pl 1 es) := by
    rw [← pref_tail]
    unfold nD
    rw [List.map_drop]
  have hlb : ∀ q ∈ pl 1 es, 0 < q ∧ q < 2 ^ 8900 := fun q hq => by
    rw [pl_eq] at hq
    obtain ⟨m, hm, rfl⟩ := List.mem_map.mp hq
    have hm := List.mem_range.mp hm
    rw [Nat.one_mul]
    exact ⟨pp_pos g.ge _, pp_small g (by omega)⟩
  have hPs : pd 1 es < 2 ^ 8900 := by rw [← hP]; exact g.pr
  have lc : ev Γ (.lc [3, 4] (.bin .mul (.var 3) (.bin .div (.ix (.var 2) (.neg (.int 1))) (.var 4))) (.tp (.cons (.nm 3) (.cons (.nm 4) (.nil)))) (.zip (.var 1) (.sl (.var 2) (.int 1) .nopart)) .yes) [some ⟨.fz, sqD b es⟩, some ⟨.fz, .tup (nD cs)⟩, some ⟨.own, .lst (nD (pref es es.length))⟩, none, none]
      = .ok (.fr (.lst ((zipD (nD cs) (nD (pl 1 es))).map (gq (pd 1 es))))) [some ⟨.fz, sqD b es⟩, some ⟨.fz, .tup (nD cs)⟩, some ⟨.own, .lst (nD (pref es es.length))⟩, none, none] := by
    generalize nD (pref es es.length) = L at hlast hdrop ⊢
    generalize sqD b es = S0
    obtain ⟨c', e, kk, ll, rfl⟩ := lcGo_map (f := lcF Γ [3, 4] (.bin .mul (.var 3) (.bin .div (.ix (.var 2) (.neg (.int 1))) (.var 4))) (.tp (.cons (.nm 3) (.cons (.nm 4) (.nil)))) .yes) (fun c => ∃ kk ll, c = [some ⟨.fz, S0⟩, some ⟨.fz, .tup (nD cs)⟩, some ⟨.own, .lst L⟩, kk, ll]) (gq (pd 1 es)) (zipD (nD cs) (nD (pl 1 es))) [some ⟨.fz, S0⟩, some ⟨.fz, .tup (nD cs)⟩, some ⟨.own, .lst L⟩, none, none]
      (fun x hx c hcc => by
        obtain ⟨kk, ll, rfl⟩ := hcc
        obtain ⟨a, q, ha, hq, rfl⟩ := zip_mem hx
        obtain ⟨a, ha', rfl⟩ := List.mem_map.mp ha
        obtain ⟨q, hq', rfl⟩ := List.mem_map.mp hq
        obtain ⟨q0, q1⟩ := hlb q hq'
        have d1 : divOk (q : Nat) = true := by
          have : q.log2 < 9000 := (log_small q0 q1 (Nat.dvd_refl q)).2
          simp [divOk, q0, this]
        have m1 : mulOk (a : Nat) ((pd 1 es : Int) / (q : Int)) = true := by
          have := mul_nat (a := a) (b := pd 1 es / q) 20000 8900 (hc a ha') (Nat.lt_of_le_of_lt (Nat.div_le_self _ _) hPs) (by decide) (by decide) (by decide)
          simpa using this
        generalize D.tup (nD cs) = C0
        refine ⟨[some ⟨.fz, S0⟩, some ⟨.fz, C0⟩, some ⟨.own, .lst L⟩, some ⟨.fz, .int (a : Nat)⟩, some ⟨.fz, .int (q : Nat)⟩], ?_, _, _, rfl⟩
        refine lcF_yes (c3 := [some ⟨.fz, S0⟩, some ⟨.fz, C0⟩, some ⟨.own, .lst L⟩, some ⟨.fz, .int (a : Nat)⟩, some ⟨.fz, .int (q : Nat)⟩]) [some ⟨.fz, S0⟩, some ⟨.fz, C0⟩, some ⟨.own, .lst L⟩, some ⟨.fz, .int (a : Nat)⟩, some ⟨.fz, .int (q : Nat)⟩] (.dt (.int ((a : Int) * ((pd 1 es : Int) / (q : Int))))) (by simp [wipeE, T.assign, Env.put, Env.cell, T.clear?]) ?_ (by simp [BV.esc, gq])
        simp [ev, Env.cell, BV.rd, hlast, toInt, binD, d1, m1, bvOf]) ⟨none, none, rfl⟩
    have hlen : ((zipD (nD cs) (nD (pl 1 es))).map (gq (pd 1 es))).length ≤ sizeLine := by
      rw [List.length_map]
      refine Nat.le_trans (zip_len _ _) ?_
      rw [nD_len]; exact Nat.le_trans hcl (by decide)
    have hi : evi Γ (.zip (.var 1) (.sl (.var 2) (.int 1) .nopart)) [some ⟨.fz, S0⟩, some ⟨.fz, .tup (nD cs)⟩, some ⟨.own, .lst L⟩, none, none] = .ok (zipD (nD cs) (nD (pl 1 es))) [some ⟨.fz, S0⟩, some ⟨.fz, .tup (nD cs)⟩, some ⟨.own, .lst L⟩, none, none] := by
      rw [← hdrop, ← cut_one]
      simp [evi, ev, Env.cell, BV.rd, BV.esc, partE, isNopart, toInt, slD, bvOf, itemsD]
    exact lc_ok (Γ := Γ) (own := [3, 4]) (it := .zip (.var 1) (.sl (.var 2) (.int 1) .nopart)) (c := [some ⟨.fz, S0⟩, some ⟨.fz, .tup (nD cs)⟩, some ⟨.own, .lst L⟩, none, none]) _ _ hi (by simp [free?, Env.cell]) _ _ e hlen
  obtain ⟨l, hl1, hl2⟩ := gq_sum (pd 1 es) cs (pl 1 es)
  refine (run_eq rfl).trans ?_
  unfold c_scaled_weight
  show endE none (xst Γ (.cons _ (.cons (.ret (.bi .sum (.cons _ .nil))) .nil)) [some ⟨.fz, sqD b es⟩, some ⟨.fz, .tup (nD cs)⟩, none, none, none]) = _
  rw [seq_nx [some ⟨.fz, sqD b es⟩, some ⟨.fz, .tup (nD cs)⟩, some ⟨.own, .lst (nD (pref es es.length))⟩, none, none] (by simp [mkFn, xst, ev, evs, evi, initE, endE, outE, Env.cell, Env.put, Env.nx, clear?, BV.rd, BV.esc, BV.keep, BV.giveBack, T.cellOf, escAll, rdAll, keepAll, T.putAll, Res.bind_ok, Res.opt_some, Res.out_ok, Option.bind, Option.map, binD, divOk, cmpD, truD, ixD, toInt, toBl, bvOf, biD, sizeLine, isTyD, isT, D.dt, isNon, isLs, writable, T.assign, itemsD, Option.join, List.getElem?_cons_zero, List.getElem?_cons_succ, List.getElem?_nil, List.set_cons_zero, List.set_cons_succ, List.length_cons, List.length_nil, List.cons_append, List.nil_append, List.append_nil, List.replicate, callF, passIo, List.eraseIdx, List.insertIdx_zero, List.insertIdx_succ_cons, T.forGo, rangeD, in62, ixN, atI, Stt.mut, hΓ, f1, f2, fr])]
  generalize (E.lc [3, 4] (.bin .mul (.var 3) (.bin .div (.ix (.var 2) (.neg (.int 1))) (.var 4))) (.tp (.cons (.nm 3) (.cons (.nm 4) (.nil)))) (.zip (.var 1) (.sl (.var 2) (.int 1) .nopart)) .yes) = lce at lc ⊢
  generalize (zipD (nD cs) (nD (pl 1 es))).map (gq (pd 1 es)) = Z at lc hl1
  simp [mkFn, xst, ev, evs, evi, initE, endE, outE, Env.cell, Env.put, Env.nx, clear?, BV.rd, BV.esc, BV.keep, BV.giveBack, T.cellOf, escAll, rdAll, keepAll, T.putAll, Res.bind_ok, Res.opt_some, Res.out_ok, Option.bind, Option.map, binD, divOk, cmpD, truD, ixD, toInt, toBl, bvOf, biD, sizeLine, isTyD, isT, D.dt, isNon, isLs, writable, T.assign, itemsD, Option.join, List.getElem?_cons_zero, List.getElem?_cons_succ, List.getElem?_nil, List.set_cons_zero, List.set_cons_succ, List.length_cons, List.length_nil, List.cons_append, List.nil_append, List.append_nil, List.replicate, callF, passIo, List.eraseIdx, List.insertIdx_zero, List.insertIdx_succ_cons, T.forGo, rangeD, in62, ixN, atI, Stt.mut, lc, hl1, hl2]
end Lw


set_option Elab.async false
set_option linter.all false
set_option maxRecDepth 100000
set_option maxHeartbeats 400000
namespace Lw
open PySem PySem.Spec PyProof.Rows L2 T
def wt (es cs : List Nat) : Nat × Nat := ((wg 0 1 es cs).1 / Nat.gcd (wg 0 1 es cs).1 (wg 0 1 es cs).2, (wg 0 1 es cs).2 / Nat.gcd (wg 0 1 es cs).1 (wg 0 1 es cs).2)
def wtD (es cs : List Nat) : D := .tup [.int ((wt es cs).1 : Nat), .int ((wt es cs).2 : Nat)]
structure Good2 (cs : List Nat) : Prop where
  lt : ∀ c ∈ cs, c < 2 ^ 20000
  len : cs.length ≤ 200
def WeightOk (F : Fn) : Prop := F.ar = 2 ∧ F.io = none ∧ ∀ (b : Bool) (es cs : List Nat), Good1 es → Good2 cs → F.run [sqD b es, .tup (nD cs)] = .ret false (wtD es cs) .non
theorem ok_weight {Γ : Nat → Option Fn} {i1 i2 i3 i4 i5 : Nat} {F1 F2 F3 F4 F5 : Fn} (g1 : Γ i1 = some F1) (g2 : Γ i2 = some F2) (g3 : Γ i3 = some F3) (g4 : Γ i4 = some F4) (g5 : Γ i5 = some F5)
    (h1 : LowOk F1) (h2 : ProdOk F2) (h3 : ScaledOk F3) (h4 : ReqCountsOk F4) (h5 : ReqSchedOk F5) : WeightOk (mkFn Γ 2 2 none (c_weight i1 i2 i3 i4 i5)) := by
  obtain ⟨a1, b1, r1⟩ := h1
  obtain ⟨a2, b2, r2⟩ := h2
  obtain ⟨a3, b3, r3⟩ := h3
  obtain ⟨a4, b4, r4⟩ := h4
  obtain ⟨a5, b5, r5⟩ := h5
  refine ⟨rfl, rfl, fun b es cs g hc => ?_⟩
  have hP : pp es es.length = pd 1 es := by rw [pd_eq, Nat.one_mul]
  have hPs : pd 1 es < 2 ^ 8900 := by rw [← hP]; exact g.pr
  have hP0 : 0 < pd 1 es := by rw [← hP]; exact pp_pos g.ge _
  obtain ⟨w1, w2, w3⟩ := sw_wg es cs 0 1 (by decide) fun e he => by have := g.ge e he; omega
  rw [Nat.zero_mul, Nat.zero_add] at w1
  obtain ⟨v1, v2⟩ := low_same w1 w2 w3 hP0
  have e5 := r5 b es g.ge g.len
  have e4 := r4 cs hc.len
  have e3 := r3 b es cs g hc.lt hc.len
  have e2 := r2 b es g
  have e1 := r1 (sw (pd 1 es) cs (pl 1 es)) (pd 1 es) hP0 hPs
  rw [v1, v2] at e1
  have hl := pref_last es es.length
  rw [hP] at hl
  generalize sqD b es = S0 at e5 e3 e2 ⊢
  generalize D.tup (nD cs) = C0 at e4 e3 ⊢
  generalize nD (pref es es.length) = L at hl e2
  refine (run_eq rfl).trans ?_
  unfold c_weight
  show endE none (xst Γ (.cons _ (.cons _ (.cons _ .nil))) [some ⟨.fz, S0⟩, some ⟨.fz, C0⟩]) = _
  rw [seq_nx [some ⟨.fz, S0⟩, some ⟨.fz, C0⟩] (by simp [mkFn, xst, ev, evs, evi, initE, endE, outE, Env.cell, Env.put, Env.nx, clear?, BV.rd, BV.esc, BV.keep, BV.giveBack, T.cellOf, escAll, rdAll, keepAll, T.putAll, Res.bind_ok, Res.opt_some, Res.out_ok, Option.bind, Option.map, binD, divOk, cmpD, truD, ixD, toInt, toBl, bvOf, biD, sizeLine, isTyD, isT, D.dt, isNon, isLs, writable, T.assign, itemsD, Option.join, List.getElem?_cons_zero, List.getElem?_cons_succ, List.getElem?_nil, List.set_cons_zero, List.set_cons_succ, List.length_cons, List.length_nil, List.cons_append, List.nil_append, List.append_nil, List.replicate, callF, passIo, List.eraseIdx, List.insertIdx_zero, List.insertIdx_succ_cons, T.forGo, rangeD, in62, ixN, atI, Stt.mut, g5, a5, b5, e5])]
  rw [seq_nx [some ⟨.fz, S0⟩, some ⟨.fz, C0⟩] (by simp [mkFn, xst, ev, evs, evi, initE, endE, outE, Env.cell, Env.put, Env.nx, clear?, BV.rd, BV.esc, BV.keep, BV.giveBack, T.cellOf, escAll, rdAll, keepAll, T.putAll, Res.bind_ok, Res.opt_some, Res.out_ok, Option.bind, Option.map, binD, divOk, cmpD, truD, ixD, toInt, toBl, bvOf, biD, sizeLine, isTyD, isT, D.dt, isNon, isLs, writable, T.assign, itemsD, Option.join, List.getElem?_cons_zero, List.getElem?_cons_succ, List.getElem?_nil, List.set_cons_zero, List.set_cons_succ, List.length_cons, List.length_nil, List.cons_append, List.nil_append, List.append_nil, List.replicate, callF, passIo, List.eraseIdx, List.insertIdx_zero, List.insertIdx_succ_cons, T.forGo, rangeD, in62, ixN, atI, Stt.mut, g4, a4, b4, e4])]
  have hx : ev Γ (.ix (.call i2 (.cons (.var 0) .nil)) (.neg (.int 1))) [some ⟨.fz, S0⟩, some ⟨.fz, C0⟩] = .ok (.dt (.int (pd 1 es : Nat))) [some ⟨.fz, S0⟩, some ⟨.fz, C0⟩] := by
    simp [ev, evs, Env.cell, BV.rd, BV.esc, escAll, callF, g2, a2, b2, e2, toInt, hl, bvOf]
  generalize (E.ix (.call i2 (.cons (.var 0) .nil)) (.neg (.int 1))) = X at hx ⊢
  simp [mkFn, xst, ev, evs, evi, initE, endE, outE, Env.cell, Env.put, Env.nx, clear?, BV.rd, BV.esc, BV.keep, BV.giveBack, T.cellOf, escAll, rdAll, keepAll, T.putAll, Res.bind_ok, Res.opt_some, Res.out_ok, Option.bind, Option.map, binD, divOk, cmpD, truD, ixD, toInt, toBl, bvOf, biD, sizeLine, isTyD, isT, D.dt, isNon, isLs, writable, T.assign, itemsD, Option.join, List.getElem?_cons_zero, List.getElem?_cons_succ, List.getElem?_nil, List.set_cons_zero, List.set_cons_succ, List.length_cons, List.length_nil, List.cons_append, List.nil_append, List.append_nil, List.replicate, callF, passIo, List.eraseIdx, List.insertIdx_zero, List.insertIdx_succ_cons, T.forGo, rangeD, in62, ixN, atI, Stt.mut, g1, a1, b1, e1, g3, a3, b3, e3, hx, wtD, wt]
theorem p120 {x : Nat} (h : x < 2 ^ 120) : x < 2 ^ 20000 := Nat.lt_of_lt_of_le h (Nat.pow_le_pow_right (by decide) (by decide))
theorem nD_eq (es : List Nat) : nD es = (es.map fun e : Nat => (e : Int)).map D.int := by simp [nD]
end Lw


set_option Elab.async false
set_option linter.all false
set_option maxRecDepth 100000
set_option maxHeartbeats 400000
namespace Lw
open PySem PySem.Spec PyProof.Rows L2 T
theorem pp_bound {es : List Nat} {k : Nat} (h : ∀ e ∈ es, e < 2 ^ k) : ∀ j, pp es j ≤ 2 ^ (k * j) := by
  intro j
  induction j with
  | zero => simp [pp]
  | succ j ih =>
    cases hj : es[j]? with
    | none =>
      have hn := List.getElem?_eq_none_iff.mp hj
      have e : pp es (j + 1) = pp es j := by
        unfold pp
        rw [List.take_of_length_le hn, List.take_of_length_le (by omega)]
      rw [e]
      exact Nat.le_trans ih (Nat.pow_le_pow_right (by decide) (Nat.mul_le_mul_left k (by omega)))
    | some x =>
      rw [pp_succ hj, Nat.mul_succ, Nat.pow_add]
      exact Nat.mul_le_mul ih (Nat.le_of_lt (h x (List.mem_of_getElem? hj)))
theorem good_of {es : List Nat} {k n : Nat} (h1 : ∀ e ∈ es, 2 ≤ e) (h2 : ∀ e ∈ es, e < 2 ^ k) (hk : k ≤ 50) (hl : es.length ≤ n) (hn : n ≤ 200) (hkn : k * n < 8900) : Good1 es :=
  ⟨h1, fun e he => Nat.lt_of_lt_of_le (h2 e he) (Nat.pow_le_pow_right (by decide) hk), by omega,
    Nat.lt_of_le_of_lt (pp_bound h2 _) (Nat.pow_lt_pow_right (by decide) (Nat.lt_of_le_of_lt (Nat.mul_le_mul_left k hl) hkn))⟩
theorem toNat_nD : ∀ {es : List Int}, (∀ e ∈ es, 0 ≤ e) → es.map D.int = nD (es.map Int.toNat)
  | [], _ => rfl
  | e :: es, h => by
    have ih := toNat_nD (es := es) fun x hx => h x (List.mem_cons_of_mem _ hx)
    have h0 := h e List.mem_cons_self
    have e1 : ((e.toNat : Nat) : Int) = e := Int.toNat_of_nonneg h0
    show D.int e :: es.map D.int = D.int ((e.toNat : Nat) : Int) :: nD (es.map Int.toNat)
    rw [ih, e1]
def RoundsN (F : Fn) : Prop := F.ar = 2 ∧ F.io = some 0 ∧ ∀ s c n h : Int, 0 ≤ n → n < 90000000 → 0 ≤ h → h ≤ 30 →
  ∃ (es : List Nat) (s' n' : Int), F.run [src s c n, .int h] = .ret true (.lst (nD es)) (src s' c n') ∧ Good1 es ∧ es.length ≤ 30 ∧ n ≤ n' ∧ n' ≤ n + 100
theorem roundsN {F : Fn} (h : RoundsOk F) : RoundsN F := by
  obtain ⟨a, b, r⟩ := h
  refine ⟨a, b, fun s c n h h0 h1 h2 h3 => ?_⟩
  obtain ⟨es, s', n', e, hl, he, g1, g2⟩ := r s c n h h0 h1 h2 (by omega)
  rw [toNat_nD (fun x hx => by have := he x hx; omega)] at e
  refine ⟨es.map Int.toNat, s', n', e, ?_, by rw [List.length_map]; omega, g1, by omega⟩
  refine good_of (k := 50) (n := 30) (fun x hx => ?_) (fun x hx => ?_) (Nat.le_refl _) (by rw [List.length_map]; omega) (by decide) (by decide)
  · obtain ⟨y, hy, rfl⟩ := List.mem_map.mp hx
    have := he y hy
    omega
  · obtain ⟨y, hy, rfl⟩ := List.mem_map.mp hx
    have := he y hy
    omega
def PeopleN (F : Fn) : Prop := F.ar = 2 ∧ F.io = some 0 ∧ ∀ s c n h : Int, 0 ≤ n → n < 80000000 → 0 ≤ h → h ≤ 100 →
  ∃ (cs : List Nat) (s' n' : Int), F.run [src s c n, .int h] = .ret false (.tup (nD cs)) (src s' c n') ∧ Good2 cs ∧ cs.length ≤ 100 ∧ n ≤ n' ∧ n' ≤ n + 1000
theorem peopleN {F : Fn} (h : PeopleOk F) : PeopleN F := by
  obtain ⟨a, b, r⟩ := h
  refine ⟨a, b, fun s c n h h0 h1 h2 h3 => ?_⟩
  obtain ⟨es, s', n', e, hl, he, g1, g2⟩ := r s c n h h0 h1 h2 (by omega)
  rw [toNat_nD (fun x hx => (he x hx).1)] at e
  refine ⟨es.map Int.toNat, s', n', e, ⟨fun x hx => ?_, by rw [List.length_map]; omega⟩, by rw [List.length_map]; omega, g1, by omega⟩
  obtain ⟨y, hy, rfl⟩ := List.mem_map.mp hx
  have := he y hy
  exact p120 (by omega)
end Lw


set_option Elab.async false
set_option linter.all false
set_option maxRecDepth 100000
set_option maxHeartbeats 1000000
set_option checkBinderAnnotations false
/-! What holds behind a piece of code: rules for proofs about codes. -/
namespace T
open PySem PySem.Spec PyProof.Rows L2

/-- cells -/
abbrev cf (d : D) : Option Cell := some ⟨.fz, d⟩
abbrev co (d : D) : Option Cell := some ⟨.own, d⟩
abbrev cb (d : D) : Option Cell := some ⟨.bor, d⟩
structure Pst where
  nx : Env → Prop
  rt : Bool → D → Env → Prop
  bk : Env → Prop
  ct : Env → Prop
  ex : Exn → Env → Prop
def Ro : Out → Pst → Prop
  | .nx c, Q => Q.nx c
  | .rt fr d c, Q => Q.rt fr d c
  | .bk c, Q => Q.bk c
  | .ct c, Q => Q.ct c
  | .ex x c, Q => Q.ex x c
  | .no, _ => False
def Rw {α : Type} (r : Res α) [X : Exn → Env → Prop] [K : α → Env → Prop] : Prop := match r with
  | .ok a c => K a c
  | .ex x c => X x c
  | .no => False
def Ow {α : Type} (o : Option α) [K : α → Prop] : Prop := match o with
  | some a => K a
  | none => False
@[irreducible] def Cw (b : Bool) [A : Prop] [B : Prop] : Prop := match b with
  | true => A
  | false => B
/-- a def's run -/
def Wf (F : Fn) (ds : List D) [X : Exn → D → Prop] [K : Bool → D → D → Prop] : Prop := match F.run ds with
  | .ret fr d o => K fr d o
  | .ex x o => X x o
  | .no => False
section
variable {α β : Type} {X : Exn → Env → Prop} {c : Env}
theorem Rw_ok (a : α) (K : α → Env → Prop) : @Rw _ (.ok a c) X K = K a c := id rfl
theorem Rw_ex (x : Exn) (K : α → Env → Prop) : @Rw _ (.ex x c) X K = X x c := id rfl
theorem Rw_no (K : α → Env → Prop) : @Rw _ .no X K = False := id rfl
theorem Rw_bind (r : Res α) (f : α → Env → Res β) (K : β → Env → Prop) : @Rw _ (r.bind f) X K = @Rw _ r X fun a c => @Rw _ (f a c) X K := by
  cases r <;> rfl
theorem Rw_opt (o : Option α) (K : α → Env → Prop) : @Rw _ (Res.opt o c) X K = @Ow _ o fun a => K a c := by
  cases o <;> rfl
theorem Ow_some (a : α) (K : α → Prop) : @Ow _ (some a) K = K a := id rfl
theorem Ow_none (K : α → Prop) : @Ow _ none K = False := id rfl
theorem Ow_bind (o : Option α) (f : α → Option β) (K : β → Prop) : @Ow _ (o.bind f) K = @Ow _ o fun a => @Ow _ (f a) K := by
  cases o <;> rfl
theorem Ow_map (o : Option α) (f : α → β) (K : β → Prop) : @Ow _ (o.map f) K = @Ow _ o fun a => K (f a) := by
  cases o <;> rfl
theorem Ow_ite {p : Prop} [Decidable p] (a : α) (K : α → Prop) : @Ow _ (if p then some a else none) K = (p ∧ K a) := by
  by_cases h : p <;> simp [h, Ow]
theorem Ow_inv {o : Option α} {K : α → Prop} (h : @Ow _ o K) : ∃ a, o = some a ∧ K a := by
  cases o with
  | none => exact h.elim
  | some a => exact ⟨a, rfl, h⟩
theorem Cw_true (A B : Prop) : @Cw true A B = A := by unfold Cw; rfl
theorem Cw_false (A B : Prop) : @Cw false A B = B := by unfold Cw; rfl
theorem Cw_not (b : Bool) (A B : Prop) : @Cw (!b) A B = @Cw b B A := by cases b <;> (unfold Cw; rfl)
theorem Cw_dec {p : Prop} [Decidable p] {A B : Prop} (h1 : p → A) (h2 : ¬ p → B) : @Cw (decide p) A B := by
  by_cases h : p
  · rw [decide_eq_true h, Cw_true]; exact h1 h
  · rw [decide_eq_false h, Cw_false]; exact h2 h
theorem Cw_cases {b : Bool} {A B : Prop} (h1 : b = true → A) (h2 : b = false → B) : @Cw b A B := by
  cases b
  · rw [Cw_false]; exact h2 rfl
  · rw [Cw_true]; exact h1 rfl
theorem Rw_mono {r : Res α} {X' : Exn → Env → Prop} {K K' : α → Env → Prop} (h : @Rw _ r X K) (i : ∀ a c, K a c → K' a c) (j : ∀ x c, X x c → X' x c) : @Rw _ r X' K' := by
  cases r with
  | ok a c => exact i _ _ h
  | ex x c => exact j _ _ h
  | no => exact h
theorem Ro_mono {o : Out} {Q Q' : Pst} (h : Ro o Q) (h1 : ∀ c, Q.nx c → Q'.nx c) (h2 : ∀ f d c, Q.rt f d c → Q'.rt f d c) (h3 : ∀ c, Q.bk c → Q'.bk c) (h4 : ∀ c, Q.ct c → Q'.ct c) (h5 : ∀ x c, Q.ex x c → Q'.ex x c) : Ro o Q' := by
  cases o with
  | nx c => exact h1 _ h
  | rt f d c => exact h2 _ _ _ h
  | bk c => exact h3 _ h
  | ct c => exact h4 _ h
  | ex x c => exact h5 _ _ h
  | no => exact h
end



section
variable (Γ : Nat → Option Fn)
def We (e : E) (c : Env) [X : Exn → Env → Prop] [K : BV → Env → Prop] : Prop := @Rw _ (ev Γ e c) X K
def Wes (e : E) (c : Env) [X : Exn → Env → Prop] [K : List BV → Env → Prop] : Prop := @Rw _ (evs Γ e c) X K
def Wei (e : E) (c : Env) [X : Exn → Env → Prop] [K : List D → Env → Prop] : Prop := @Rw _ (evi Γ e c) X K
def Ws (s : S) (c : Env) [Q : Pst] : Prop := Ro (xst Γ s c) Q
/-- the walk of a comprehension -/
noncomputable def lcF (own : List Nat) (elt : E) (tg : Tg) (cond : E) : D → Env → Res (Option D) := fun x c => match assign tg x (wipeE own c) with
  | none => .no
  | some c => (ev Γ cond c).bind fun t c => match (t.rd c).bind toBl with
    | some true => (ev Γ elt c).bind fun y c => (y.esc c).bind fun d c => .ok (some d) c
    | some false => .ok none c
    | none => .no
noncomputable def forF (tg : Tg) (body : S) : D → Env → Out := fun x c => match assign tg x c with
  | none => .no
  | some c => xst Γ body c
def Wlc (own : List Nat) (elt : E) (tg : Tg) (cond : E) (xs : List D) (c : Env) [X : Exn → Env → Prop] [K : BV → Env → Prop] : Prop :=
  @Rw _ ((lcGo (lcF Γ own elt tg cond) xs c).bind fun l c' => if l.length ≤ sizeLine then .ok (.fr (.lst l)) (restE c own c') else .no) X K
def Wfor (tg : Tg) (body : S) (xs : List D) (c : Env) [Q : Pst] : Prop := Ro (forGo (forF Γ tg body) xs c) Q
def callW (F : Option Fn) (bs : List BV) (c : Env) [X : Exn → Env → Prop] [K : BV → Env → Prop] : Prop := @Ow _ F fun F => @Rw _ (callF F bs c) X K
def callKW (F : Option Fn) (pm : List Nat) (bs : List BV) (c : Env) [X : Exn → Env → Prop] [K : BV → Env → Prop] : Prop := @Ow _ F fun F => @Rw _ (callKF F pm bs c) X K








end

section
variable {Γ : Nat → Option Fn} {c : Env} {X : Exn → Env → Prop} {K : BV → Env → Prop}
theorem We_var (i : Nat) : @We Γ (.var i) c X K = @Ow _ (c.cell i) fun x => @Cw x.st.mut (K (.slot i) c) (K (.dt x.d) c) := by
  unfold We
  simp only [ev]
  cases h : c.cell i with
  | none => with_unfolding_all rfl
  | some x =>
    obtain ⟨st, d⟩ := x
    cases st <;> with_unfolding_all rfl
theorem We_non : @We Γ .non c X K = K (.dt .non) c := by unfold We; simp only [ev]; rfl
theorem We_bl (b : Bool) : @We Γ (.bl b) c X K = K (.dt (.bl b)) c := by unfold We; simp only [ev]; rfl
theorem We_int (i : Int) : @We Γ (.int i) c X K = K (.dt (.int i)) c := by unfold We; simp only [ev]; rfl
theorem We_str (x : Str) : @We Γ (.str x) c X K = K (.dt (.str x)) c := by unfold We; simp only [ev]; rfl
theorem We_gl (x : Str) (d : D) : @We Γ (.gl x d) c X K = K (.dt d) c := by unfold We; simp only [ev]; rfl
theorem We_bin (op : BOp) (a b : E) : @We Γ (.bin op a b) c X K = @We Γ a c X fun x c => @We Γ b c X fun y c => @Ow _ (x.rd c) fun x => @Ow _ (y.rd c) fun y => @Ow _ (binD op x y) fun p => K (bvOf p) c := by
  unfold We; simp only [ev, Rw_bind, Rw_opt, Ow_bind, Ow_map]
theorem We_neg (a : E) : @We Γ (.neg a) c X K = @We Γ a c X fun x c => @Ow _ (x.rd c) fun x => @Ow _ (toInt x) fun i => K (.dt (.int (-i))) c := by
  unfold We; simp only [ev, Rw_bind, Rw_opt, Ow_bind, Ow_map]
theorem We_nt (a : E) : @We Γ (.nt a) c X K = @We Γ a c X fun x c => @Ow _ (x.rd c) fun x => @Ow _ (toBl x) fun i => K (.dt (.bl (!i))) c := by
  unfold We; simp only [ev, Rw_bind, Rw_opt, Ow_bind, Ow_map]
theorem We_and (a b : E) : @We Γ (.andE a b) c X K = @We Γ a c X fun x c => @Ow _ (x.rd c) fun x => @Ow _ (toBl x) fun t => @Cw t (@We Γ b c X K) (K (.dt (.bl false)) c) := by
  unfold We; simp only [ev, Rw_bind]
  congr 1; funext x c
  rcases x.rd c with _ | d
  · with_unfolding_all rfl
  · simp only [Option.bind_some, Ow_some]
    rcases toBl d with _ | b
    · with_unfolding_all rfl
    · cases b <;> with_unfolding_all rfl
theorem We_or (a b : E) : @We Γ (.orE a b) c X K = @We Γ a c X fun x c => @Ow _ (x.rd c) fun x => @Ow _ (toBl x) fun t => @Cw t (K (.dt (.bl true)) c) (@We Γ b c X K) := by
  unfold We; simp only [ev, Rw_bind]
  congr 1; funext x c
  rcases x.rd c with _ | d
  · with_unfolding_all rfl
  · simp only [Option.bind_some, Ow_some]
    rcases toBl d with _ | b
    · with_unfolding_all rfl
    · cases b <;> with_unfolding_all rfl
theorem We_ite (t a b : E) : @We Γ (.ite t a b) c X K = @We Γ t c X fun x c => @Ow _ (x.rd c) fun x => @Ow _ (toBl x) fun t => @Cw t (@We Γ a c X K) (@We Γ b c X K) := by
  unfold We; simp only [ev, Rw_bind]
  congr 1; funext x c
  rcases x.rd c with _ | d
  · with_unfolding_all rfl
  · simp only [Option.bind_some, Ow_some]
    rcases toBl d with _ | b
    · with_unfolding_all rfl
    · cases b <;> with_unfolding_all rfl
theorem We_cmp (op : COp) (a b : E) : @We Γ (.cmp op a b) c X K = @We Γ a c X fun x c => @We Γ b c X fun y c => @Ow _ (x.rd c) fun x => @Ow _ (y.rd c) fun y => @Ow _ (cmpD op x y) fun p => K (.dt (.bl p)) c := by
  unfold We; simp only [ev, Rw_bind, Rw_opt, Ow_bind, Ow_map]
theorem We_chain (o1 o2 : COp) (a b e : E) : @We Γ (.chain o1 o2 a b e) c X K = @We Γ a c X fun x c => @We Γ b c X fun y c => @Ow _ (x.rd c) fun dx => @Ow _ (y.rd c) fun dy => @Ow _ (cmpD o1 dx dy) fun t =>
    @Cw t (@We Γ e c X fun z c => @Ow _ (y.rd c) fun dy => @Ow _ (z.rd c) fun dz => @Ow _ (cmpD o2 dy dz) fun p => K (.dt (.bl p)) c) (K (.dt (.bl false)) c) := by
  unfold We; simp only [ev, Rw_bind]
  congr 1; funext x c; congr 1; funext y c
  rcases x.rd c with _ | d
  · with_unfolding_all rfl
  · simp only [Option.bind_some, Ow_some]
    rcases y.rd c with _ | d2
    · with_unfolding_all rfl
    · simp only [Option.bind_some, Ow_some]
      rcases cmpD o1 d d2 with _ | b
      · with_unfolding_all rfl
      · cases b
        · with_unfolding_all rfl
        · simp only [Rw_bind, Rw_opt, Ow_bind, Ow_map, Ow_some, Cw_true]
theorem We_tup (args : E) : @We Γ (.tupE args) c X K = @Wes Γ args c X fun bs c => @Rw _ (escAll bs c) X fun ds c => ds.length ≤ sizeLine ∧ K (.dt (.tup ds)) c := by
  unfold We Wes; simp only [ev, Rw_bind]
  congr 1; funext bs c; congr 1; funext ds c
  split <;> simp [Rw, *]
theorem We_lst (args : E) : @We Γ (.lstE args) c X K = @Wes Γ args c X fun bs c => @Rw _ (escAll bs c) X fun ds c => ds.length ≤ sizeLine ∧ K (.fr (.lst ds)) c := by
  unfold We Wes; simp only [ev, Rw_bind]
  congr 1; funext bs c; congr 1; funext ds c
  split <;> simp [Rw, *]
theorem We_ix (a b : E) : @We Γ (.ix a b) c X K = @We Γ a c X fun x c => @We Γ b c X fun y c => @Ow _ (x.rd c) fun x => @Ow _ (y.rd c) fun y => @Ow _ (ixD x y) fun p => K (.dt p) c := by
  unfold We; simp only [ev, Rw_bind, Rw_opt, Ow_bind, Ow_map]
theorem We_sl (a lo hi : E) : @We Γ (.sl a lo hi) c X K = @We Γ a c X fun x c => @We Γ lo c X fun l c => @Ow _ (partE lo (l.rd c)) fun l => @We Γ hi c X fun h c => @Ow _ (partE hi (h.rd c)) fun h => @Ow _ (x.rd c) fun x => @Ow _ (slD x l h) fun p => K (bvOf p) c := by
  unfold We; simp only [ev, Rw_bind, Rw_opt, Ow_bind, Ow_map]
theorem We_nopart : @We Γ .nopart c X K = K (.dt .non) c := by unfold We; simp only [ev]; rfl
def rvD : D → Option D
  | .lst xs => some (.lst xs.reverse)
  | _ => none
theorem We_rvs (a : E) : @We Γ (.rvs a) c X K = @We Γ a c X fun x c => @Ow _ (x.rd c) fun x => @Ow _ (rvD x) fun r => K (.fr r) c := by
  unfold We; simp only [ev, Rw_bind]
  congr 1; funext x c
  cases x.rd c with
  | none => rfl
  | some d => cases d <;> rfl
theorem We_call (f : Nat) (args : E) : @We Γ (.call f args) c X K = @Wes Γ args c X fun bs c => @callW (Γ f) bs c X K := by
  unfold We Wes callW; simp only [ev, Rw_bind]
  congr 1; funext bs c
  cases Γ f <;> rfl
theorem We_callK (f : Nat) (args kws : E) (ks : List Str) (pm : List Nat) : @We Γ (.callK f args kws ks pm) c X K = @Wes Γ args c X fun bs c => @Wes Γ kws c X fun bs' c => @callKW (Γ f) pm (bs ++ bs') c X K := by
  unfold We Wes callKW; simp only [ev, Rw_bind]
  congr 1; funext bs c; congr 1; funext bs c
  cases Γ f <;> rfl
theorem We_bi (b : BI) (args : E) : @We Γ (.bi b args) c X K = @Wes Γ args c X fun bs c => @Ow _ (rdAll c bs) fun ds => @Ow _ (biD b ds) fun p => K (bvOf p) c := by
  unfold We Wes; simp only [ev, Rw_bind, Rw_opt, Ow_bind, Ow_map]
theorem We_mth (m : MI) (a args : E) : @We Γ (.mth m a args) c X K = @We Γ a c X fun x c => isLs (x.rd c) = true ∧ @Wes Γ args c X fun bs c => @Ow _ (x.rd c) fun x => @Ow _ (rdAll c bs) fun ds => @Ow _ (mthD m x ds) fun p => K (bvOf p) c := by
  unfold We Wes; simp only [ev, Rw_bind]
  congr 1; funext x c
  cases isLs (x.rd c) with
  | false => simp [Rw]
  | true => simp [Rw_bind, Rw_opt, Ow_bind, Ow_map]
theorem We_isi (a : E) (one : Bool) (tys : List Ty) : @We Γ (.isi a one tys) c X K = @We Γ a c X fun x c => @Ow _ (x.rd c) fun x => K (.dt (.bl (tys.any (isTyD x)))) c := by
  unfold We; simp only [ev, Rw_bind, Rw_opt, Ow_bind, Ow_map]
theorem We_lc (own : List Nat) (elt : E) (tg : Tg) (it cond : E) : @We Γ (.lc own elt tg it cond) c X K = @Wei Γ it c X fun xs c => own.all (free? c) = true ∧ @Wlc Γ own elt tg cond xs c X K := by
  unfold We Wei Wlc; simp only [ev, Rw_bind]
  congr 1; funext xs c
  cases own.all (free? c) with
  | false => simp [Rw]
  | true =>
    simp only [Bool.true_eq_false, if_false, Rw_bind, true_and]
    rfl
theorem We_yes : @We Γ .yes c X K = K (.dt (.bl true)) c := by unfold We; simp only [ev]; rfl
theorem We_val (a : E) : @We Γ (.val a) c X K = @We Γ a c X K := by unfold We; simp only [ev]
theorem We_tru (a : E) : @We Γ (.tru a) c X K = @We Γ a c X fun x c => @Ow _ (x.rd c) fun x => @Ow _ (truD x) fun b => K (.dt (.bl b)) c := by
  unfold We; simp only [ev, Rw_bind, Rw_opt, Ow_bind, Ow_map]
theorem Wes_nil {K : List BV → Env → Prop} : @Wes Γ .nil c X K = K [] c := by unfold Wes; simp only [evs]; rfl
theorem Wes_cons {K : List BV → Env → Prop} (a b : E) : @Wes Γ (.cons a b) c X K = @We Γ a c X fun x c => @Wes Γ b c X fun xs c => K (x :: xs) c := by
  unfold We Wes; simp only [evs, Rw_bind, Rw_ok]
theorem Wei_seq {K : List D → Env → Prop} (a : E) : @Wei Γ (.seq a) c X K = @We Γ a c X fun x c => @Rw _ (x.esc c) X fun d c => @Ow _ (itemsD d) fun xs => K xs c := by
  unfold We Wei; simp only [evi, Rw_bind, Rw_opt]
theorem Wei_range1 {K : List D → Env → Prop} (a : E) : @Wei Γ (.range1 a) c X K = @We Γ a c X fun x c => @Ow _ (x.rd c) fun x => @Ow _ (toInt x) fun i => in62 i = true ∧ K (rangeD 0 i.toNat) c := by
  unfold We Wei; simp only [evi, Rw_bind, Rw_opt, Ow_bind, Ow_ite]
theorem Wei_range2 {K : List D → Env → Prop} (a b : E) : @Wei Γ (.range2 a b) c X K = @We Γ a c X fun x c => @We Γ b c X fun y c => @Ow _ (x.rd c) fun x => @Ow _ (toInt x) fun i => @Ow _ (y.rd c) fun y => @Ow _ (toInt y) fun j => (in62 i = true ∧ in62 j = true) ∧ K (rangeD i (j - i).toNat) c := by
  unfold We Wei; simp only [evi, Rw_bind, Rw_opt, Ow_bind, Ow_ite, Bool.and_eq_true]
theorem Wei_enum {K : List D → Env → Prop} (a : E) : @Wei Γ (.enum a) c X K = @We Γ a c X fun x c => @Rw _ (x.esc c) X fun d c => @Ow _ (itemsD d) fun xs => K (enumD 0 xs) c := by
  unfold We Wei; simp only [evi, Rw_bind, Rw_opt, Ow_map]
theorem Wei_zip {K : List D → Env → Prop} (a b : E) : @Wei Γ (.zip a b) c X K = @We Γ a c X fun x c => @We Γ b c X fun y c => @Rw _ (x.esc c) X fun d c => @Rw _ (y.esc c) X fun e c => @Ow _ (itemsD d) fun xs => @Ow _ (itemsD e) fun ys => K (zipD xs ys) c := by
  unfold We Wei; simp only [evi, Rw_bind, Rw_opt, Ow_bind, Ow_map]
end

def Pst.seq (Γ : Nat → Option Fn) [b : S] [Q : Pst] : Pst := ⟨fun c => @Ws Γ b c Q, Q.rt, Q.bk, Q.ct, Q.ex⟩
def Pst.fg (l : List Nat) [Q : Pst] : Pst := ⟨fun c => Q.nx (wipeE l c), Q.rt, Q.bk, fun c => Q.ct (wipeE l c), Q.ex⟩



section
variable {Γ : Nat → Option Fn} {b : S} {Q : Pst} {l : List Nat}
theorem psq_nx (c : Env) : (@Pst.seq Γ b Q).nx c = @Ws Γ b c Q := id rfl
theorem psq_rt (f : Bool) (d : D) (c : Env) : (@Pst.seq Γ b Q).rt f d c = Q.rt f d c := id rfl
theorem psq_bk (c : Env) : (@Pst.seq Γ b Q).bk c = Q.bk c := id rfl
theorem psq_ct (c : Env) : (@Pst.seq Γ b Q).ct c = Q.ct c := id rfl
theorem psq_ex (x : Exn) (c : Env) : (@Pst.seq Γ b Q).ex x c = Q.ex x c := id rfl
theorem pfg_nx (c : Env) : (@Pst.fg l Q).nx c = Q.nx (wipeE l c) := id rfl
theorem pfg_ct (c : Env) : (@Pst.fg l Q).ct c = Q.ct (wipeE l c) := id rfl
theorem pfg_rt (f : Bool) (d : D) (c : Env) : (@Pst.fg l Q).rt f d c = Q.rt f d c := id rfl
theorem pfg_bk (c : Env) : (@Pst.fg l Q).bk c = Q.bk c := id rfl
theorem pfg_ex (x : Exn) (c : Env) : (@Pst.fg l Q).ex x c = Q.ex x c := id rfl
end
section
variable {Γ : Nat → Option Fn} {c : Env} {Q : Pst}
theorem Ro_out {α : Type} (r : Res α) (f : α → Env → Out) : Ro (r.out f) Q = @Rw _ r Q.ex fun a c => Ro (f a c) Q := by cases r <;> rfl
theorem Ro_nx (o : Option Env) : Ro (Env.nx o) Q = @Ow _ o Q.nx := by cases o <;> rfl
theorem Ws_pass : @Ws Γ .pass c Q = Q.nx c := by unfold Ws; simp only [xst]; rfl
theorem Ws_brk : @Ws Γ .brk c Q = Q.bk c := by unfold Ws; simp only [xst]; rfl
theorem Ws_cont : @Ws Γ .cont c Q = Q.ct c := by unfold Ws; simp only [xst]; rfl
theorem Ws_nil : @Ws Γ .nil c Q = Q.nx c := by unfold Ws; simp only [xst]; rfl
theorem Ws_cons (a b : S) : @Ws Γ (.cons a b) c Q = @Ws Γ a c (@Pst.seq Γ b Q) := by
  unfold Pst.seq
  unfold Ws; simp only [xst]
  cases xst Γ a c <;> rfl
theorem Ws_step {a b : S} (h : ∀ Q' : Pst, Q' = @Pst.seq Γ b Q → @Ws Γ a c Q') : @Ws Γ (.cons a b) c Q := by
  rw [Ws_cons]; exact h _ rfl
theorem Ws_asg (i : Nat) (e : E) : @Ws Γ (.asg i e) c Q = @We Γ e c Q.ex fun x c => @Rw _ (x.keep c) Q.ex fun p c => @Ow _ (c.put i (T.cellOf p)) Q.nx := by
  unfold Ws We; simp only [xst, Ro_out, Ro_nx]
theorem Ws_par (is : List Nat) (es : E) : @Ws Γ (.par is es) c Q = @Wes Γ es c Q.ex fun bs c => @Rw _ (keepAll bs c) Q.ex fun ps c => @Ow _ (T.putAll is ps c) Q.nx := by
  unfold Ws Wes; simp only [xst, Ro_out, Ro_nx]
theorem Ws_unp (tg : Tg) (e : E) : @Ws Γ (.unp tg e) c Q = @We Γ e c Q.ex fun x c => @Rw _ (x.esc c) Q.ex fun d c => @Ow _ (T.assign tg d c) Q.nx := by
  unfold Ws We; simp only [xst, Ro_out, Ro_nx]
theorem Ws_drop (e : E) : @Ws Γ (.drop e) c Q = @We Γ e c Q.ex fun _ c => Q.nx c := by
  unfold Ws We; simp only [xst, Ro_out]; rfl
def fzInt : Option Cell → Option Int
  | some ⟨.fz, .int x⟩ => some x
  | _ => none
theorem Ws_aug (i : Nat) (op : BOp) (e : E) : @Ws Γ (.aug i op e) c Q = @Ow _ (fzInt (c.cell i)) fun x => @We Γ e c Q.ex fun y c => @Ow _ (y.rd c) fun y => @Ow _ (toInt y) fun y => @Ow _ (augD op x y) fun z => @Ow _ (c.put i ⟨.fz, .int z⟩) Q.nx := by
  unfold Ws We; simp only [xst]
  rcases h : c.cell i with _ | ⟨st, d⟩
  · rfl
  · cases st <;> first | rfl | skip
    cases d <;> first | rfl | skip
    simp only [fzInt, Ow_some, Ro_out]
    congr 1; funext y c
    rcases y.rd c with _ | d2
    · rfl
    · simp only [Option.bind_some, Ow_some]
      rcases toInt d2 with _ | z
      · rfl
      · simp only [Ow_some]
        rcases augD op _ z with _ | w
        · rfl
        · simp only [Ro_nx, Ow_some]
theorem Ws_setI (x : Nat) (i e : E) : @Ws Γ (.setI x i e) c Q = @We Γ e c Q.ex fun y c => @Rw _ (y.esc c) Q.ex fun d c => @Ow _ (c.cell x) fun _ => @We Γ i c Q.ex fun k c => @Ow _ (writable c x) fun w => @Ow _ (k.rd c) fun k => @Ow _ (toInt k) fun k => @Ow _ (ixN w.2.length k) fun j => Q.nx (c.set x (some ⟨w.1, .lst (w.2.set j d)⟩)) := by
  unfold Ws We; simp only [xst, Ro_out]
  congr 1; funext y c; congr 1; funext d c
  cases c.cell x with
  | none => rfl
  | some _ =>
    simp only [Ro_out, Ow_some]
    congr 1; funext k c
    rcases writable c x with _ | ⟨st, l⟩
    · rfl
    · rcases k.rd c with _ | dk
      · rfl
      · simp only [Option.bind_some, Ow_some]
        rcases toInt dk with _ | z
        · rfl
        · simp only [Ow_some]
          rcases ixN l.length z with _ | j <;> rfl
theorem Ws_app (x : Nat) (e : E) : @Ws Γ (.app x e) c Q = @Ow _ (writable c x) fun _ => @We Γ e c Q.ex fun y c => @Rw _ (y.esc c) Q.ex fun d c => @Ow _ (writable c x) fun w => w.2.length < sizeLine ∧ Q.nx (c.set x (some ⟨w.1, .lst (w.2 ++ [d])⟩)) := by
  unfold Ws We; simp only [xst]
  rcases writable c x with _ | w
  · rfl
  · simp only [Ow_some, Ro_out]
    congr 1; funext y c; congr 1; funext d c
    rcases writable c x with _ | ⟨st, l⟩
    · rfl
    · simp only [Ow_some]
      by_cases h : l.length < sizeLine <;> simp [h, Ro]
def frL : BV → Option (List D)
  | .fr (.lst m) => some m
  | _ => none
theorem Ws_ext (x : Nat) (e : E) : @Ws Γ (.ext x e) c Q = @Ow _ (writable c x) fun _ => @We Γ e c Q.ex fun y c => @Ow _ (frL y) fun m => @Ow _ (writable c x) fun w => w.2.length + m.length ≤ sizeLine ∧ Q.nx (c.set x (some ⟨w.1, .lst (w.2 ++ m)⟩)) := by
  unfold Ws We; simp only [xst]
  rcases writable c x with _ | w
  · rfl
  · simp only [Ow_some, Ro_out]
    congr 1; funext y c
    rcases y with i | d | d
    · rfl
    · rfl
    · cases d <;> first | rfl | skip
      rename_i m
      simp only [frL, Ow_some]
      rcases writable c x with _ | ⟨st, l⟩
      · rfl
      · simp only [Ow_some]
        by_cases h : l.length + m.length ≤ sizeLine <;> simp [h, Ro]
theorem Ws_ret (e : E) : @Ws Γ (.ret e) c Q = @We Γ e c Q.ex fun x c => @Rw _ (x.giveBack c) Q.ex fun p c => Q.rt p.1 p.2 c := by
  unfold Ws We; simp only [xst, Ro_out]; rfl
theorem Ws_retN : @Ws Γ .retN c Q = Q.rt false .non c := by unfold Ws; simp only [xst]; rfl
theorem Ws_if (t : E) (a b : S) : @Ws Γ (.ifS t a b) c Q = @We Γ t c Q.ex fun x c => @Ow _ (x.rd c) fun x => @Ow _ (toBl x) fun t => @Cw t (@Ws Γ a c Q) (@Ws Γ b c Q) := by
  unfold Ws We; simp only [xst, Ro_out]
  congr 1; funext x c
  rcases x.rd c with _ | d
  · with_unfolding_all rfl
  · simp only [Option.bind_some, Ow_some]
    rcases toBl d with _ | b
    · with_unfolding_all rfl
    · cases b <;> with_unfolding_all rfl
theorem Ws_for (tg : Tg) (it : E) (body : S) : @Ws Γ (.forS tg it body) c Q = @Wei Γ it c Q.ex fun xs c => @Wfor Γ tg body xs c Q := by
  unfold Ws Wei Wfor; simp only [xst, Ro_out]; rfl
theorem Ws_never : @Ws Γ .never c Q = False := by unfold Ws; simp only [xst]; rfl
theorem Ws_fga (l : List Nat) (s : S) : @Ws Γ (.fga l s) c Q = @Ws Γ s c (@Pst.fg l Q) := by
  unfold Pst.fg
  unfold Ws; simp only [xst]
  cases xst Γ s c <;> rfl
end

/-! ### calls -/
section
variable {F : Fn} {c : Env} {X : Exn → Env → Prop} {K : BV → Env → Prop}
theorem callW_none {bs : List BV} (h1 : F.ar = bs.length) (h2 : F.io = none) (h : @Rw _ (escAll bs c) X fun ds c => @Wf F ds (fun x _ => X x c) fun fr d _ => K (bvOf (fr, d)) c) : @callW (some F) bs c X K := by
  show @Rw _ (callF F bs c) X K
  unfold callF
  rw [if_neg (by rw [h1]; simp), h2]
  simp only [Rw_bind]
  refine Rw_mono h (fun ds c h => ?_) fun _ _ h => h
  unfold Wf at h
  cases hr : F.run ds <;> rw [hr] at h <;> exact h
theorem callKW_none {pm : List Nat} {bs : List BV} (h2 : F.io = none) (h : @Rw _ (escAll bs c) X fun ds c => (permL pm ds).length = F.ar ∧ @Wf F (permL pm ds) (fun x _ => X x c) fun fr d _ => K (bvOf (fr, d)) c) : @callKW (some F) pm bs c X K := by
  show @Rw _ (callKF F pm bs c) X K
  unfold callKF
  rw [h2]
  simp only [Rw_bind]
  refine Rw_mono h (fun ds c h => ?_) fun _ _ h => h
  rw [if_neg (by rw [h.1]; simp)]
  have h := h.2
  unfold Wf at h
  cases hr : F.run (permL pm ds) <;> rw [hr] at h <;> exact h
/-- the first argument may be changed -/
theorem callW_io0 {i : Nat} {bs : List BV} {x : Cell} (h1 : F.ar = bs.length + 1) (h2 : F.io = some 0) (hx : c.cell i = some x) (hm : x.st = .own ∨ x.st = .bor)
    (h : @Rw _ (escAll bs c) X fun ds c => c.cell i = some x ∧ @Wf F (x.d :: ds) (fun e o => X e (c.set i (some ⟨x.st, o⟩))) fun fr d o => K (bvOf (fr, d)) (c.set i (some ⟨x.st, o⟩))) : @callW (some F) (.slot i :: bs) c X K := by
  show @Rw _ (callF F (.slot i :: bs) c) X K
  unfold callF
  rw [if_neg (by rw [h1]; simp), h2]
  obtain ⟨st, d⟩ := x
  have hp : passIo c (.slot i) = some (i, d) := by
    unfold passIo
    simp only [hx]
    rcases hm with hm | hm <;> (simp only at hm; subst hm; rfl)
  simp only [List.getElem?_cons_zero, hp, List.eraseIdx_cons_zero, Rw_bind]
  refine Rw_mono h (fun ds c h => ?_) fun _ _ h => h
  simp only [h.1]
  rw [if_pos hm]
  have h := h.2
  unfold Wf at h
  simp only [List.insertIdx_zero]
  cases hr : F.run (d :: ds) <;> simp only [hr] at h ⊢ <;> exact h
theorem Wf_mono {ds : List D} {X X' : Exn → D → Prop} {K K' : Bool → D → D → Prop} (h : @Wf F ds X K) (i : ∀ fr d o, K fr d o → K' fr d o) (j : ∀ x o, X x o → X' x o) : @Wf F ds X' K' := by
  unfold Wf at h ⊢
  cases hr : F.run ds <;> rw [hr] at h
  · exact i _ _ _ h
  · exact j _ _ h
  · exact h
theorem Wf_run {ds : List D} {X : Exn → D → Prop} {K : Bool → D → D → Prop} {fr : Bool} {d o : D} (h : F.run ds = .ret fr d o) (k : K fr d o) : @Wf F ds X K := by
  unfold Wf; rw [h]; exact k
/-- no exception leaves -/
def noX : Exn → D → Prop := fun _ _ => False
/-- a def answers -/
abbrev Wk (F : Fn) (ds : List D) (K : Bool → D → D → Prop) : Prop := @Wf F ds noX K
theorem Wk_run {ds : List D} {fr : Bool} {d o : D} (h : Wk F ds fun fr' d' o' => fr' = fr ∧ d' = d ∧ o' = o) : F.run ds = .ret fr d o := by
  unfold Wk Wf at h
  cases hr : F.run ds with
  | ret a b e =>
    rw [hr] at h
    obtain ⟨h1, h2, h3⟩ := h
    rw [h1, h2, h3]
  | ex x o => rw [hr] at h; exact h.elim
  | no => rw [hr] at h; exact h.elim
def outW (io : Option Nat) (c : Env) (K : D → Prop) : Prop := match io with
  | none => K .non
  | some k => @Ow _ (c.cell k) fun x => x.st = .bor ∧ K x.d
theorem Wf_mk {Γ : Nat → Option Fn} {ar n : Nat} {io : Option Nat} {body : S} {ds : List D} {X : Exn → D → Prop} {K : Bool → D → D → Prop} (hl : ds.length = ar)
    (h : @Ws Γ body (initE io ds ++ List.replicate (n - ar) none) ⟨fun c => outW io c (K false .non), fun fr d c => outW io c (K fr d), fun _ => False, fun _ => False, fun x c => outW io c (X x)⟩) : @Wf (mkFn Γ ar n io body) ds X K := by
  unfold Wf mkFn
  simp only [hl, if_true]
  unfold Ws at h
  have key : ∀ (c : Env) (P : D → Prop) (g : D → FRes), outW io c P → ∃ d, P d ∧ outE io c g = g d := fun c P g h => by
    unfold outW at h
    unfold outE
    cases io with
    | none => exact ⟨_, h, rfl⟩
    | some k =>
      simp only at h ⊢
      rcases hc : c.cell k with _ | ⟨st, d⟩
      · rw [hc] at h; exact h.elim
      · rw [hc] at h
        obtain ⟨h1, h2⟩ := h
        simp only at h1
        subst h1
        exact ⟨d, h2, rfl⟩
  cases ho : xst Γ body (initE io ds ++ List.replicate (n - ar) none) with
  | nx c => rw [ho] at h; obtain ⟨d, h1, h2⟩ := key c _ (fun o => FRes.ret false .non o) h; simp only [endE, h2]; exact h1
  | rt fr d c => rw [ho] at h; obtain ⟨d', h1, h2⟩ := key c _ (fun o => FRes.ret fr d o) h; simp only [endE, h2]; exact h1
  | bk c => rw [ho] at h; exact h.elim
  | ct c => rw [ho] at h; exact h.elim
  | ex x c => rw [ho] at h; obtain ⟨d', h1, h2⟩ := key c _ (fun o => FRes.ex x o) h; simp only [endE, h2]; exact h1
  | no => rw [ho] at h; exact h.elim
end
section
variable {X : Exn → Env → Prop} {c : Env}
def ownD : Option Cell → Option D
  | some ⟨.own, d⟩ => some d
  | _ => none
theorem we_nil (K : List D → Env → Prop) : @Rw _ (escAll [] c) X K = K [] c := id rfl
theorem we_cons (b : BV) (bs : List BV) (K : List D → Env → Prop) : @Rw _ (escAll (b :: bs) c) X K = @Rw _ (b.esc c) X fun x c => @Rw _ (escAll bs c) X fun xs c => K (x :: xs) c := by
  rw [escAll]; simp only [Rw_bind, Rw_ok]
theorem we_dt (x : D) (K : D → Env → Prop) : @Rw _ (BV.esc c (.dt x)) X K = K x c := id rfl
theorem we_fr (x : D) (K : D → Env → Prop) : @Rw _ (BV.esc c (.fr x)) X K = K x c := id rfl
theorem we_slot (i : Nat) (K : D → Env → Prop) : @Rw _ (BV.esc c (.slot i)) X K = @Ow _ (ownD (c.cell i)) fun d => K d (c.set i (some ⟨.fz, d⟩)) := by
  unfold BV.esc
  simp only
  rcases c.cell i with _ | ⟨st, d⟩
  · rfl
  · cases st <;> rfl
theorem wk_nil (K : List (Bool × D) → Env → Prop) : @Rw _ (keepAll [] c) X K = K [] c := id rfl
theorem wk_cons (b : BV) (bs : List BV) (K : List (Bool × D) → Env → Prop) : @Rw _ (keepAll (b :: bs) c) X K = @Rw _ (b.keep c) X fun x c => @Rw _ (keepAll bs c) X fun xs c => K (x :: xs) c := by
  rw [keepAll]; simp only [Rw_bind, Rw_ok]
theorem wk_dt (x : D) (K : Bool × D → Env → Prop) : @Rw _ (BV.keep c (.dt x)) X K = K (false, x) c := id rfl
theorem wk_fr (x : D) (K : Bool × D → Env → Prop) : @Rw _ (BV.keep c (.fr x)) X K = K (true, x) c := id rfl
theorem wk_slot (i : Nat) (K : Bool × D → Env → Prop) : @Rw _ (BV.keep c (.slot i)) X K = @Ow _ (ownD (c.cell i)) fun d => K (false, d) (c.set i (some ⟨.fz, d⟩)) := by
  unfold BV.keep
  simp only
  rcases c.cell i with _ | ⟨st, d⟩
  · rfl
  · cases st <;> rfl
theorem wg_dt (x : D) (K : Bool × D → Env → Prop) : @Rw _ (BV.giveBack c (.dt x)) X K = K (false, x) c := id rfl
theorem wg_fr (x : D) (K : Bool × D → Env → Prop) : @Rw _ (BV.giveBack c (.fr x)) X K = K (true, x) c := id rfl
theorem wg_slot (i : Nat) (K : Bool × D → Env → Prop) : @Rw _ (BV.giveBack c (.slot i)) X K = @Ow _ (ownD (c.cell i)) fun d => K (true, d) (c.set i none) := by
  unfold BV.giveBack
  simp only
  rcases c.cell i with _ | ⟨st, d⟩
  · rfl
  · cases st <;> rfl
theorem wr_nil (K : List D → Prop) : @Ow _ (rdAll c []) K = K [] := id rfl
theorem wr_cons (b : BV) (bs : List BV) (K : List D → Prop) : @Ow _ (rdAll c (b :: bs)) K = @Ow _ (b.rd c) fun x => @Ow _ (rdAll c bs) fun xs => K (x :: xs) := by
  rw [rdAll]; simp only [Ow_bind, Ow_map]
theorem wo_own (d : D) : ownD (some ⟨.own, d⟩) = some d := id rfl
theorem wc_F (d : D) : T.cellOf (false, d) = ⟨.fz, d⟩ := id rfl
theorem wc_T (d : D) : T.cellOf (true, d) = ⟨.own, d⟩ := id rfl
theorem wp_nil (K : Env → Prop) : @Ow _ (T.putAll [] [] c) K = K c := id rfl
theorem wp_cons (i : Nat) (is : List Nat) (p : Bool × D) (ps : List (Bool × D)) (K : Env → Prop) : @Ow _ (T.putAll (i :: is) (p :: ps) c) K = @Ow _ (c.put i (T.cellOf p)) fun c => @Ow _ (T.putAll is ps c) K := by
  rw [T.putAll]; simp only [Ow_bind]
theorem wput (i : Nat) (x : Cell) : Env.put c i x = if i < c.length ∧ clear? (c.cell i) = true then some (c.set i (some x)) else none := id rfl
theorem wcell (i : Nat) : Env.cell c i = (c[i]?).join := id rfl
theorem wcl0 : clear? none = true := id rfl
theorem wclf (d : D) : clear? (some ⟨.fz, d⟩) = true := id rfl
theorem wclo (d : D) : clear? (some ⟨.own, d⟩) = true := id rfl
theorem wmf : Stt.mut .fz = false := id rfl
theorem wmo : Stt.mut .own = true := id rfl
theorem wmb : Stt.mut .bor = true := id rfl
def wrtC : Option Cell → Option (Stt × List D)
  | some ⟨.own, .lst xs⟩ => some (.own, xs)
  | some ⟨.bor, .lst xs⟩ => some (.bor, xs)
  | _ => none
theorem wwr (i : Nat) : writable c i = wrtC (c.cell i) := by
  unfold writable wrtC
  rcases c.cell i with _ | ⟨st, d⟩
  · rfl
  · cases st <;> cases d <;> rfl
theorem wwo (xs : List D) : wrtC (some ⟨.own, .lst xs⟩) = some (.own, xs) := id rfl
theorem wwb (xs : List D) : wrtC (some ⟨.bor, .lst xs⟩) = some (.bor, xs) := id rfl
def freeC : Option Cell → Bool
  | none => true
  | some ⟨.fz, _⟩ => true
  | _ => false
theorem wfree (i : Nat) : free? c i = freeC (c.cell i) := by
  unfold free? freeC
  rcases c.cell i with _ | ⟨st, d⟩
  · rfl
  · cases st <;> rfl
theorem wfree0 : freeC none = true := id rfl
theorem wfreef (d : D) : freeC (some ⟨.fz, d⟩) = true := id rfl
theorem wd_add (i j : Int) : binD .add (.int i) (.int j) = some (false, .int (i + j)) := id rfl
theorem wd_adds (x y : Str) : binD .add (.str x) (.str y) = if x.length + y.length ≤ sizeLine then some (false, .str (x ++ y)) else none := id rfl
theorem wd_addl (x y : List D) : binD .add (.lst x) (.lst y) = if x.length + y.length ≤ sizeLine then some (true, .lst (x ++ y)) else none := id rfl
theorem wd_addt (x y : List D) : binD .add (.tup x) (.tup y) = if x.length + y.length ≤ sizeLine then some (false, .tup (x ++ y)) else none := id rfl
theorem wd_sub (i j : Int) : binD .sub (.int i) (.int j) = some (false, .int (i - j)) := id rfl
theorem wd_mul (i j : Int) : binD .mul (.int i) (.int j) = if mulOk i j then some (false, .int (i * j)) else none := id rfl
theorem wd_repl (x : List D) (k : Int) : binD .rep (.lst x) (.int k) = if -(2 ^ 63) ≤ k ∧ k < 2 ^ 63 ∧ x.length * k.toNat ≤ sizeLine then some (true, .lst (List.replicate k.toNat x).flatten) else none := id rfl
theorem wd_rept (x : List D) (k : Int) : binD .rep (.tup x) (.int k) = if -(2 ^ 63) ≤ k ∧ k ≤ 1000 ∧ x.length ≤ 1000 then some (false, .tup (List.replicate k.toNat x).flatten) else none := id rfl
theorem wd_div (i j : Int) : binD .div (.int i) (.int j) = if divOk j then some (false, .int (i / j)) else none := id rfl
theorem wd_mod (i j : Int) : binD .mod (.int i) (.int j) = if 0 < j then some (false, .int (i % j)) else none := id rfl
theorem wd_pow (i j : Int) : binD .pow (.int i) (.int j) = if 0 ≤ j ∧ j ≤ 1000000 ∧ i.natAbs < 2 ^ 64 then some (false, .int (i ^ j.toNat)) else none := id rfl
theorem wd_eq (d e : D) : cmpD .eq d e = eqD d e := id rfl
theorem wd_ne (d e : D) : cmpD .ne d e = (eqD d e).map (!·) := id rfl
theorem wd_lt (i j : Int) : cmpD .lt (.int i) (.int j) = some (decide (i < j)) := id rfl
theorem wd_le (i j : Int) : cmpD .le (.int i) (.int j) = some (decide (i ≤ j)) := id rfl
theorem wd_gt (i j : Int) : cmpD .gt (.int i) (.int j) = some (decide (j < i)) := id rfl
theorem wd_ge (i j : Int) : cmpD .ge (.int i) (.int j) = some (decide (j ≤ i)) := id rfl
theorem wd_inl (d : D) (xs : List D) : cmpD .isin d (.lst xs) = inD d xs := id rfl
theorem wd_int (d : D) (xs : List D) : cmpD .isin d (.tup xs) = inD d xs := id rfl
theorem wd_nil (d : D) (xs : List D) : cmpD .notin d (.lst xs) = (inD d xs).map (!·) := id rfl
theorem wd_nit (d : D) (xs : List D) : cmpD .notin d (.tup xs) = (inD d xs).map (!·) := id rfl
theorem wd_is (d : D) : cmpD .isN d .non = some (isNon d) := by cases d <;> rfl
theorem wd_isn (d : D) : cmpD .notN d .non = some (!isNon d) := by cases d <;> rfl
theorem wd_tn : truD .non = some false := id rfl
theorem wd_tb (b : Bool) : truD (.bl b) = some b := id rfl
theorem wd_ti (i : Int) : truD (.int i) = some (i != 0) := id rfl
theorem wd_tl (xs : List D) : truD (.lst xs) = some (!xs.isEmpty) := id rfl
theorem wd_tt (xs : List D) : truD (.tup xs) = some (!xs.isEmpty) := id rfl
theorem wd_ixl (xs : List D) (i : Int) : ixD (.lst xs) (.int i) = L2.atI xs i := id rfl
theorem wd_ixt (xs : List D) (i : Int) : ixD (.tup xs) (.int i) = L2.atI xs i := id rfl
theorem wd_repr (d : D) : biD .repr [d] = if reprOk d then some (false, .str d.toPy.shown) else none := id rfl
theorem wd_sll (xs : List D) (a b : Option Int) : slD (.lst xs) a b = some (true, .lst (T.cutD xs a b)) := id rfl
theorem wd_slt (xs : List D) (a b : Option Int) : slD (.tup xs) a b = some (false, .tup (T.cutD xs a b)) := id rfl
theorem wd_i (i : Int) : toInt (.int i) = some i := id rfl
theorem wd_b (i : Bool) : toBl (.bl i) = some i := id rfl
theorem wd_lenl (xs : List D) : biD .len [.lst xs] = some (false, .int xs.length) := id rfl
theorem wd_lent (xs : List D) : biD .len [.tup xs] = some (false, .int xs.length) := id rfl
theorem wd_sum (xs : List D) : biD .sum [.lst xs] = (toInts xs).map fun ns => (false, .int ns.sum) := id rfl
theorem wd_min2 (i j : Int) : biD .min2 [.int i, .int j] = some (false, .int (if j < i then j else i)) := id rfl
theorem wd_max2 (i j : Int) : biD .max2 [.int i, .int j] = some (false, .int (if j > i then j else i)) := id rfl
theorem wd_all (xs : List D) : biD .all [.lst xs] = (toBls xs).map fun bs => (false, .bl (bs.all id)) := id rfl
theorem wd_any (xs : List D) : biD .any [.lst xs] = (toBls xs).map fun bs => (false, .bl (bs.any id)) := id rfl
theorem wd_abs (i : Int) : biD .abs [.int i] = some (false, .int (if i < 0 then -i else i)) := id rfl
theorem wd_inti (i : Int) : biD .int [.int i] = some (false, .int i) := id rfl
theorem wd_intb (b : Bool) : biD .int [.bl b] = some (false, .int (if b then 1 else 0)) := id rfl
theorem wd_list1 (xs : List D) : biD .list [.lst xs] = some (true, .lst xs) := id rfl
theorem wd_list2 (xs : List D) : biD .list [.tup xs] = some (true, .lst xs) := id rfl
theorem wd_tup1 (xs : List D) : biD .tuple [.lst xs] = some (false, .tup xs) := id rfl
theorem wd_tup2 (xs : List D) : biD .tuple [.tup xs] = some (false, .tup xs) := id rfl
theorem wd_asn (i : Nat) (d : D) (c : Env) : T.assign (.nm i) d c = c.put i ⟨.fz, d⟩ := id rfl
theorem wd_ast (l : Tg) (ds : List D) (c : Env) : T.assign (.tp l) (.tup ds) c = T.assign l (.lst ds) c := id rfl
theorem wd_as0 (c : Env) : T.assign .nil (.lst []) c = some c := id rfl
theorem wd_as1 (a b : Tg) (x : D) (xs : List D) (c : Env) : T.assign (.cons a b) (.lst (x :: xs)) c = (T.assign a x c).bind fun c => T.assign b (.lst xs) c := id rfl
theorem wd_itl (xs : List D) : itemsD (.lst xs) = some xs := id rfl
theorem wd_itt (xs : List D) : itemsD (.tup xs) = some xs := id rfl
theorem wd_dt (x : D) (c : Env) : BV.rd c (.dt x) = some x := id rfl
theorem wd_fr (x : D) (c : Env) : BV.rd c (.fr x) = some x := id rfl
theorem wd_slot (i : Nat) (c : Env) : BV.rd c (.slot i) = (c.cell i).map Cell.d := id rfl
theorem wd_bvT (x : D) : bvOf (true, x) = .fr x := id rfl
theorem wd_bvF (x : D) : bvOf (false, x) = .dt x := id rfl
theorem wd_rv (xs : List D) : rvD (.lst xs) = some (.lst xs.reverse) := id rfl
theorem wd_pn (o : Option D) : partE .nopart o = some none := id rfl
theorem wd_pvar (i : Nat) (d : D) : partE (.var i) (some d) = (toInt d).map some := id rfl
theorem wd_pint (i : Int) (d : D) : partE (.int i) (some d) = (toInt d).map some := id rfl
theorem wd_pbin (op : BOp) (a b : E) (d : D) : partE (.bin op a b) (some d) = (toInt d).map some := id rfl
theorem wd_pneg (a : E) (d : D) : partE (.neg a) (some d) = (toInt d).map some := id rfl
theorem wd_pbi (b : BI) (a : E) (d : D) : partE (.bi b a) (some d) = (toInt d).map some := id rfl
theorem wd_pcall (f : Nat) (a : E) (d : D) : partE (.call f a) (some d) = (toInt d).map some := id rfl
theorem wd_pix (a b : E) (d : D) : partE (.ix a b) (some d) = (toInt d).map some := id rfl
theorem wd_ls (xs : List D) : isLs (some (.lst xs)) = true := id rfl
theorem wd_aa (i j : Int) : augD .add i j = some (i + j) := id rfl
theorem wd_as (i j : Int) : augD .sub i j = some (i - j) := id rfl
theorem wd_frl (m : List D) : frL (.fr (.lst m)) = some m := id rfl
theorem wd_fzi (i : Int) : fzInt (some ⟨.fz, .int i⟩) = some i := id rfl
end
end T

set_option Elab.async false
set_option linter.all false
set_option maxRecDepth 100000
set_option maxHeartbeats 1000000
set_option checkBinderAnnotations false
/-! Loops, comprehensions. -/
namespace T
open PySem PySem.Spec PyProof.Rows L2

section
variable {Γ : Nat → Option Fn} {tg : Tg} {body : S} {c : Env} {Q : Pst}
theorem Wfor_nil : @Wfor Γ tg body [] c Q = Q.nx c := rfl
theorem Wfor_cons {x : D} {xs : List D} (h : @Ow _ (T.assign tg x c) fun c => @Ws Γ body c ⟨fun c => @Wfor Γ tg body xs c Q, Q.rt, Q.nx, fun c => @Wfor Γ tg body xs c Q, Q.ex⟩) : @Wfor Γ tg body (x :: xs) c Q := by
  show Ro (match forF Γ tg body x c with
    | .nx c => forGo (forF Γ tg body) xs c
    | .ct c => forGo (forF Γ tg body) xs c
    | .bk c => .nx c
    | o => o) Q
  unfold forF
  cases ha : T.assign tg x c with
  | none => rw [ha] at h; exact h.elim
  | some c1 =>
    rw [ha] at h
    simp only [Ow_some] at h ⊢
    unfold Ws at h
    cases hx : xst Γ body c1 <;> rw [hx] at h <;> exact h
theorem Wfor_from {xs : List D} (I : Nat → Env → Prop) (hend : ∀ c, I xs.length c → Q.nx c)
    (step : ∀ j x c, xs[j]? = some x → I j c → @Ow _ (T.assign tg x c) fun c => @Ws Γ body c ⟨I (j + 1), Q.rt, Q.nx, I (j + 1), Q.ex⟩) : ∀ (ys zs : List D) (c : Env), xs = zs ++ ys → I zs.length c → @Wfor Γ tg body ys c Q
  | [], zs, c, e, h => by
    rw [List.append_nil] at e
    subst e
    exact hend c h
  | y :: ys, zs, c, e, h => by
    refine Wfor_cons ?_
    have hy : xs[zs.length]? = some y := by rw [e, List.getElem?_append_right (Nat.le_refl _), Nat.sub_self]; rfl
    have s := step _ _ _ hy h
    cases ha : T.assign tg y c with
    | none => rw [ha] at s; exact s
    | some c1 =>
      rw [ha] at s
      have ih := Wfor_from I hend step ys (zs ++ [y])
      rw [List.length_append, List.length_singleton] at ih
      exact Ro_mono s (fun c h => ih c (by rw [e]; simp) h) (fun _ _ _ h => h) (fun _ h => h) (fun c h => ih c (by rw [e]; simp) h) fun _ _ h => h
theorem Wfor_inv {xs : List D} (I : Nat → Env → Prop) (h0 : I 0 c) (step : ∀ j x c, xs[j]? = some x → I j c → @Ow _ (T.assign tg x c) fun c => @Ws Γ body c ⟨I (j + 1), Q.rt, Q.nx, I (j + 1), Q.ex⟩)
    (hend : ∀ c, I xs.length c → Q.nx c) : @Wfor Γ tg body xs c Q := Wfor_from I hend step xs [] c rfl h0
theorem Wfor_map {α : Type} {ys : List α} {f : α → D} (I : List α → Env → Prop) (h0 : I [] c)
    (step : ∀ pre y suf c, ys = pre ++ y :: suf → I pre c → @Ow _ (T.assign tg (f y) c) fun c => @Ws Γ body c ⟨I (pre ++ [y]), Q.rt, Q.nx, I (pre ++ [y]), Q.ex⟩)
    (hend : ∀ c, I ys c → Q.nx c) : @Wfor Γ tg body (ys.map f) c Q := by
  refine Wfor_inv (fun j c => I (ys.take j) c) h0 (fun j x c hj h => ?_) fun c h => hend c (by rw [List.length_map, List.take_length] at h; exact h)
  rw [List.getElem?_map] at hj
  cases hy : ys[j]? with
  | none => rw [hy] at hj; cases hj
  | some y =>
    rw [hy] at hj
    cases hj
    obtain ⟨hlt, hy'⟩ := List.getElem?_eq_some_iff.mp hy
    have e : ys = ys.take j ++ y :: ys.drop (j + 1) := by
      rw [← hy', List.getElem_cons_drop, List.take_append_drop]
    have e2 : ys.take (j + 1) = ys.take j ++ [y] := by rw [List.take_succ, hy]; rfl
    show @Ow _ _ fun c => @Ws Γ body c ⟨I (ys.take (j + 1)), Q.rt, Q.nx, I (ys.take (j + 1)), Q.ex⟩
    rw [e2]
    exact step _ _ _ _ e h
/-- a loop that folds a state -/
theorem Wfor_fold {α σ : Type} {ys : List α} {f : α → D} (st : σ → Env) (g : σ → α → σ) (s0 : σ) (P : List α → σ → Prop) (hc : c = st s0) (h0 : P [] s0)
    (step : ∀ pre y suf s, ys = pre ++ y :: suf → s = pre.foldl g s0 → P pre s → P (pre ++ [y]) (g s y) ∧ @Ow _ (T.assign tg (f y) (st s)) fun c => @Ws Γ body c ⟨fun c => c = st (g s y), Q.rt, fun _ => False, fun c => c = st (g s y), Q.ex⟩)
    (hend : P ys (ys.foldl g s0) → Q.nx (st (ys.foldl g s0))) : @Wfor Γ tg body (ys.map f) c Q := by
  refine Wfor_map (fun pre c => P pre (pre.foldl g s0) ∧ c = st (pre.foldl g s0)) ⟨h0, hc⟩ (fun pre y suf c e h => ?_) fun c h => h.2 ▸ hend h.1
  obtain ⟨h1, rfl⟩ := h
  obtain ⟨p, q⟩ := step pre y suf _ e rfl h1
  cases ha : T.assign tg (f y) (st (pre.foldl g s0)) with
  | none => rw [ha] at q; exact q
  | some c1 =>
    rw [ha] at q
    have e2 : (pre ++ [y]).foldl g s0 = g (pre.foldl g s0) y := by rw [List.foldl_append]; rfl
    refine Ro_mono q (fun c h => ?_) (fun _ _ _ h => h) (fun _ h => h.elim) (fun c h => ?_) fun _ _ h => h
    · show P _ _ ∧ c = _
      rw [e2]; exact ⟨p, h⟩
    · show P _ _ ∧ c = _
      rw [e2]; exact ⟨p, h⟩
theorem Ws_whl {t : E} (I : Nat → Env → Prop) (n : Nat) (h0 : I n c)
    (step : ∀ m c, I m c → @We Γ t c Q.ex fun x c => @Ow _ (x.rd c) fun x => @Ow _ (toBl x) fun b => @Cw b (@Ws Γ body c ⟨fun c => ∃ k, k < m ∧ I k c, Q.rt, Q.nx, fun c => ∃ k, k < m ∧ I k c, Q.ex⟩) (Q.nx c)) : @Ws Γ (.whl t body) c Q := by
  unfold Ws
  simp only [xst]
  have key : ∀ (k m : Nat) (c : Env), m ≤ k → I m c → ∃ o, whGo (fun c => (ev Γ t c).bind fun x c => Res.opt ((x.rd c).bind toBl) c) (fun c => xst Γ body c) (k + 1) c = some o ∧ Ro o Q := by
    intro k
    induction k with
    | zero =>
      intro m c hm hI
      have s := step m c hI
      unfold We at s
      rw [whGo]
      cases e : ev Γ t c with
      | no => rw [e] at s; exact s.elim
      | ex x c1 => rw [e] at s; exact ⟨_, rfl, s⟩
      | ok x c1 =>
        rw [e] at s
        obtain ⟨d, e1, s⟩ := Ow_inv s
        obtain ⟨b, e2, s⟩ := Ow_inv s
        simp only [Res.bind_ok, e1, Option.bind_some, e2, Res.opt_some]
        cases b with
        | false => rw [Cw_false] at s; exact ⟨_, rfl, s⟩
        | true =>
          rw [Cw_true] at s
          have s : Ro (xst Γ body c1) _ := s
          unfold Ws at s
          cases ho : xst Γ body c1 with
          | nx c2 => rw [ho] at s; obtain ⟨j, hj, _⟩ := s; omega
          | ct c2 => rw [ho] at s; obtain ⟨j, hj, _⟩ := s; omega
          | bk c2 => rw [ho] at s; simp only [ho]; exact ⟨_, rfl, s⟩
          | rt f d c2 => rw [ho] at s; simp only [ho]; exact ⟨_, rfl, s⟩
          | ex x c2 => rw [ho] at s; simp only [ho]; exact ⟨_, rfl, s⟩
          | no => rw [ho] at s; exact s.elim
    | succ k ih =>
      intro m c hm hI
      have s := step m c hI
      unfold We at s
      rw [whGo]
      cases e : ev Γ t c with
      | no => rw [e] at s; exact s.elim
      | ex x c1 => rw [e] at s; exact ⟨_, rfl, s⟩
      | ok x c1 =>
        rw [e] at s
        obtain ⟨d, e1, s⟩ := Ow_inv s
        obtain ⟨b, e2, s⟩ := Ow_inv s
        simp only [Res.bind_ok, e1, Option.bind_some, e2, Res.opt_some]
        cases b with
        | false => rw [Cw_false] at s; exact ⟨_, rfl, s⟩
        | true =>
          rw [Cw_true] at s
          have s : Ro (xst Γ body c1) _ := s
          unfold Ws at s
          cases ho : xst Γ body c1 with
          | nx c2 => rw [ho] at s; obtain ⟨j, hj, hI⟩ := s; simp only [ho]; exact ih j _ (by omega) hI
          | ct c2 => rw [ho] at s; obtain ⟨j, hj, hI⟩ := s; simp only [ho]; exact ih j _ (by omega) hI
          | bk c2 => rw [ho] at s; simp only [ho]; exact ⟨_, rfl, s⟩
          | rt f d c2 => rw [ho] at s; simp only [ho]; exact ⟨_, rfl, s⟩
          | ex x c2 => rw [ho] at s; simp only [ho]; exact ⟨_, rfl, s⟩
          | no => rw [ho] at s; exact s.elim
  obtain ⟨o, h1, h2⟩ := key n n c (Nat.le_refl _) h0
  rw [whL_eq h1]
  exact h2
end

/-! ### comprehensions -/
theorem cell_lt' {c : Env} {i : Nat} {x : Cell} (h : c.cell i = some x) : i < c.length := by
  unfold Env.cell at h
  by_cases hi : i < c.length
  · exact hi
  · rw [List.getElem?_eq_none (by omega)] at h; cases h
theorem wipeE_len (l : List Nat) (c : Env) : (wipeE l c).length = c.length := by
  induction l with
  | nil => rfl
  | cons i l ih => rw [wipeE, List.length_set, ih]
theorem wipeE_at (l : List Nat) (c : Env) (j : Nat) : (wipeE l c)[j]? = if j ∈ l then (c[j]?).map (fun _ => none) else c[j]? := by
  induction l with
  | nil => simp [wipeE]
  | cons i l ih =>
    rw [wipeE]
    by_cases h : i = j
    · subst h
      by_cases hi : i < c.length
      · rw [List.getElem?_set_self (by rw [wipeE_len]; exact hi)]
        simp [List.getElem?_eq_getElem hi]
      · rw [List.getElem?_eq_none (by rw [List.length_set, wipeE_len]; omega), List.getElem?_eq_none (by omega)]
        simp
    · rw [List.getElem?_set_ne h, ih]
      have : (j ∈ i :: l) = (j ∈ l) := by simp [show ¬ j = i from fun z => h z.symm]
      simp only [this]
theorem restE_len (o : Env) (l : List Nat) (c : Env) : (restE o l c).length = c.length := by
  induction l with
  | nil => rfl
  | cons i l ih => rw [restE, List.length_set, ih]
theorem restE_at (o : Env) (l : List Nat) (c : Env) (j : Nat) : (restE o l c)[j]? = if j ∈ l then (c[j]?).map (fun _ => o.cell j) else c[j]? := by
  induction l with
  | nil => simp [restE]
  | cons i l ih =>
    rw [restE]
    by_cases h : i = j
    · subst h
      by_cases hi : i < c.length
      · rw [List.getElem?_set_self (by rw [restE_len]; exact hi)]
        simp [List.getElem?_eq_getElem hi]
      · rw [List.getElem?_eq_none (by rw [List.length_set, restE_len]; omega), List.getElem?_eq_none (by omega)]
        simp
    · rw [List.getElem?_set_ne h, ih]
      have : (j ∈ i :: l) = (j ∈ l) := by simp [show ¬ j = i from fun z => h z.symm]
      simp only [this]
theorem wipe_wipe (l : List Nat) (c : Env) : wipeE l (wipeE l c) = wipeE l c := by
  apply List.ext_getElem?
  intro j
  rw [wipeE_at, wipeE_at]
  by_cases h : j ∈ l <;> simp [h]
  rfl
theorem rest_wipe (o : Env) (l : List Nat) (c : Env) : restE o l (wipeE l c) = restE o l c := by
  apply List.ext_getElem?
  intro j
  rw [restE_at, restE_at, wipeE_at]
  by_cases h : j ∈ l <;> simp [h]
  rfl
theorem rest_self (l : List Nat) (c : Env) : restE c l (wipeE l c) = c := by
  rw [rest_wipe]
  apply List.ext_getElem?
  intro j
  rw [restE_at]
  by_cases h : j ∈ l
  · rw [if_pos h]
    unfold Env.cell
    cases c[j]? <;> simp
  · rw [if_neg h]
section
variable {Γ : Nat → Option Fn} {own : List Nat} {elt : E} {tg : Tg} {cond : E} {c : Env} {X : Exn → Env → Prop} {K : BV → Env → Prop}
theorem Wlc_from {xs : List D} (I : Nat → List D → Env → Prop)
    (step : ∀ j x acc w, xs[j]? = some x → I j acc w → @Ow _ (T.assign tg x w) fun c1 => @We Γ cond c1 X fun t c2 => @Ow _ (t.rd c2) fun t => @Ow _ (toBl t) fun b =>
      @Cw b (@We Γ elt c2 X fun y c3 => @Rw _ (y.esc c3) X fun d c4 => I (j + 1) (acc ++ [d]) (wipeE own c4)) (I (j + 1) acc (wipeE own c2))) :
    ∀ (ys zs : List D) (acc : List D) (c : Env), xs = zs ++ ys → I zs.length acc (wipeE own c) → @Rw _ (lcGo (lcF Γ own elt tg cond) ys c) X fun l c' => I xs.length (acc ++ l) (wipeE own c')
  | [], zs, acc, c, e, h => by
    rw [List.append_nil] at e
    subst e
    show I xs.length (acc ++ []) _
    rw [List.append_nil]
    exact h
  | y :: ys, zs, acc, c, e, h => by
    have hy : xs[zs.length]? = some y := by rw [e, List.getElem?_append_right (Nat.le_refl _), Nat.sub_self]; rfl
    have s := step _ _ _ _ hy h
    have ih := Wlc_from I step ys (zs ++ [y])
    rw [List.length_append, List.length_singleton] at ih
    have e' : xs = zs ++ [y] ++ ys := by rw [e]; simp
    show @Rw _ ((lcF Γ own elt tg cond y c).bind fun o c => (lcGo (lcF Γ own elt tg cond) ys c).bind fun l c => .ok (o.toList ++ l) c) X (fun l c' => I xs.length (acc ++ l) (wipeE own c'))
    rw [Rw_bind]
    unfold lcF at *
    cases ha : T.assign tg y (wipeE own c) with
    | none => rw [ha] at s; exact s.elim
    | some c1 =>
      rw [ha] at s
      simp only [Ow_some] at s ⊢
      rw [Rw_bind]
      refine Rw_mono s (fun t c2 s => ?_) fun _ _ h => h
      obtain ⟨d, ht, s⟩ := Ow_inv s
      obtain ⟨b, hb, s⟩ := Ow_inv s
      · · simp only [ht, Option.bind_some, hb]
          cases b with
          | false =>
            simp only [Cw_false] at s
            simp only [Rw_ok, Rw_bind, Option.toList_none, List.nil_append]
            exact ih acc c2 e' s
          | true =>
            simp only [Cw_true] at s
            simp only [Rw_bind, Rw_ok, Option.toList_some]
            refine Rw_mono s (fun y c3 s => Rw_mono s (fun d c4 s => ?_) fun _ _ h => h) fun _ _ h => h
            refine Rw_mono (ih (acc ++ [d]) c4 e' s) (fun l c' h => ?_) fun _ _ h => h
            rw [List.append_assoc] at h
            exact h
theorem Wlc_inv {xs : List D} (I : Nat → List D → Env → Prop) (h0 : I 0 [] (wipeE own c))
    (step : ∀ j x acc w, xs[j]? = some x → I j acc w → @Ow _ (T.assign tg x w) fun c1 => @We Γ cond c1 X fun t c2 => @Ow _ (t.rd c2) fun t => @Ow _ (toBl t) fun b =>
      @Cw b (@We Γ elt c2 X fun y c3 => @Rw _ (y.esc c3) X fun d c4 => I (j + 1) (acc ++ [d]) (wipeE own c4)) (I (j + 1) acc (wipeE own c2)))
    (hend : ∀ acc w, I xs.length acc w → acc.length ≤ sizeLine ∧ K (.fr (.lst acc)) (restE c own w)) : @Wlc Γ own elt tg cond xs c X K := by
  unfold Wlc
  rw [Rw_bind]
  refine Rw_mono (Wlc_from I step xs [] [] c rfl h0) (fun l c' h => ?_) fun _ _ h => h
  rw [List.nil_append] at h
  obtain ⟨h1, h2⟩ := hend l _ h
  rw [rest_wipe] at h2
  rw [if_pos h1]
  exact h2
/-- typed -/
theorem Wlc_gen {α : Type} {ys : List α} {f : α → D} (I : List α → List D → Env → Prop) (h0 : I [] [] (wipeE own c))
    (step : ∀ pre y suf acc w, ys = pre ++ y :: suf → I pre acc w → @Ow _ (T.assign tg (f y) w) fun c1 => @We Γ cond c1 X fun t c2 => @Ow _ (t.rd c2) fun t => @Ow _ (toBl t) fun b =>
      @Cw b (@We Γ elt c2 X fun v c3 => @Rw _ (v.esc c3) X fun d c4 => I (pre ++ [y]) (acc ++ [d]) (wipeE own c4)) (I (pre ++ [y]) acc (wipeE own c2)))
    (hend : ∀ acc w, I ys acc w → acc.length ≤ sizeLine ∧ K (.fr (.lst acc)) (restE c own w)) : @Wlc Γ own elt tg cond (ys.map f) c X K := by
  refine Wlc_inv (fun j acc w => I (ys.take j) acc w) h0 (fun j x acc w hj h => ?_) fun acc w h => hend acc w (by rw [List.length_map, List.take_length] at h; exact h)
  rw [List.getElem?_map] at hj
  cases hy : ys[j]? with
  | none => rw [hy] at hj; cases hj
  | some y =>
    rw [hy] at hj
    cases hj
    obtain ⟨hlt, hy'⟩ := List.getElem?_eq_some_iff.mp hy
    have e : ys = ys.take j ++ y :: ys.drop (j + 1) := by
      rw [← hy', List.getElem_cons_drop, List.take_append_drop]
    have e2 : ys.take (j + 1) = ys.take j ++ [y] := by rw [List.take_succ, hy]; rfl
    simp only [e2]
    exact step _ _ _ _ _ e h
/-- every item gives one, nothing changes -/
theorem Wlc_map {α : Type} {ys : List α} {f : α → D} (g : α → D) (hl : ys.length ≤ sizeLine)
    (step : ∀ y, y ∈ ys → @Ow _ (T.assign tg (f y) (wipeE own c)) fun c1 => @We Γ elt c1 X fun v c3 => @Rw _ (v.esc c3) X fun d c4 => d = g y ∧ wipeE own c4 = wipeE own c)
    (hend : K (.fr (.lst (ys.map g))) c) : @Wlc Γ own elt tg .yes (ys.map f) c X K := by
  refine Wlc_gen (fun pre acc w => acc = pre.map g ∧ w = wipeE own c) ⟨rfl, rfl⟩ (fun pre y suf acc w e h => ?_) fun acc w h => ?_
  · obtain ⟨rfl, rfl⟩ := h
    have s := step y (by rw [e]; simp)
    cases ha : T.assign tg (f y) (wipeE own c) with
    | none => rw [ha] at s; exact s
    | some c1 =>
      rw [ha] at s
      simp only [Ow_some] at s ⊢
      rw [We_yes, wd_dt, Ow_some, wd_b, Ow_some, Cw_true]
      refine Rw_mono s (fun v c3 s => Rw_mono s (fun d c4 s => ?_) fun _ _ h => h) fun _ _ h => h
      obtain ⟨rfl, s2⟩ := s
      exact ⟨by simp, s2⟩
  · obtain ⟨rfl, rfl⟩ := h
    rw [rest_self]
    exact ⟨by rw [List.length_map]; exact hl, hend⟩
/-- with an if -/
theorem Wlc_filter {α : Type} {ys : List α} {f : α → D} (p : α → Bool) (g : α → D) (hl : ys.length ≤ sizeLine)
    (step : ∀ y, y ∈ ys → @Ow _ (T.assign tg (f y) (wipeE own c)) fun c1 => @We Γ cond c1 X fun t c2 => @Ow _ (t.rd c2) fun t => @Ow _ (toBl t) fun b => b = p y ∧
      @Cw (p y) (@We Γ elt c2 X fun v c3 => @Rw _ (v.esc c3) X fun d c4 => d = g y ∧ wipeE own c4 = wipeE own c) (wipeE own c2 = wipeE own c))
    (hend : K (.fr (.lst ((ys.filter p).map g))) c) : @Wlc Γ own elt tg cond (ys.map f) c X K := by
  refine Wlc_gen (fun pre acc w => acc = (pre.filter p).map g ∧ w = wipeE own c) ⟨rfl, rfl⟩ (fun pre y suf acc w e h => ?_) fun acc w h => ?_
  · obtain ⟨rfl, rfl⟩ := h
    have s := step y (by rw [e]; simp)
    cases ha : T.assign tg (f y) (wipeE own c) with
    | none => rw [ha] at s; exact s
    | some c1 =>
      rw [ha] at s
      simp only [Ow_some] at s ⊢
      refine Rw_mono s (fun t c2 s => ?_) fun _ _ h => h
      obtain ⟨d, ht, s⟩ := Ow_inv s
      obtain ⟨b, hb, s⟩ := Ow_inv s
      · · simp only [ht, Ow_some, hb]
          obtain ⟨e1, s⟩ := s
          subst e1
          cases hp : p y with
          | false =>
            rw [hp] at s
            simp only [Cw_false] at s ⊢
            exact ⟨by simp [List.filter_append, hp], s⟩
          | true =>
            rw [hp] at s
            simp only [Cw_true] at s ⊢
            refine Rw_mono s (fun v c3 s => Rw_mono s (fun d c4 s => ?_) fun _ _ h => h) fun _ _ h => h
            obtain ⟨rfl, s2⟩ := s
            exact ⟨by simp [List.filter_append, hp], s2⟩
  · obtain ⟨rfl, rfl⟩ := h
    rw [rest_self]
    refine ⟨?_, hend⟩
    rw [List.length_map]
    exact Nat.le_trans (List.length_filter_le _ _) hl
end

/-! ### lists of data as maps -/
theorem rangeD_map (lo : Int) (n : Nat) : rangeD lo n = (List.range n).map fun i : Nat => D.int (lo + (i : Int)) := by
  induction n generalizing lo with
  | zero => rfl
  | succ n ih =>
    rw [rangeD, ih, List.range_succ_eq_map, List.map_cons, List.map_map]
    congr 1
    · simp
    · apply List.map_congr_left
      intro i _
      simp only [Function.comp]
      congr 1
      omega
theorem enumD_map {α : Type} (f : α → D) (xs : List α) : ∀ k : Nat, enumD (k : Int) (xs.map f) = (xs.zipIdx k).map fun p => D.tup [.int (p.2 : Nat), f p.1] := by
  induction xs with
  | nil => intro k; rfl
  | cons x xs ih =>
    intro k
    rw [List.map_cons, enumD, List.zipIdx_cons, List.map_cons]
    congr 1
    have := ih (k + 1)
    rw [← this]
    congr 1
theorem enumD_map0 {α : Type} (f : α → D) (xs : List α) : enumD 0 (xs.map f) = (xs.zipIdx).map fun p => D.tup [.int (p.2 : Nat), f p.1] := enumD_map f xs 0
theorem zipD_map {α β : Type} (f : α → D) (g : β → D) : ∀ (xs : List α) (ys : List β), zipD (xs.map f) (ys.map g) = (xs.zip ys).map fun p => D.tup [f p.1, g p.2]
  | [], ys => by simp [zipD]
  | x :: xs, [] => by simp [zipD]
  | x :: xs, y :: ys => by
    rw [List.map_cons, List.map_cons, zipD, zipD_map f g xs ys]
    simp
theorem rev_map {α : Type} (f : α → D) (xs : List α) : (xs.map f).reverse = xs.reverse.map f := (List.map_reverse ..).symm
theorem cutD_map {α β : Type} (f : α → β) (xs : List α) (lo hi : Option Int) : T.cutD (xs.map f) lo hi = (T.cutD xs lo hi).map f := by
  unfold T.cutD
  rw [List.length_map, List.map_take, List.map_drop]
theorem cutD_from {α : Type} (xs : List α) (k : Nat) : T.cutD xs (some (k : Int)) none = xs.drop k := by
  unfold T.cutD
  rw [show HT.sIx xs.length 0 (some (k : Int)) = min k xs.length from HT.sIx_nat xs.length 0 k, HT.sIx_none]
  by_cases h : k ≤ xs.length
  · rw [Nat.min_eq_left h]
    rw [List.take_of_length_le (by rw [List.length_drop]; omega)]
  · rw [Nat.min_eq_right (by omega), List.drop_length, List.drop_of_length_le (by omega)]
    simp
theorem cutD_to {α : Type} (xs : List α) (k : Nat) : T.cutD xs none (some (k : Int)) = xs.take k := by
  unfold T.cutD
  rw [show HT.sIx xs.length xs.length (some (k : Int)) = min k xs.length from HT.sIx_nat xs.length xs.length k, HT.sIx_none]
  simp only [List.drop_zero, Nat.sub_zero]
  by_cases h : k ≤ xs.length
  · rw [Nat.min_eq_left h]
  · rw [Nat.min_eq_right (by omega), List.take_length, List.take_of_length_le (by omega)]
theorem atI_map {α β : Type} (f : α → β) (xs : List α) (i : Int) : L2.atI (xs.map f) i = (L2.atI xs i).map f := by
  unfold L2.atI
  rw [List.length_map]
  cases ixN xs.length i with
  | none => rfl
  | some j => simp
theorem atI_last {α : Type} (xs : List α) (x : α) : L2.atI (xs ++ [x]) (-1) = some x := by
  unfold L2.atI ixN
  rw [List.length_append, List.length_singleton]
  rw [if_neg (by decide), if_pos (by omega)]
  simp only [Option.bind_some]
  rw [show ((-1 : Int) + ((xs.length + 1 : Nat) : Int)).toNat = xs.length by omega]
  simp
theorem atI_natS {α : Type} {xs : List α} {j : Nat} {x : α} (h : xs[j]? = some x) : L2.atI xs (j : Int) = some x := by
  unfold L2.atI ixN
  have hl := (List.getElem?_eq_some_iff.mp h).1
  rw [if_pos (by omega), if_pos (by omega)]
  simpa using h
theorem toInts_map {α : Type} (f : α → Int) (xs : List α) : toInts (xs.map fun x => D.int (f x)) = some (xs.map f) := by
  induction xs with
  | nil => rfl
  | cons x xs ih => rw [List.map_cons, toInts, ih]; rfl
theorem toBls_map {α : Type} (f : α → Bool) (xs : List α) : toBls (xs.map fun x => D.bl (f x)) = some (xs.map f) := by
  induction xs with
  | nil => rfl
  | cons x xs ih => rw [List.map_cons, toBls, ih]; rfl
theorem atI_0 {α : Type} (x : α) (xs : List α) : L2.atI (x :: xs) 0 = some x := atI_natS (j := 0) rfl
theorem atI_1 {α : Type} (x y : α) (xs : List α) : L2.atI (x :: y :: xs) 1 = some y := atI_natS (j := 1) rfl
theorem atI_2 {α : Type} (x y z : α) (xs : List α) : L2.atI (x :: y :: z :: xs) 2 = some z := atI_natS (j := 2) rfl
theorem atI_3 {α : Type} (x y z w : α) (xs : List α) : L2.atI (x :: y :: z :: w :: xs) 3 = some w := atI_natS (j := 3) rfl
end T

set_option Elab.async false
set_option linter.all false
set_option maxRecDepth 100000
set_option maxHeartbeats 1000000
set_option checkBinderAnnotations false
/-! Calls as rewriting rules; equality of data. -/
namespace T
open PySem PySem.Spec PyProof.Rows L2
def callG (F : Fn) (ar : Nat) (io : Option Nat) (bs : List BV) (c : Env) [X : Exn → Env → Prop] [K : BV → Env → Prop] : Prop := F.ar = ar → F.io = io → @callW (some F) bs c X K

theorem callW_G (F : Fn) (bs : List BV) (c : Env) (X : Exn → Env → Prop) (K : BV → Env → Prop) : @callW (some F) bs c X K = @callG F F.ar F.io bs c X K := by
  unfold callG
  exact propext ⟨fun h _ _ => h, fun h => h rfl rfl⟩
theorem Rw_iff {α : Type} {r : Res α} {X : Exn → Env → Prop} {K K' : α → Env → Prop} (i : ∀ a c, K a c = K' a c) : @Rw _ r X K = @Rw _ r X K' := by
  have : K = K' := by funext a c; exact i a c
  rw [this]
theorem callG_none (F : Fn) (ar : Nat) (bs : List BV) (c : Env) (X : Exn → Env → Prop) (K : BV → Env → Prop) (h1 : F.ar = ar) (h2 : F.io = none) : @callG F ar none bs c X K = (ar = bs.length ∧ @Rw _ (escAll bs c) X fun ds c => @Wf F ds (fun x _ => X x c) fun fr d _ => K (bvOf (fr, d)) c) := by
  apply propext
  unfold callG
  constructor
  · intro h
    have h := h h1 h2
    have h : @Rw _ (callF F bs c) X K := h
    unfold callF at h
    by_cases hl : bs.length = F.ar
    · refine ⟨by omega, ?_⟩
      rw [if_neg (by rw [hl]; simp), h2] at h
      simp only [Rw_bind] at h
      refine Rw_mono h (fun ds c h => ?_) fun _ _ h => h
      unfold Wf
      cases hr : F.run ds <;> rw [hr] at h <;> exact h
    · rw [if_pos hl] at h; exact h.elim
  · intro h _ _
    exact callW_none (by omega) h2 h.2
theorem callG_io0 (F : Fn) (ar i : Nat) (bs : List BV) (c : Env) (X : Exn → Env → Prop) (K : BV → Env → Prop) (h1 : F.ar = ar) (h2 : F.io = some 0) (h : ar = bs.length + 1 ∧ @Ow _ (c.cell i) fun x => (x.st = .own ∨ x.st = .bor) ∧ @Rw _ (escAll bs c) X fun ds c => c.cell i = some x ∧ @Wf F (x.d :: ds) (fun e o => X e (c.set i (some ⟨x.st, o⟩))) fun fr d o => K (bvOf (fr, d)) (c.set i (some ⟨x.st, o⟩))) : @callG F ar (some 0) (.slot i :: bs) c X K := by
  intro _ _
  obtain ⟨h3, h4⟩ := h
  obtain ⟨x, e, h5, h6⟩ := Ow_inv h4
  exact callW_io0 (by omega) h2 e h5 h6
theorem Wf_ret {F : Fn} {ds : List D} {fr : Bool} {d o : D} (h : F.run ds = .ret fr d o) (X : Exn → D → Prop) (K : Bool → D → D → Prop) : @Wf F ds X K = K fr d o := by
  unfold Wf; rw [h]
end T

set_option Elab.async false
set_option linter.all false
set_option maxRecDepth 100000
set_option maxHeartbeats 1000000
set_option checkBinderAnnotations false
/-! Equality of data; arguments that may be changed. -/
namespace T
open PySem PySem.Spec PyProof.Rows L2
/-- data that may be compared: no dicts, sound texts, at most n levels -/
def okD : Nat → D → Prop
  | _, .non => True
  | _, .bl _ => True
  | _, .int _ => True
  | _, .str x => PyData.strOk x = true
  | 0, .lst xs => xs = []
  | 0, .tup xs => xs = []
  | n + 1, .lst xs => ∀ x ∈ xs, okD n x
  | n + 1, .tup xs => ∀ x ∈ xs, okD n x
  | _, .dic _ _ => False
def deq (d e : D) : Bool := PyData.eqv d.toPy e.toPy
theorem toPys_eq (xs : List D) : D.toPys xs = xs.map D.toPy := by
  induction xs with
  | nil => simp [D.toPys]
  | cons x xs ih => simp [D.toPys, ih]
theorem noDics_of {xs : List D} (h : ∀ x ∈ xs, D.noDic x = true) : D.noDics xs = true := by
  induction xs with
  | nil => simp [D.noDics]
  | cons x xs ih => simp [D.noDics, h x List.mem_cons_self, ih fun y hy => h y (List.mem_cons_of_mem _ hy)]
theorem lay_of {xs : List D} (h : ∀ x ∈ xs, PyData.canLay0 x.toPy = true) : PyData.canLayAll0 (D.toPys xs) = true := by
  induction xs with
  | nil => simp [D.toPys, PyData.canLayAll0]
  | cons x xs ih => simp [D.toPys, PyData.canLayAll0, h x List.mem_cons_self, ih fun y hy => h y (List.mem_cons_of_mem _ hy)]
theorem depth_of {xs : List D} {n : Nat} (h : ∀ x ∈ xs, PyData.depth x.toPy ≤ n) : PyData.depthAll (D.toPys xs) ≤ n := by
  induction xs with
  | nil => simp [D.toPys, PyData.depthAll]
  | cons x xs ih =>
    have h1 := h x List.mem_cons_self
    have h2 := ih fun y hy => h y (List.mem_cons_of_mem _ hy)
    simp only [D.toPys, PyData.depthAll]
    omega
theorem okD_all : ∀ (n : Nat) (d : D), okD n d → d.noDic = true ∧ PyData.canLay0 d.toPy = true ∧ PyData.depth d.toPy ≤ n + 1
  | n, .non, _ => by simp [D.noDic, D.toPy, PyData.canLay0, PyData.depth]
  | n, .bl _, _ => by simp [D.noDic, D.toPy, PyData.canLay0, PyData.depth]
  | n, .int _, _ => by simp [D.noDic, D.toPy, PyData.canLay0, PyData.depth]
  | n, .str x, h => by
    have h : PyData.strOk x = true := by cases n <;> exact h
    simp [D.noDic, D.toPy, PyData.canLay0, PyData.depth, h]
  | 0, .lst xs, h => by
    have h : xs = [] := h
    subst h
    simp [D.noDic, D.noDics, D.toPy, D.toPys, PyData.canLay0, PyData.canLayAll0, PyData.depth, PyData.depthAll]
  | 0, .tup xs, h => by
    have h : xs = [] := h
    subst h
    simp [D.noDic, D.noDics, D.toPy, D.toPys, PyData.canLay0, PyData.canLayAll0, PyData.depth, PyData.depthAll]
  | n + 1, .lst xs, h => by
    have h : ∀ x ∈ xs, okD n x := h
    have a := noDics_of fun x hx => (okD_all n x (h x hx)).1
    have b := lay_of fun x hx => (okD_all n x (h x hx)).2.1
    have c := depth_of (n := n + 1) fun x hx => (okD_all n x (h x hx)).2.2
    refine ⟨by simpa [D.noDic] using a, by simpa [D.toPy, PyData.canLay0] using b, ?_⟩
    simp only [D.toPy, PyData.depth]
    omega
  | n + 1, .tup xs, h => by
    have h : ∀ x ∈ xs, okD n x := h
    have a := noDics_of fun x hx => (okD_all n x (h x hx)).1
    have b := lay_of fun x hx => (okD_all n x (h x hx)).2.1
    have c := depth_of (n := n + 1) fun x hx => (okD_all n x (h x hx)).2.2
    refine ⟨by simpa [D.noDic] using a, by simpa [D.toPy, PyData.canLay0] using b, ?_⟩
    simp only [D.toPy, PyData.depth]
    omega
  | n, .dic _ _, h => by cases n <;> exact h.elim
theorem eqD_ok {d e : D} (h1 : okD 9 d) (h2 : okD 9 e) : eqD d e = some (deq d e) := by
  obtain ⟨a1, a2, a3⟩ := okD_all _ _ h1
  obtain ⟨b1, b2, b3⟩ := okD_all _ _ h2
  unfold eqD
  rw [if_pos]
  · rfl
  · unfold SeqAt.shaped
    rw [a1, b1, a2, b2]
    simp
    omega
theorem deq_int (i j : Int) : deq (.int i) (.int j) = decide (i = j) := by
  unfold deq; simp only [D.toPy, PyData.eqv]; rfl
theorem deq_bl (i j : Bool) : deq (.bl i) (.bl j) = (i == j) := by
  unfold deq; simp only [D.toPy, PyData.eqv]
theorem deq_str (i j : Str) : deq (.str i) (.str j) = (i == j) := by
  unfold deq; simp only [D.toPy, PyData.eqv]
theorem deq_non : deq .non .non = true := by
  unfold deq; simp only [D.toPy, PyData.eqv]
theorem eqvs_self {xs : List D} (h : ∀ x ∈ xs, deq x x = true) : PyData.eqvAll (D.toPys xs) (D.toPys xs) = true := by
  induction xs with
  | nil => simp [D.toPys, PyData.eqvAll]
  | cons x xs ih =>
    have h1 := h x List.mem_cons_self
    unfold deq at h1
    simp [D.toPys, PyData.eqvAll, h1, ih fun y hy => h y (List.mem_cons_of_mem _ hy)]
theorem deq_self : ∀ (n : Nat) (d : D), okD n d → deq d d = true
  | n, .non, _ => deq_non
  | n, .bl _, _ => by simp [deq_bl]
  | n, .int _, _ => by simp [deq_int]
  | n, .str x, h => by simp [deq_str]
  | 0, .lst xs, h => by
    have h : xs = [] := h
    subst h
    simp [deq, D.toPy, D.toPys, PyData.eqv, PyData.eqvAll]
  | 0, .tup xs, h => by
    have h : xs = [] := h
    subst h
    simp [deq, D.toPy, D.toPys, PyData.eqv, PyData.eqvAll]
  | n + 1, .lst xs, h => by
    have h : ∀ x ∈ xs, okD n x := h
    unfold deq
    simp only [D.toPy, PyData.eqv]
    exact eqvs_self fun x hx => deq_self n x (h x hx)
  | n + 1, .tup xs, h => by
    have h : ∀ x ∈ xs, okD n x := h
    unfold deq
    simp only [D.toPy, PyData.eqv]
    exact eqvs_self fun x hx => deq_self n x (h x hx)
  | n, .dic _ _, h => by cases n <;> exact h.elim
theorem eqD_self {d : D} (h : okD 9 d) : eqD d d = some true := by rw [eqD_ok h h, deq_self 9 d h]
theorem okD_int (n : Nat) (i : Int) : okD n (.int i) = True := by cases n <;> rfl
theorem okD_bl (n : Nat) (i : Bool) : okD n (.bl i) = True := by cases n <;> rfl
theorem okD_non (n : Nat) : okD n .non = True := by cases n <;> rfl
theorem okD_lst (n : Nat) (xs : List D) : okD (n + 1) (.lst xs) = ∀ x ∈ xs, okD n x := id rfl
theorem okD_tup (n : Nat) (xs : List D) : okD (n + 1) (.tup xs) = ∀ x ∈ xs, okD n x := id rfl
theorem eqs_map {α : Type} {f : α → D} (hf : ∀ x y : α, deq (f x) (f y) = true ↔ x = y) : ∀ xs ys : List α, (PyData.eqvAll (D.toPys (xs.map f)) (D.toPys (ys.map f)) = true ↔ xs = ys)
  | [], [] => by simp [D.toPys, PyData.eqvAll]
  | [], _ :: _ => by simp [D.toPys, PyData.eqvAll]
  | _ :: _, [] => by simp [D.toPys, PyData.eqvAll]
  | x :: xs, y :: ys => by
    have ih := eqs_map hf xs ys
    have h := hf x y
    unfold deq at h
    simp only [List.map_cons, D.toPys, PyData.eqvAll, Bool.and_eq_true, h, ih, List.cons.injEq]
theorem deq_lst {α : Type} [DecidableEq α] {f : α → D} (hf : ∀ x y : α, deq (f x) (f y) = true ↔ x = y) (xs ys : List α) : deq (.lst (xs.map f)) (.lst (ys.map f)) = decide (xs = ys) := by
  have := eqs_map hf xs ys
  unfold deq
  simp only [D.toPy, PyData.eqv]
  by_cases h : xs = ys
  · rw [decide_eq_true h]; exact this.mpr h
  · rw [decide_eq_false h]
    cases e : PyData.eqvAll (D.toPys (xs.map f)) (D.toPys (ys.map f)) with
    | false => rfl
    | true => exact absurd (this.mp e) h
theorem deq_tup {α : Type} [DecidableEq α] {f : α → D} (hf : ∀ x y : α, deq (f x) (f y) = true ↔ x = y) (xs ys : List α) : deq (.tup (xs.map f)) (.tup (ys.map f)) = decide (xs = ys) := by
  have := eqs_map hf xs ys
  unfold deq
  simp only [D.toPy, PyData.eqv]
  by_cases h : xs = ys
  · rw [decide_eq_true h]; exact this.mpr h
  · rw [decide_eq_false h]
    cases e : PyData.eqvAll (D.toPys (xs.map f)) (D.toPys (ys.map f)) with
    | false => rfl
    | true => exact absurd (this.mp e) h

/-! ### calls that change an argument -/
def okIo : Option Cell → Option Cell
  | some ⟨.own, d⟩ => some ⟨.own, d⟩
  | some ⟨.bor, d⟩ => some ⟨.bor, d⟩
  | _ => none
theorem okIo_own (d : D) : okIo (some ⟨.own, d⟩) = some ⟨.own, d⟩ := id rfl
theorem okIo_bor (d : D) : okIo (some ⟨.bor, d⟩) = some ⟨.bor, d⟩ := id rfl
theorem outW_none (c : Env) (K : D → Prop) : outW none c K = K .non := id rfl
theorem outW_some (k : Nat) (c : Env) (K : D → Prop) : outW (some k) c K = @Ow _ (c.cell k) fun x => x.st = .bor ∧ K x.d := id rfl
theorem callG_io (F : Fn) (ar i : Nat) (bs : List BV) (c : Env) (X : Exn → Env → Prop) (K : BV → Env → Prop) (h1 : F.ar = ar) (h2 : F.io = some 0) : @callG F ar (some 0) (.slot i :: bs) c X K =
    (ar = bs.length + 1 ∧ @Ow _ (okIo (c.cell i)) fun _ => @Rw _ (escAll bs c) X fun ds c => @Ow _ (okIo (c.cell i)) fun x => @Wf F (x.d :: ds) (fun e o => X e (c.set i (some ⟨x.st, o⟩))) fun fr d o => K (bvOf (fr, d)) (c.set i (some ⟨x.st, o⟩))) := by
  apply propext
  unfold callG
  have e : ∀ P : Prop, (F.ar = ar → F.io = some 0 → P) ↔ P := fun P => ⟨fun h => h h1 h2, fun h _ _ => h⟩
  rw [e]
  show @Rw _ (callF F (.slot i :: bs) c) X K ↔ _
  unfold callF
  by_cases hl : ar = bs.length + 1
  · rw [if_neg (by rw [h1, hl]; simp), h2]
    simp only [hl, true_and, List.getElem?_cons_zero, List.eraseIdx_cons_zero]
    have hp : passIo c (.slot i) = (okIo (c.cell i)).map fun x => (i, x.d) := by
      unfold passIo okIo
      simp only
      rcases c.cell i with _ | ⟨st, d⟩
      · rfl
      · cases st <;> rfl
    rw [hp]
    rcases hc : okIo (c.cell i) with _ | x
    · simp [Rw, Ow]
    · simp only [Option.map_some, Ow_some, Rw_bind]
      apply iff_of_eq
      congr 1; funext ds c'
      rcases hx : c'.cell i with _ | ⟨st, d⟩
      · rfl
      · cases st
        · rfl
        all_goals first
          | (simp only [okIo, Ow_some, true_or, or_true, if_true, List.insertIdx_zero]
             unfold Wf
             cases F.run (d :: ds) <;> rfl)
          | (simp [okIo, Ow, Rw])
  · rw [if_pos (by rw [h1, List.length_cons]; exact fun z => hl z.symm)]
    simp [hl, Rw]
theorem callKW_none' (F : Fn) (pm : List Nat) (bs : List BV) (c : Env) (X : Exn → Env → Prop) (K : BV → Env → Prop) (h2 : F.io = none) : @callKW (some F) pm bs c X K = @Rw _ (escAll bs c) X fun ds c => (permL pm ds).length = F.ar ∧ @Wf F (permL pm ds) (fun x _ => X x c) fun fr d _ => K (bvOf (fr, d)) c := by
  show @Rw _ (callKF F pm bs c) X K = _
  unfold callKF
  rw [h2]
  simp only [Rw_bind]
  congr 1; funext ds c
  by_cases h : (permL pm ds).length = F.ar
  · rw [if_neg (by rw [h]; simp)]
    simp only [h, true_and]
    unfold Wf
    cases F.run (permL pm ds) <;> rfl
  · rw [if_pos h]
    simp [h, Rw]
end T

set_option Elab.async false
set_option linter.all false
set_option maxRecDepth 100000
set_option maxHeartbeats 1000000
namespace Lw
open PySem PySem.Spec PyProof.Rows L2 T
def SrcOk (F : Fn) : Prop := F.ar = 1 ∧ F.io = none ∧ ∀ c : Int, F.run [.int c] = .ret true (src c c 0) .non
theorem ok_source (Γ : Nat → Option Fn) : SrcOk (mkFn Γ 1 1 none c__law_source) := ⟨rfl, rfl, run_source Γ⟩
theorem good1_nil : Good1 [] := good_of (k := 1) (n := 1) (by simp) (by simp) (by decide) (by simp) (by decide) (by decide)
theorem good2_nil : Good2 [] := ⟨by simp, by simp⟩
theorem good1_take {es : List Nat} (g : Good1 es) (h : es.length ≤ 30) : Good1 (es.take 2) :=
  good_of (k := 50) (n := 30) (fun e he => g.ge e (List.mem_of_mem_take he)) (fun e he => g.lt e (List.mem_of_mem_take he)) (Nat.le_refl _) (Nat.le_trans (by rw [List.length_take]; omega) h) (by decide) (by decide)
theorem good2_snoc {cs : List Nat} {x : Nat} (g : Good2 cs) (h : cs.length ≤ 100) (hx : x < 2 ^ 120) : Good2 (cs ++ [x]) :=
  ⟨fun c hc => by
    rcases List.mem_append.mp hc with hc | hc
    · exact g.lt c hc
    · rw [List.mem_singleton.mp hc]; exact p120 hx, by rw [List.length_append]; simp; omega⟩
theorem cut_take2 {α : Type} (xs : List α) : T.cutD xs none (some 2) = xs.take 2 := by
  unfold T.cutD
  rw [HT.sIx_none, show HT.sIx xs.length xs.length (some 2) = min 2 xs.length from HT.sIx_nat xs.length xs.length 2, List.drop_zero, Nat.sub_zero]
  rw [← List.take_take, List.take_length] <;> simp
theorem divOk_nat {b : Nat} (h : 0 < b) (h2 : b < 2 ^ 9000) : divOk (b : Int) = true := by
  unfold divOk
  have : b.log2 < 9000 := (Nat.log2_lt (by omega)).mpr h2
  simp [h, this]
theorem divOk_s {b : Nat} (h : 0 < b) (h2 : b < 2 ^ 200) : divOk (b : Int) = true :=
  divOk_nat h (Nat.lt_of_lt_of_le h2 (Nat.pow_le_pow_right (by decide) (by decide)))
theorem divOk_int {b : Int} (h : 0 < b) (h2 : b < 2 ^ 9000) : divOk b = true := by
  have : b = (b.toNat : Int) := by omega
  rw [this]
  exact divOk_nat (by omega) (by omega)
theorem mulOk_int {a b : Int} (x y : Nat) (h0 : 0 ≤ a) (h1 : a < 2 ^ x) (h0' : 0 ≤ b) (h2 : b < 2 ^ y) (h : x + y ≤ 1000000) (hx : 0 < x) (hy : 0 < y) : mulOk a b = true := by
  have e1 : a = (a.toNat : Int) := by omega
  have e2 : b = (b.toNat : Int) := by omega
  rw [e1, e2]
  have p1 : ((2 ^ x : Nat) : Int) = 2 ^ x := by simp
  have p2 : ((2 ^ y : Nat) : Int) = 2 ^ y := by simp
  exact mul_nat x y (by omega) (by omega) h hx hy
theorem eqD_intT (i j : Int) : eqD (.int i) (.int j) = some (decide (i = j)) := eqD_int i j
theorem eqD_bl (i j : Bool) : eqD (.bl i) (.bl j) = some (i == j) := by
  rw [eqD_ok (okD_bl 9 i ▸ trivial) (okD_bl 9 j ▸ trivial), deq_bl]
theorem okD_nD (n : Nat) (es : List Nat) : ∀ x ∈ nD es, okD n x := fun x hx => by
  obtain ⟨y, _, rfl⟩ := List.mem_map.mp hx
  rw [okD_int]; trivial
theorem nD_map (es : List Nat) : nD es = es.map fun e : Nat => D.int (e : Int) := rfl
/-- the goals -/
def gs (b : Bool) : Str := if b then "many" else "few"
theorem gs_eq (a b : Bool) : eqD (.str (gs a)) (.str (gs b)) = some (decide (a = b)) := by
  have h : ∀ c, PyData.strOk (gs c) = true := by decide +kernel
  have h' : ∀ c, okD 9 (.str (gs c)) := h
  rw [eqD_ok (h' a) (h' b), deq_str]
  cases a <;> cases b <;> decide +kernel
theorem cutD_neg1 {α : Type} (xs : List α) : T.cutD xs none (some (-1)) = xs.dropLast := by
  unfold T.cutD
  rw [HT.sIx_none]
  have : HT.sIx xs.length xs.length (some (-1)) = xs.length - 1 := by
    unfold HT.sIx
    simp
    omega
  rw [this, List.drop_zero, Nat.sub_zero, List.dropLast_eq_take]
theorem TakeOk.w {F : Fn} (h : TakeOk F) {s c n k : Int} {X : Exn → D → Prop} {K : Bool → D → D → Prop} (h0 : 0 ≤ n) (h1 : n < 100000000) (h2 : 0 < k) (h3 : k < 2 ^ 100)
    (q : ∀ v s' n' : Int, 0 ≤ v → v < k → n ≤ n' → n' ≤ n + 1 → K false (.int v) (src s' c n')) : @Wf F [src s c n, .int k] X K := by
  obtain ⟨v, s', n', e, p1, p2, p3, p4⟩ := h.2.2 s c n k h0 h1 h2 h3
  exact Wf_run e (q v s' n' p1 p2 p3 p4)
theorem BigOk.w {F : Fn} (h : BigOk F) {s c n : Int} {X : Exn → D → Prop} {K : Bool → D → D → Prop} (h0 : 0 ≤ n) (h1 : n < 90000000)
    (q : ∀ v s' n' : Int, 0 ≤ v → v < 10 ^ 36 → n ≤ n' → n' ≤ n + 4 → K false (.int v) (src s' c n')) : @Wf F [src s c n] X K := by
  obtain ⟨v, s', n', e, p1, p2, p3, p4⟩ := h.2.2 s c n h0 h1
  exact Wf_run e (q v s' n' p1 p2 p3 p4)
theorem RoundsN.w {F : Fn} (h : RoundsN F) {s c n k : Int} {X : Exn → D → Prop} {K : Bool → D → D → Prop} (h0 : 0 ≤ n) (h1 : n < 90000000) (h2 : 0 ≤ k) (h3 : k ≤ 30)
    (q : ∀ (es : List Nat) (s' n' : Int), Good1 es → es.length ≤ 30 → n ≤ n' → n' ≤ n + 100 → K true (.lst (nD es)) (src s' c n')) : @Wf F [src s c n, .int k] X K := by
  obtain ⟨es, s', n', e, p1, p2, p3, p4⟩ := h.2.2 s c n k h0 h1 h2 h3
  exact Wf_run e (q es s' n' p1 p2 p3 p4)
theorem PeopleN.w {F : Fn} (h : PeopleN F) {s c n k : Int} {X : Exn → D → Prop} {K : Bool → D → D → Prop} (h0 : 0 ≤ n) (h1 : n < 80000000) (h2 : 0 ≤ k) (h3 : k ≤ 100)
    (q : ∀ (cs : List Nat) (s' n' : Int), Good2 cs → cs.length ≤ 100 → n ≤ n' → n' ≤ n + 1000 → K false (.tup (nD cs)) (src s' c n')) : @Wf F [src s c n, .int k] X K := by
  obtain ⟨es, s', n', e, p1, p2, p3, p4⟩ := h.2.2 s c n k h0 h1 h2 h3
  exact Wf_run e (q es s' n' p1 p2 p3 p4)
theorem nD_snoc (es : List Nat) (x : Nat) : nD es ++ [.int x] = nD (es ++ [x]) := by simp [nD]
theorem nD_length (es : List Nat) : (nD es).length = es.length := by simp [nD]
theorem cast_sub {a b : Nat} (h : b ≤ a) : (a : Int) - b = ((a - b : Nat) : Int) := by omega
theorem wd_p9 : binD .pow (.int 10) (.int 9) = some (false, .int 1000000000) := id rfl
theorem wd_p12 : binD .pow (.int 10) (.int 12) = some (false, .int 1000000000000) := id rfl
theorem wd_p15 : binD .pow (.int 10) (.int 15) = some (false, .int 1000000000000000) := id rfl
theorem wd_p18 : binD .pow (.int 10) (.int 18) = some (false, .int 1000000000000000000) := id rfl
theorem wd_p20 : binD .pow (.int 10) (.int 20) = some (false, .int 100000000000000000000) := id rfl
theorem wd_p30 : binD .pow (.int 10) (.int 30) = some (false, .int 1000000000000000000000000000000) := id rfl
theorem ixN_30 : ixN 3 0 = some 0 := by decide
theorem ixN_31 : ixN 3 1 = some 1 := by decide
theorem ixN_32 : ixN 3 2 = some 2 := by decide
theorem divOk_si {b : Int} (h : 0 < b) (h2 : b < 2 ^ 200) : divOk b = true := by
  have : b = (b.toNat : Int) := by omega
  rw [this]
  exact divOk_s (by omega) (by omega)
theorem ixN_nat {n j : Nat} (h : j < n) : ixN n (j : Int) = some j := by
  unfold ixN
  rw [if_pos (by omega), if_pos (by omega)]
  simp
theorem atI3 (a b c i : Int) (h0 : 0 ≤ i) (h1 : i < 3) : ∃ L, L2.atI [D.int a, .int b, .int c] i = some (.int L) ∧ (L = a ∨ L = b ∨ L = c) := by
  have : i = 0 ∨ i = 1 ∨ i = 2 := by omega
  rcases this with z | z | z <;> rw [z]
  · exact ⟨_, atI_0 _ _, by simp⟩
  · exact ⟨_, atI_1 _ _ _, by simp⟩
  · exact ⟨_, atI_2 _ _ _ _, by simp⟩
theorem atI2 (a b i : Int) (h0 : 0 ≤ i) (h1 : i < 2) : ∃ L, L2.atI [D.int a, .int b] i = some (.int L) ∧ (L = a ∨ L = b) := by
  have : i = 0 ∨ i = 1 := by omega
  rcases this with z | z <;> rw [z]
  · exact ⟨_, atI_0 _ _, by simp⟩
  · exact ⟨_, atI_1 _ _ _, by simp⟩
theorem atI4 (a b c d i : Int) (h0 : 0 ≤ i) (h1 : i < 4) : ∃ L, L2.atI [D.int a, .int b, .int c, .int d] i = some (.int L) ∧ (L = a ∨ L = b ∨ L = c ∨ L = d) := by
  have : i = 0 ∨ i = 1 ∨ i = 2 ∨ i = 3 := by omega
  rcases this with z | z | z | z <;> rw [z]
  · exact ⟨_, atI_0 _ _, by simp⟩
  · exact ⟨_, atI_1 _ _ _, by simp⟩
  · exact ⟨_, atI_2 _ _ _ _, by simp⟩
  · exact ⟨_, atI_3 _ _ _ _ _, by simp⟩
theorem sizeLine_eq : sizeLine = 16777216 := by decide
end Lw


set_option Elab.async false
set_option linter.all false
set_option maxRecDepth 100000
namespace Lw
open PySem PySem.Spec PyProof.Rows L2 T
def c_require_goal : S := .cons (.ifS (.orE (.nt (.tru (.isi (.var 0) true [.str]))) (.cmp .notin (.var 0) (.tupE (.cons (.gl "MANY" (.str "many")) (.cons (.gl "FEW" (.str "few")) (.nil)))))) (.cons (.never) (.nil)) (.nil)) (.nil)
def c_rounded_up : S := .cons (.ret (.neg (.bin .div (.neg (.var 0)) (.var 1)))) (.nil)
def c_rounded (i_rounded_up : Nat) : S := .cons (.ret (.ite (.cmp .eq (.var 0) (.gl "MANY" (.str "many"))) (.bin .div (.var 1) (.var 2)) (.call i_rounded_up (.cons (.var 1) (.cons (.var 2) (.nil)))))) (.nil)
def c_guaranteed (i_rounded : Nat) (i_products : Nat) (i_scaled_weight : Nat) (i_require_goal : Nat) (i_require_counts : Nat) (i_require_schedule : Nat) : S := .cons (.drop (.call i_require_schedule (.cons (.var 0) (.nil)))) (.cons (.drop (.call i_require_counts (.cons (.var 1) (.nil)))) (.cons (.drop (.call i_require_goal (.cons (.var 2) (.nil)))) (.cons (.ret (.call i_rounded (.cons (.var 2) (.cons (.call i_scaled_weight (.cons (.var 0) (.cons (.var 1) (.nil)))) (.cons (.ix (.call i_products (.cons (.var 0) (.nil))) (.neg (.int 1))) (.nil)))))) (.nil))))
end Lw

set_option Elab.async false
set_option linter.all false
set_option maxRecDepth 100000
set_option maxHeartbeats 1000000
namespace Lw
open PySem PySem.Spec PyProof.Rows L2 T
def RUpOk (F : Fn) : Prop := F.ar = 2 ∧ F.io = none ∧ ∀ (a : Int) (b : Nat), 0 < b → b < 2 ^ 9000 → F.run [.int a, .int b] = .ret false (.int (-(-a / b))) .non
theorem ok_rup (Γ : Nat → Option Fn) : RUpOk (mkFn Γ 2 2 none c_rounded_up) := by
  refine ⟨rfl, rfl, fun a b h1 h2 => Wk_run (Wf_mk rfl ?_)⟩
  unfold c_rounded_up
  ((try rw [psq_nx]); (repeat (refine Ws_step fun Q' hQ' => ?_; simp (maxSteps := 1000000) only [cf, co, cb, ↓We_var, ↓We_non, ↓We_bl, ↓We_int, ↓We_str, ↓We_gl, ↓We_bin, ↓We_neg, ↓We_nt, ↓We_and, ↓We_or, ↓We_ite, ↓We_cmp, ↓We_chain, ↓We_tup, ↓We_lst, ↓We_ix, ↓We_sl, ↓We_nopart, ↓We_rvs, ↓We_call, ↓We_callK, ↓We_bi, ↓We_mth, ↓We_isi, ↓We_lc, ↓We_yes, ↓We_val, ↓We_tru, ↓Wes_nil, ↓Wes_cons, ↓Wei_seq, ↓Wei_range1, ↓Wei_range2, ↓Wei_enum, ↓Wei_zip, ↓Ws_pass, ↓Ws_brk, ↓Ws_cont, ↓Ws_nil, ↓Ws_cons, ↓Ws_asg, ↓Ws_par, ↓Ws_unp, ↓Ws_drop, ↓Ws_aug, ↓Ws_setI, ↓Ws_app, ↓Ws_ext, ↓Ws_ret, ↓Ws_retN, ↓Ws_if, ↓Ws_for, ↓Ws_never, ↓Ws_fga, psq_rt, psq_bk, psq_ct, psq_ex, pfg_nx, pfg_ct, pfg_rt, pfg_bk, pfg_ex, Rw_ok, Rw_ex, ↓Rw_bind, ↓Rw_opt, Ow_some, Ow_none, ↓Ow_bind, ↓Ow_map, ↓Ow_ite, Cw_true, Cw_false, Cw_not, callW_G, callG_none, callG_io, callKW_none', okIo_own, okIo_bor, outW_none, outW_some, ↓we_nil, ↓we_cons, ↓we_dt, ↓we_fr, ↓we_slot, ↓wk_nil, ↓wk_cons, ↓wk_dt, ↓wk_fr, ↓wk_slot, ↓wg_dt, ↓wg_fr, ↓wg_slot, ↓wr_nil, ↓wr_cons, wo_own, wc_F, wc_T, ↓wp_nil, ↓wp_cons, wput, wcell, wcl0, wclf, wclo, wmf, wmo, wmb, wwr, wwo, wwb, wfree, wfree0, wfreef, wd_add, wd_adds, wd_addl, wd_addt, wd_sub, wd_mul, wd_repl, wd_rept, wd_div, wd_mod, wd_pow, wd_eq, wd_ne, wd_lt, wd_le, wd_gt, wd_ge, wd_inl, wd_int, wd_nil, wd_nit, wd_is, wd_isn, wd_tn, wd_tb, wd_ti, wd_tl, wd_tt, wd_ixl, wd_ixt, wd_sll, wd_slt, wd_i, wd_b, wd_lenl, wd_lent, wd_sum, wd_min2, wd_max2, wd_all, wd_any, wd_abs, wd_repr, wd_inti, wd_intb, wd_list1, wd_list2, wd_tup1, wd_tup2, wd_asn, wd_ast, wd_as0, wd_as1, wd_itl, wd_itt, wd_dt, wd_fr, wd_slot, wd_bvT, wd_bvF, wd_rv, wd_pn, wd_pvar, wd_pint, wd_pbin, wd_pneg, wd_pbi, wd_pcall, wd_pix, wd_ls, wd_aa, wd_as, wd_frl, wd_fzi, isTyD, isT, D.dt, isNon, permL, initE, wipeE, restE, List.getElem?_cons_zero, List.getElem?_cons_succ, List.getElem?_nil, List.set_cons_zero, List.set_cons_succ, List.length_cons, List.length_nil, List.cons_append, List.nil_append, List.append_nil, List.replicate, List.all_cons, List.all_nil, List.any_cons, List.any_nil, List.filterMap_cons, List.filterMap_nil, Option.join_some, Option.join_none, Option.bind_some, Option.map_some, Option.map_none, Bool.and_true, Bool.and_self, Bool.or_false, Bool.false_or, Bool.true_or, Bool.or_true, Bool.not_true, Bool.not_false, true_and, and_true, and_self, or_true, true_or, or_false, false_or, if_true, if_false, Bool.false_eq_true, Bool.true_eq_false, reduceCtorEq, Nat.reduceAdd, Nat.reduceSub, Nat.reduceLT, Int.reduceNeg, Nat.reduceLeDiff, not_true_eq_false, not_false_eq_true, reduceIte, decide_true, decide_false, beq_self_eq_true, ne_eq, atI_0, atI_1, atI_2, atI_3, ↓wd_p9, ↓wd_p12, ↓wd_p15, ↓wd_p18, ↓wd_p20, ↓wd_p30, ixN_30, ixN_31, ixN_32]; subst hQ'; try rw [psq_nx])); (try simp only [↓Ws_nil, psq_rt, psq_ex, outW_none, outW_some, wcell, List.getElem?_cons_zero, List.getElem?_cons_succ, Option.join_some, Ow_some, true_and, and_true, and_self]))
  exact divOk_nat h1 h2
def GoalOk (F : Fn) : Prop := F.ar = 1 ∧ F.io = none ∧ ∀ b : Bool, F.run [.str (gs b)] = .ret false .non .non
theorem gs_in (b : Bool) : inD (.str (gs b)) [.str "many", .str "few"] = some true := by
  cases b <;> decide +kernel
theorem ok_goal (Γ : Nat → Option Fn) : GoalOk (mkFn Γ 1 1 none c_require_goal) := by
  refine ⟨rfl, rfl, fun b => Wk_run (Wf_mk rfl ?_)⟩
  unfold c_require_goal
  have h2 : (3 : Nat) ≤ sizeLine := by decide
  have h3 : (2 : Nat) ≤ sizeLine := by decide
  have h4 := gs_in b
  generalize gs b = g at h4
  ((try rw [psq_nx]); (repeat (refine Ws_step fun Q' hQ' => ?_; simp (maxSteps := 1000000) only [cf, co, cb, ↓We_var, ↓We_non, ↓We_bl, ↓We_int, ↓We_str, ↓We_gl, ↓We_bin, ↓We_neg, ↓We_nt, ↓We_and, ↓We_or, ↓We_ite, ↓We_cmp, ↓We_chain, ↓We_tup, ↓We_lst, ↓We_ix, ↓We_sl, ↓We_nopart, ↓We_rvs, ↓We_call, ↓We_callK, ↓We_bi, ↓We_mth, ↓We_isi, ↓We_lc, ↓We_yes, ↓We_val, ↓We_tru, ↓Wes_nil, ↓Wes_cons, ↓Wei_seq, ↓Wei_range1, ↓Wei_range2, ↓Wei_enum, ↓Wei_zip, ↓Ws_pass, ↓Ws_brk, ↓Ws_cont, ↓Ws_nil, ↓Ws_cons, ↓Ws_asg, ↓Ws_par, ↓Ws_unp, ↓Ws_drop, ↓Ws_aug, ↓Ws_setI, ↓Ws_app, ↓Ws_ext, ↓Ws_ret, ↓Ws_retN, ↓Ws_if, ↓Ws_for, ↓Ws_never, ↓Ws_fga, psq_rt, psq_bk, psq_ct, psq_ex, pfg_nx, pfg_ct, pfg_rt, pfg_bk, pfg_ex, Rw_ok, Rw_ex, ↓Rw_bind, ↓Rw_opt, Ow_some, Ow_none, ↓Ow_bind, ↓Ow_map, ↓Ow_ite, Cw_true, Cw_false, Cw_not, callW_G, callG_none, callG_io, callKW_none', okIo_own, okIo_bor, outW_none, outW_some, ↓we_nil, ↓we_cons, ↓we_dt, ↓we_fr, ↓we_slot, ↓wk_nil, ↓wk_cons, ↓wk_dt, ↓wk_fr, ↓wk_slot, ↓wg_dt, ↓wg_fr, ↓wg_slot, ↓wr_nil, ↓wr_cons, wo_own, wc_F, wc_T, ↓wp_nil, ↓wp_cons, wput, wcell, wcl0, wclf, wclo, wmf, wmo, wmb, wwr, wwo, wwb, wfree, wfree0, wfreef, wd_add, wd_adds, wd_addl, wd_addt, wd_sub, wd_mul, wd_repl, wd_rept, wd_div, wd_mod, wd_pow, wd_eq, wd_ne, wd_lt, wd_le, wd_gt, wd_ge, wd_inl, wd_int, wd_nil, wd_nit, wd_is, wd_isn, wd_tn, wd_tb, wd_ti, wd_tl, wd_tt, wd_ixl, wd_ixt, wd_sll, wd_slt, wd_i, wd_b, wd_lenl, wd_lent, wd_sum, wd_min2, wd_max2, wd_all, wd_any, wd_abs, wd_repr, wd_inti, wd_intb, wd_list1, wd_list2, wd_tup1, wd_tup2, wd_asn, wd_ast, wd_as0, wd_as1, wd_itl, wd_itt, wd_dt, wd_fr, wd_slot, wd_bvT, wd_bvF, wd_rv, wd_pn, wd_pvar, wd_pint, wd_pbin, wd_pneg, wd_pbi, wd_pcall, wd_pix, wd_ls, wd_aa, wd_as, wd_frl, wd_fzi, isTyD, isT, D.dt, isNon, permL, initE, wipeE, restE, List.getElem?_cons_zero, List.getElem?_cons_succ, List.getElem?_nil, List.set_cons_zero, List.set_cons_succ, List.length_cons, List.length_nil, List.cons_append, List.nil_append, List.append_nil, List.replicate, List.all_cons, List.all_nil, List.any_cons, List.any_nil, List.filterMap_cons, List.filterMap_nil, Option.join_some, Option.join_none, Option.bind_some, Option.map_some, Option.map_none, Bool.and_true, Bool.and_self, Bool.or_false, Bool.false_or, Bool.true_or, Bool.or_true, Bool.not_true, Bool.not_false, true_and, and_true, and_self, or_true, true_or, or_false, false_or, if_true, if_false, Bool.false_eq_true, Bool.true_eq_false, reduceCtorEq, Nat.reduceAdd, Nat.reduceSub, Nat.reduceLT, Int.reduceNeg, Nat.reduceLeDiff, not_true_eq_false, not_false_eq_true, reduceIte, decide_true, decide_false, beq_self_eq_true, ne_eq, atI_0, atI_1, atI_2, atI_3, ↓wd_p9, ↓wd_p12, ↓wd_p15, ↓wd_p18, ↓wd_p20, ↓wd_p30, ixN_30, ixN_31, ixN_32, h2, h3, h4]; subst hQ'; try rw [psq_nx])); (try simp only [↓Ws_nil, psq_rt, psq_ex, outW_none, outW_some, wcell, List.getElem?_cons_zero, List.getElem?_cons_succ, Option.join_some, Ow_some, true_and, and_true, and_self]))
def rd (b : Bool) (a : Int) (p : Nat) : Int := if b then a / p else -(-a / p)
def RoundedOk (F : Fn) : Prop := F.ar = 3 ∧ F.io = none ∧ ∀ (b : Bool) (a : Int) (p : Nat), 0 < p → p < 2 ^ 9000 → F.run [.str (gs b), .int a, .int p] = .ret false (.int (rd b a p)) .non
theorem ok_rounded {Γ : Nat → Option Fn} {i : Nat} {F : Fn} (g : Γ i = some F) (h : RUpOk F) : RoundedOk (mkFn Γ 3 3 none (c_rounded i)) := by
  obtain ⟨a1, b1, r⟩ := h
  refine ⟨rfl, rfl, fun b a p h1 h2 => Wk_run (Wf_mk rfl ?_)⟩
  have e := Wf_ret (r a p h1 h2)
  have q := gs_eq b true
  have q : eqD (.str (gs b)) (.str "many") = some (decide (b = true)) := q
  unfold c_rounded
  have d := divOk_nat h1 h2
  generalize gs b = s at q
  cases b <;> ((try rw [psq_nx]); (repeat (refine Ws_step fun Q' hQ' => ?_; simp (maxSteps := 1000000) only [cf, co, cb, ↓We_var, ↓We_non, ↓We_bl, ↓We_int, ↓We_str, ↓We_gl, ↓We_bin, ↓We_neg, ↓We_nt, ↓We_and, ↓We_or, ↓We_ite, ↓We_cmp, ↓We_chain, ↓We_tup, ↓We_lst, ↓We_ix, ↓We_sl, ↓We_nopart, ↓We_rvs, ↓We_call, ↓We_callK, ↓We_bi, ↓We_mth, ↓We_isi, ↓We_lc, ↓We_yes, ↓We_val, ↓We_tru, ↓Wes_nil, ↓Wes_cons, ↓Wei_seq, ↓Wei_range1, ↓Wei_range2, ↓Wei_enum, ↓Wei_zip, ↓Ws_pass, ↓Ws_brk, ↓Ws_cont, ↓Ws_nil, ↓Ws_cons, ↓Ws_asg, ↓Ws_par, ↓Ws_unp, ↓Ws_drop, ↓Ws_aug, ↓Ws_setI, ↓Ws_app, ↓Ws_ext, ↓Ws_ret, ↓Ws_retN, ↓Ws_if, ↓Ws_for, ↓Ws_never, ↓Ws_fga, psq_rt, psq_bk, psq_ct, psq_ex, pfg_nx, pfg_ct, pfg_rt, pfg_bk, pfg_ex, Rw_ok, Rw_ex, ↓Rw_bind, ↓Rw_opt, Ow_some, Ow_none, ↓Ow_bind, ↓Ow_map, ↓Ow_ite, Cw_true, Cw_false, Cw_not, callW_G, callG_none, callG_io, callKW_none', okIo_own, okIo_bor, outW_none, outW_some, ↓we_nil, ↓we_cons, ↓we_dt, ↓we_fr, ↓we_slot, ↓wk_nil, ↓wk_cons, ↓wk_dt, ↓wk_fr, ↓wk_slot, ↓wg_dt, ↓wg_fr, ↓wg_slot, ↓wr_nil, ↓wr_cons, wo_own, wc_F, wc_T, ↓wp_nil, ↓wp_cons, wput, wcell, wcl0, wclf, wclo, wmf, wmo, wmb, wwr, wwo, wwb, wfree, wfree0, wfreef, wd_add, wd_adds, wd_addl, wd_addt, wd_sub, wd_mul, wd_repl, wd_rept, wd_div, wd_mod, wd_pow, wd_eq, wd_ne, wd_lt, wd_le, wd_gt, wd_ge, wd_inl, wd_int, wd_nil, wd_nit, wd_is, wd_isn, wd_tn, wd_tb, wd_ti, wd_tl, wd_tt, wd_ixl, wd_ixt, wd_sll, wd_slt, wd_i, wd_b, wd_lenl, wd_lent, wd_sum, wd_min2, wd_max2, wd_all, wd_any, wd_abs, wd_repr, wd_inti, wd_intb, wd_list1, wd_list2, wd_tup1, wd_tup2, wd_asn, wd_ast, wd_as0, wd_as1, wd_itl, wd_itt, wd_dt, wd_fr, wd_slot, wd_bvT, wd_bvF, wd_rv, wd_pn, wd_pvar, wd_pint, wd_pbin, wd_pneg, wd_pbi, wd_pcall, wd_pix, wd_ls, wd_aa, wd_as, wd_frl, wd_fzi, isTyD, isT, D.dt, isNon, permL, initE, wipeE, restE, List.getElem?_cons_zero, List.getElem?_cons_succ, List.getElem?_nil, List.set_cons_zero, List.set_cons_succ, List.length_cons, List.length_nil, List.cons_append, List.nil_append, List.append_nil, List.replicate, List.all_cons, List.all_nil, List.any_cons, List.any_nil, List.filterMap_cons, List.filterMap_nil, Option.join_some, Option.join_none, Option.bind_some, Option.map_some, Option.map_none, Bool.and_true, Bool.and_self, Bool.or_false, Bool.false_or, Bool.true_or, Bool.or_true, Bool.not_true, Bool.not_false, true_and, and_true, and_self, or_true, true_or, or_false, false_or, if_true, if_false, Bool.false_eq_true, Bool.true_eq_false, reduceCtorEq, Nat.reduceAdd, Nat.reduceSub, Nat.reduceLT, Int.reduceNeg, Nat.reduceLeDiff, not_true_eq_false, not_false_eq_true, reduceIte, decide_true, decide_false, beq_self_eq_true, ne_eq, atI_0, atI_1, atI_2, atI_3, ↓wd_p9, ↓wd_p12, ↓wd_p15, ↓wd_p18, ↓wd_p20, ↓wd_p30, ixN_30, ixN_31, ixN_32, e, g, a1, b1, q, d]; subst hQ'; try rw [psq_nx])); (try simp only [↓Ws_nil, psq_rt, psq_ex, outW_none, outW_some, wcell, List.getElem?_cons_zero, List.getElem?_cons_succ, Option.join_some, Ow_some, true_and, and_true, and_self])) <;> simp [rd]
def GuarOk (F : Fn) : Prop := F.ar = 3 ∧ F.io = none ∧ ∀ (q b : Bool) (es cs : List Nat), Good1 es → Good2 cs → F.run [sqD q es, .tup (nD cs), .str (gs b)] = .ret false (.int (rd b (sw (pd 1 es) cs (pl 1 es) : Nat) (pd 1 es))) .non
theorem pd_pos {es : List Nat} (g : Good1 es) : 0 < pd 1 es := by rw [pd_eq, Nat.one_mul]; exact pp_pos g.ge _
theorem pd_lt {es : List Nat} (g : Good1 es) : pd 1 es < 2 ^ 8900 := by rw [pd_eq, Nat.one_mul]; exact g.pr
theorem pd_lt9 {es : List Nat} (g : Good1 es) : pd 1 es < 2 ^ 9000 := Nat.lt_of_lt_of_le (pd_lt g) (Nat.pow_le_pow_right (by decide) (by decide))
theorem ok_guar {Γ : Nat → Option Fn} {i1 i2 i3 i4 i5 i6 : Nat} {F1 F2 F3 F4 F5 F6 : Fn} (g1 : Γ i1 = some F1) (g2 : Γ i2 = some F2) (g3 : Γ i3 = some F3) (g4 : Γ i4 = some F4) (g5 : Γ i5 = some F5) (g6 : Γ i6 = some F6)
    (h1 : RoundedOk F1) (h2 : ProdOk F2) (h3 : ScaledOk F3) (h4 : GoalOk F4) (h5 : ReqCountsOk F5) (h6 : ReqSchedOk F6) : GuarOk (mkFn Γ 3 3 none (c_guaranteed i1 i2 i3 i4 i5 i6)) := by
  obtain ⟨a1, b1, r1⟩ := h1
  obtain ⟨a2, b2, r2⟩ := h2
  obtain ⟨a3, b3, r3⟩ := h3
  obtain ⟨a4, b4, r4⟩ := h4
  obtain ⟨a5, b5, r5⟩ := h5
  obtain ⟨a6, b6, r6⟩ := h6
  refine ⟨rfl, rfl, fun q b es cs g hc => Wk_run (Wf_mk rfl ?_)⟩
  have e6 := Wf_ret (r6 q es g.ge g.len)
  have e5 := Wf_ret (r5 cs hc.len)
  have e4 := Wf_ret (r4 b)
  have e3 := Wf_ret (r3 q es cs g hc.lt hc.len)
  have e2 := Wf_ret (r2 q es g)
  have e1 := Wf_ret (r1 b (sw (pd 1 es) cs (pl 1 es) : Nat) (pd 1 es) (pd_pos g) (pd_lt9 g))
  have hl := pref_last es es.length
  rw [show pp es es.length = pd 1 es by rw [pd_eq, Nat.one_mul]] at hl
  generalize sqD q es = S0 at *
  generalize D.tup (nD cs) = C0 at *
  generalize nD (pref es es.length) = L at *
  generalize gs b = s at *
  unfold c_guaranteed
  simp only [ixD] at hl
  ((try rw [psq_nx]); (repeat (refine Ws_step fun Q' hQ' => ?_; simp (maxSteps := 1000000) only [cf, co, cb, ↓We_var, ↓We_non, ↓We_bl, ↓We_int, ↓We_str, ↓We_gl, ↓We_bin, ↓We_neg, ↓We_nt, ↓We_and, ↓We_or, ↓We_ite, ↓We_cmp, ↓We_chain, ↓We_tup, ↓We_lst, ↓We_ix, ↓We_sl, ↓We_nopart, ↓We_rvs, ↓We_call, ↓We_callK, ↓We_bi, ↓We_mth, ↓We_isi, ↓We_lc, ↓We_yes, ↓We_val, ↓We_tru, ↓Wes_nil, ↓Wes_cons, ↓Wei_seq, ↓Wei_range1, ↓Wei_range2, ↓Wei_enum, ↓Wei_zip, ↓Ws_pass, ↓Ws_brk, ↓Ws_cont, ↓Ws_nil, ↓Ws_cons, ↓Ws_asg, ↓Ws_par, ↓Ws_unp, ↓Ws_drop, ↓Ws_aug, ↓Ws_setI, ↓Ws_app, ↓Ws_ext, ↓Ws_ret, ↓Ws_retN, ↓Ws_if, ↓Ws_for, ↓Ws_never, ↓Ws_fga, psq_rt, psq_bk, psq_ct, psq_ex, pfg_nx, pfg_ct, pfg_rt, pfg_bk, pfg_ex, Rw_ok, Rw_ex, ↓Rw_bind, ↓Rw_opt, Ow_some, Ow_none, ↓Ow_bind, ↓Ow_map, ↓Ow_ite, Cw_true, Cw_false, Cw_not, callW_G, callG_none, callG_io, callKW_none', okIo_own, okIo_bor, outW_none, outW_some, ↓we_nil, ↓we_cons, ↓we_dt, ↓we_fr, ↓we_slot, ↓wk_nil, ↓wk_cons, ↓wk_dt, ↓wk_fr, ↓wk_slot, ↓wg_dt, ↓wg_fr, ↓wg_slot, ↓wr_nil, ↓wr_cons, wo_own, wc_F, wc_T, ↓wp_nil, ↓wp_cons, wput, wcell, wcl0, wclf, wclo, wmf, wmo, wmb, wwr, wwo, wwb, wfree, wfree0, wfreef, wd_add, wd_adds, wd_addl, wd_addt, wd_sub, wd_mul, wd_repl, wd_rept, wd_div, wd_mod, wd_pow, wd_eq, wd_ne, wd_lt, wd_le, wd_gt, wd_ge, wd_inl, wd_int, wd_nil, wd_nit, wd_is, wd_isn, wd_tn, wd_tb, wd_ti, wd_tl, wd_tt, wd_ixl, wd_ixt, wd_sll, wd_slt, wd_i, wd_b, wd_lenl, wd_lent, wd_sum, wd_min2, wd_max2, wd_all, wd_any, wd_abs, wd_repr, wd_inti, wd_intb, wd_list1, wd_list2, wd_tup1, wd_tup2, wd_asn, wd_ast, wd_as0, wd_as1, wd_itl, wd_itt, wd_dt, wd_fr, wd_slot, wd_bvT, wd_bvF, wd_rv, wd_pn, wd_pvar, wd_pint, wd_pbin, wd_pneg, wd_pbi, wd_pcall, wd_pix, wd_ls, wd_aa, wd_as, wd_frl, wd_fzi, isTyD, isT, D.dt, isNon, permL, initE, wipeE, restE, List.getElem?_cons_zero, List.getElem?_cons_succ, List.getElem?_nil, List.set_cons_zero, List.set_cons_succ, List.length_cons, List.length_nil, List.cons_append, List.nil_append, List.append_nil, List.replicate, List.all_cons, List.all_nil, List.any_cons, List.any_nil, List.filterMap_cons, List.filterMap_nil, Option.join_some, Option.join_none, Option.bind_some, Option.map_some, Option.map_none, Bool.and_true, Bool.and_self, Bool.or_false, Bool.false_or, Bool.true_or, Bool.or_true, Bool.not_true, Bool.not_false, true_and, and_true, and_self, or_true, true_or, or_false, false_or, if_true, if_false, Bool.false_eq_true, Bool.true_eq_false, reduceCtorEq, Nat.reduceAdd, Nat.reduceSub, Nat.reduceLT, Int.reduceNeg, Nat.reduceLeDiff, not_true_eq_false, not_false_eq_true, reduceIte, decide_true, decide_false, beq_self_eq_true, ne_eq, atI_0, atI_1, atI_2, atI_3, ↓wd_p9, ↓wd_p12, ↓wd_p15, ↓wd_p18, ↓wd_p20, ↓wd_p30, ixN_30, ixN_31, ixN_32, e1, e2, e3, e4, e5, e6, g1, g2, g3, g4, g5, g6, a1, a2, a3, a4, a5, a6, b1, b2, b3, b4, b5, b6, hl]; subst hQ'; try rw [psq_nx])); (try simp only [↓Ws_nil, psq_rt, psq_ex, outW_none, outW_some, wcell, List.getElem?_cons_zero, List.getElem?_cons_succ, Option.join_some, Ow_some, true_and, and_true, and_self]))
/-- the weight, rounded, by the reduced numbers -/
theorem weight_split {es cs : List Nat} (g : Good1 es) : ∃ k, 0 < k ∧ sw (pd 1 es) cs (pl 1 es) = (wg 0 1 es cs).1 * k ∧ pd 1 es = (wg 0 1 es cs).2 * k ∧ 0 < (wg 0 1 es cs).2 ∧ (wg 0 1 es cs).2 < 2 ^ 8900 := by
  obtain ⟨w1, w2, w3⟩ := sw_wg es cs 0 1 (by decide) fun e he => by have := g.ge e he; omega
  rw [Nat.zero_mul, Nat.zero_add] at w1
  obtain ⟨k, hk⟩ := w2
  have h0 := pd_pos g
  have hk0 : 0 < k := by
    rcases Nat.eq_zero_or_pos k with z | z
    · rw [z, Nat.mul_zero] at hk; omega
    · exact z
  have e1 : pd 1 es / (wg 0 1 es cs).2 = k := by
    conv => lhs; rw [hk]
    exact Nat.mul_div_cancel_left k w3
  rw [e1] at w1
  exact ⟨k, hk0, w1, hk, w3, Nat.lt_of_le_of_lt (Nat.le_of_dvd h0 ⟨k, hk⟩) (pd_lt g)⟩
theorem rd_cancel (b : Bool) (t p k : Nat) (hk : 0 < k) : rd b ((t * k : Nat) : Int) (p * k) = rd b t p := by
  have hk' : (k : Int) ≠ 0 := by omega
  unfold rd
  rw [Int.natCast_mul, Int.natCast_mul, ← Int.neg_mul, Int.mul_ediv_mul_of_pos_left _ _ (by omega), Int.mul_ediv_mul_of_pos_left _ _ (by omega)]
theorem rd_up (t p : Nat) (hp : 0 < p) : rd false t p = (t : Int) / p + (if (0 : Int) < (t : Int) % p then 1 else 0) := by
  unfold rd
  rw [if_neg (by decide)]
  have h1 := Int.mul_ediv_add_emod (t : Int) p
  have h2 := Int.emod_nonneg (t : Int) (b := p) (by omega)
  have h3 := Int.emod_lt_of_pos (t : Int) (b := p) (by omega)
  generalize (t : Int) / p = q at *
  generalize (t : Int) % p = r at *
  have e : -(t : Int) = (-q) * p + (-r) := by rw [← h1, Int.neg_mul, Int.mul_comm q]; omega
  rw [e, Int.add_comm, Int.add_mul_ediv_right _ _ (by omega)]
  split
  · have : -r / (p : Int) = -1 := by
      have e2 : -r = (p - r) + (-1) * p := by omega
      rw [e2, Int.add_mul_ediv_right _ _ (by omega), Int.ediv_eq_zero_of_lt (by omega) (by omega)]
      rfl
    omega
  · have : r = 0 := by omega
    subst this
    simp
theorem low_one {t p : Nat} (hp : 0 < p) : ((t : Int) / p = rd false t p) ↔ p / Nat.gcd t p = 1 := by
  rw [rd_up t p hp]
  have h2 := Int.emod_nonneg (t : Int) (b := p) (by omega)
  have hg : 0 < Nat.gcd t p := Nat.gcd_pos_of_pos_right _ hp
  have hd := Nat.gcd_dvd_right t p
  constructor
  · intro h
    have h0 : (t : Int) % p = 0 := by
      split at h <;> omega
    have h0' : t % p = 0 := by
      have : ((t % p : Nat) : Int) = 0 := by simpa using h0
      omega
    rw [Nat.gcd_eq_right (Nat.dvd_of_mod_eq_zero h0')]
    exact Nat.div_self hp
  · intro h
    have e : p = Nat.gcd t p := by
      obtain ⟨k, hk⟩ := hd
      generalize Nat.gcd t p = G at *
      have e : p / G = k := by rw [hk]; exact Nat.mul_div_cancel_left _ hg
      rw [e] at h
      subst h
      rw [Nat.mul_one] at hk
      exact hk
    have : p ∣ t := by rw [e]; exact Nat.gcd_dvd_left t p
    have h0 : t % p = 0 := Nat.mod_eq_zero_of_dvd this
    have : (t : Int) % p = 0 := by
      have : ((t % p : Nat) : Int) = 0 := by rw [h0]; rfl
      simpa using this
    rw [this]
    simp
theorem foldl_pp (es : List Nat) : ∀ a : Nat, es.foldl (fun p e => p * e) a = a * pp es es.length := by
  induction es with
  | nil => intro a; simp [pp]
  | cons e es ih => intro a; rw [List.foldl_cons, ih, List.length_cons, pp_cons, Nat.mul_assoc]
theorem pp_drop {es : List Nat} {j y : Nat} (h : es[j]? = some y) : pp (es.drop j) (es.length - j) = y * pp (es.drop (j + 1)) (es.length - (j + 1)) := by
  obtain ⟨hlt, hy⟩ := List.getElem?_eq_some_iff.mp h
  rw [List.drop_eq_getElem_cons hlt, hy, show es.length - j = (es.length - (j + 1)) + 1 by omega, pp_cons]
theorem pp_leB {l : List Nat} {B : Nat} (h : ∀ e ∈ l, e ≤ B) (hB : 1 ≤ B) : ∀ j, pp l j ≤ B ^ j := by
  intro j
  induction j with
  | zero => simp [pp]
  | succ j ih =>
    cases hj : l[j]? with
    | none =>
      have hn := List.getElem?_eq_none_iff.mp hj
      have e : pp l (j + 1) = pp l j := by
        unfold pp
        rw [List.take_of_length_le hn, List.take_of_length_le (by omega)]
      rw [e]
      exact Nat.le_trans ih (Nat.pow_le_pow_right hB (by omega))
    | some x =>
      rw [pp_succ hj, Nat.pow_succ]
      exact Nat.mul_le_mul ih (h x (List.mem_of_getElem? hj))
theorem good1_small {es : List Nat} {n : Nat} (h : ∀ e ∈ es, 2 ≤ e ∧ e < 2 ^ 5) (hl : es.length ≤ n) (hn : n ≤ 200) : Good1 es :=
  good_of (k := 5) (n := n) (fun e he => (h e he).1) (fun e he => (h e he).2) (by omega) hl hn (by omega)
theorem in62_of {i : Int} (h : -(2 ^ 62) ≤ i) (h2 : i < 2 ^ 62) : in62 i = true := by
  unfold in62
  rw [decide_eq_true h, decide_eq_true h2]; rfl
end Lw


set_option Elab.async false
set_option linter.all false
set_option maxRecDepth 100000
namespace Lw
open PySem PySem.Spec PyProof.Rows L2 T
def c__law_cell_at : S := .cons (.ret (.ite (.cmp .lt (.var 1) (.bi .len (.cons (.var 0) (.nil)))) (.ix (.var 0) (.var 1)) (.int 0))) (.nil)
def c2__law_source : S := .cons (.ret (.lstE (.cons (.bin .mul (.var 0) (.bi .int (.cons (.cmp .ge (.var 0) (.bin .pow (.int 10) (.int 18))) (.nil)))) (.cons (.bin .mod (.bi .int (.cons (.var 0) (.nil))) (.int 2147483647)) (.cons (.int 0) (.nil)))))) (.nil)
def c2__law_take : S := .cons (.ifS (.cmp .gt (.ix (.var 0) (.int 0)) (.int 0)) (.cons (.asg 2 (.bin .mod (.bi .int (.cons (.ix (.var 0) (.int 0)) (.nil))) (.var 1))) (.cons (.setI 0 (.int 0) (.bin .div (.ix (.var 0) (.int 0)) (.var 1))) (.cons (.ret (.var 2)) (.nil)))) (.nil)) (.cons (.setI 0 (.int 2) (.bin .add (.ix (.var 0) (.int 2)) (.int 1))) (.cons (.asg 3 (.ix (.lstE (.cons (.int 2147483629) (.cons (.int 2147483587) (.cons (.int 2147483579) (.cons (.int 2147483563) (.nil)))))) (.bin .mod (.bi .int (.cons (.ix (.var 0) (.int 2)) (.nil))) (.int 4)))) (.cons (.asg 4 (.bin .mod (.bi .int (.cons (.bin .pow (.bin .add (.bin .add (.ix (.var 0) (.int 1)) (.bin .mul (.int 6007) (.ix (.var 0) (.int 2)))) (.int 29)) (.int 3)) (.nil))) (.var 3))) (.cons (.asg 4 (.bin .mod (.bi .int (.cons (.bin .mul (.bin .add (.var 4) (.ix (.var 0) (.int 2))) (.bin .add (.bin .div (.var 4) (.int 1021)) (.int 50021))) (.nil))) (.var 3))) (.cons (.asg 4 (.bin .mod (.bi .int (.cons (.bin .mul (.var 4) (.bin .add (.bin .add (.bin .div (.var 4) (.int 887)) (.bin .mul (.int 31) (.ix (.var 0) (.int 2)))) (.int 3))) (.nil))) (.var 3))) (.cons (.ret (.bin .mod (.bi .int (.cons (.bin .div (.var 4) (.int 13)) (.nil))) (.var 1))) (.nil)))))))
def c__law_stages (i__law_take : Nat) : S := .cons (.asg 1 (.ix (.lstE (.cons (.call i__law_take (.cons (.var 0) (.cons (.int 6) (.nil)))) (.cons (.call i__law_take (.cons (.var 0) (.cons (.int 6) (.nil)))) (.cons (.call i__law_take (.cons (.var 0) (.cons (.int 201) (.nil)))) (.nil))))) (.call i__law_take (.cons (.var 0) (.cons (.int 3) (.nil)))))) (.cons (.asg 2 (.ix (.lstE (.cons (.int 2) (.cons (.int 4) (.cons (.int 9) (.cons (.bin .pow (.int 10) (.int 9)) (.nil)))))) (.call i__law_take (.cons (.var 0) (.cons (.int 4) (.nil)))))) (.cons (.ret (.lc [3] (.bin .add (.int 2) (.call i__law_take (.cons (.var 0) (.cons (.var 2) (.nil))))) (.nm 3) (.range1 (.var 1)) .yes)) (.nil)))
def c__law_crowd (i__law_take : Nat) : S := .cons (.asg 2 (.bi .min2 (.cons (.int 200) (.cons (.ix (.lstE (.cons (.var 1) (.cons (.bin .add (.var 1) (.int 2)) (.cons (.call i__law_take (.cons (.var 0) (.cons (.bin .add (.var 1) (.int 1)) (.nil)))) (.nil))))) (.call i__law_take (.cons (.var 0) (.cons (.int 3) (.nil))))) (.nil))))) (.cons (.asg 3 (.lstE (.cons (.int 2) (.cons (.int 5) (.cons (.int 40) (.cons (.bin .pow (.int 10) (.int 18)) (.nil))))))) (.cons (.asg 4 (.call i__law_take (.cons (.var 0) (.cons (.int 4) (.nil))))) (.cons (.ret (.bi .tuple (.cons (.lc [5] (.bin .mul (.call i__law_take (.cons (.var 0) (.cons (.ix (.var 3) (.var 4)) (.nil)))) (.call i__law_take (.cons (.var 0) (.cons (.int 2) (.nil))))) (.nm 5) (.range1 (.var 2)) .yes) (.nil)))) (.nil))))
def c__law_scaled : S := .cons (.unp (.tp (.cons (.nm 2) (.cons (.nm 3) (.nil)))) (.tupE (.cons (.int 0) (.cons (.int 1) (.nil))))) (.cons (.forS (.tp (.cons (.nm 4) (.cons (.nm 5) (.nil)))) (.enum (.var 0)) (.cons (.asg 3 (.bin .mul (.var 3) (.var 5))) (.cons (.fga [4, 5] (.asg 2 (.bin .add (.bin .mul (.var 2) (.var 5)) (.ix (.bin .add (.bi .list (.cons (.var 1) (.nil))) (.bin .rep (.lstE (.cons (.int 0) (.nil))) (.bi .len (.cons (.var 0) (.nil))))) (.var 4))))) (.nil)))) (.cons (.ret (.tupE (.cons (.var 2) (.cons (.var 3) (.nil))))) (.nil)))
def c_is_between (i_is_integer : Nat) : S := .cons (.ret (.andE (.call i_is_integer (.cons (.var 0) (.nil))) (.chain .le .le (.var 1) (.var 0) (.var 2)))) (.nil)
def c_unit_of (i_products : Nat) : S := .cons (.asg 2 (.call i_products (.cons (.var 0) (.nil)))) (.cons (.ret (.bin .div (.ix (.var 2) (.neg (.int 1))) (.ix (.var 2) (.var 1)))) (.nil))
def c_require_number (i_is_at_least : Nat) : S := .cons (.ifS (.nt (.tru (.call i_is_at_least (.cons (.var 0) (.cons (.int 0) (.nil)))))) (.cons (.never) (.nil)) (.nil)) (.nil)
def c_require_distance (i_is_between : Nat) : S := .cons (.ifS (.nt (.tru (.call i_is_between (.cons (.var 1) (.cons (.int 1) (.cons (.bi .len (.cons (.var 0) (.nil))) (.nil))))))) (.cons (.never) (.nil)) (.nil)) (.nil)
end Lw

set_option Elab.async false
set_option linter.all false
set_option maxRecDepth 100000
set_option maxHeartbeats 1000000
namespace Lw
open PySem PySem.Spec PyProof.Rows L2 T
/-- a source of draws -/
def Src5Ok (F : Fn) : Prop := F.ar = 1 ∧ F.io = none ∧ ∀ c : Int, c.natAbs < 2 ^ 1048576 → ∃ s, F.run [.int c] = .ret true (src s (c % 2147483647) 0) .non
theorem mulOk_wide {a b : Int} (x y : Nat) (h1 : a.natAbs < 2 ^ x) (h2 : b.natAbs < 2 ^ y) (h : x + y ≤ 2000000) (hx : 0 < x) (hy : 0 < y) : mulOk a b = true := by
  have p1 := PySem.Flt.log2_lt_of hx h1
  have p2 := PySem.Flt.log2_lt_of hy h2
  unfold mulOk
  exact decide_eq_true (by omega)
theorem ok_source5 (Γ : Nat → Option Fn) : Src5Ok (mkFn Γ 1 1 none c2__law_source) := by
  refine ⟨rfl, rfl, fun c hc => ?_⟩
  refine ⟨c * (if decide (c ≥ 1000000000000000000) = true then 1 else 0), Wk_run (Wf_mk rfl ?_)⟩
  have m : mulOk c (if decide (1000000000000000000 ≤ c) = true then 1 else 0) = true := mulOk_wide 1048576 2 hc (by split <;> omega) (by decide) (by decide) (by decide)
  have h3 : 3 ≤ sizeLine := by decide
  have hp : (0 : Int) < 2147483647 := by decide
  unfold c2__law_source
  ((try rw [psq_nx]); (repeat (refine Ws_step fun Q' hQ' => ?_; simp (maxSteps := 1000000) only [cf, co, cb, ↓We_var, ↓We_non, ↓We_bl, ↓We_int, ↓We_str, ↓We_gl, ↓We_bin, ↓We_neg, ↓We_nt, ↓We_and, ↓We_or, ↓We_ite, ↓We_cmp, ↓We_chain, ↓We_tup, ↓We_lst, ↓We_ix, ↓We_sl, ↓We_nopart, ↓We_rvs, ↓We_call, ↓We_callK, ↓We_bi, ↓We_mth, ↓We_isi, ↓We_lc, ↓We_yes, ↓We_val, ↓We_tru, ↓Wes_nil, ↓Wes_cons, ↓Wei_seq, ↓Wei_range1, ↓Wei_range2, ↓Wei_enum, ↓Wei_zip, ↓Ws_pass, ↓Ws_brk, ↓Ws_cont, ↓Ws_nil, ↓Ws_cons, ↓Ws_asg, ↓Ws_par, ↓Ws_unp, ↓Ws_drop, ↓Ws_aug, ↓Ws_setI, ↓Ws_app, ↓Ws_ext, ↓Ws_ret, ↓Ws_retN, ↓Ws_if, ↓Ws_for, ↓Ws_never, ↓Ws_fga, psq_rt, psq_bk, psq_ct, psq_ex, pfg_nx, pfg_ct, pfg_rt, pfg_bk, pfg_ex, Rw_ok, Rw_ex, ↓Rw_bind, ↓Rw_opt, Ow_some, Ow_none, ↓Ow_bind, ↓Ow_map, ↓Ow_ite, Cw_true, Cw_false, Cw_not, callW_G, callG_none, callG_io, callKW_none', okIo_own, okIo_bor, outW_none, outW_some, ↓we_nil, ↓we_cons, ↓we_dt, ↓we_fr, ↓we_slot, ↓wk_nil, ↓wk_cons, ↓wk_dt, ↓wk_fr, ↓wk_slot, ↓wg_dt, ↓wg_fr, ↓wg_slot, ↓wr_nil, ↓wr_cons, wo_own, wc_F, wc_T, ↓wp_nil, ↓wp_cons, wput, wcell, wcl0, wclf, wclo, wmf, wmo, wmb, wwr, wwo, wwb, wfree, wfree0, wfreef, wd_add, wd_adds, wd_addl, wd_addt, wd_sub, wd_mul, wd_repl, wd_rept, wd_div, wd_mod, wd_pow, wd_eq, wd_ne, wd_lt, wd_le, wd_gt, wd_ge, wd_inl, wd_int, wd_nil, wd_nit, wd_is, wd_isn, wd_tn, wd_tb, wd_ti, wd_tl, wd_tt, wd_ixl, wd_ixt, wd_sll, wd_slt, wd_i, wd_b, wd_lenl, wd_lent, wd_sum, wd_min2, wd_max2, wd_all, wd_any, wd_abs, wd_repr, wd_inti, wd_intb, wd_list1, wd_list2, wd_tup1, wd_tup2, wd_asn, wd_ast, wd_as0, wd_as1, wd_itl, wd_itt, wd_dt, wd_fr, wd_slot, wd_bvT, wd_bvF, wd_rv, wd_pn, wd_pvar, wd_pint, wd_pbin, wd_pneg, wd_pbi, wd_pcall, wd_pix, wd_ls, wd_aa, wd_as, wd_frl, wd_fzi, isTyD, isT, D.dt, isNon, permL, initE, wipeE, restE, List.getElem?_cons_zero, List.getElem?_cons_succ, List.getElem?_nil, List.set_cons_zero, List.set_cons_succ, List.length_cons, List.length_nil, List.cons_append, List.nil_append, List.append_nil, List.replicate, List.all_cons, List.all_nil, List.any_cons, List.any_nil, List.filterMap_cons, List.filterMap_nil, Option.join_some, Option.join_none, Option.bind_some, Option.map_some, Option.map_none, Bool.and_true, Bool.and_self, Bool.or_false, Bool.false_or, Bool.true_or, Bool.or_true, Bool.not_true, Bool.not_false, true_and, and_true, and_self, or_true, true_or, or_false, false_or, if_true, if_false, Bool.false_eq_true, Bool.true_eq_false, reduceCtorEq, Nat.reduceAdd, Nat.reduceSub, Nat.reduceLT, Int.reduceNeg, Nat.reduceLeDiff, not_true_eq_false, not_false_eq_true, reduceIte, decide_true, decide_false, beq_self_eq_true, ne_eq, atI_0, atI_1, atI_2, atI_3, ↓wd_p9, ↓wd_p12, ↓wd_p15, ↓wd_p18, ↓wd_p20, ↓wd_p30, ixN_30, ixN_31, ixN_32, m, h3, hp]; subst hQ'; try rw [psq_nx])); (try simp only [↓Ws_nil, psq_rt, psq_ex, outW_none, outW_some, wcell, List.getElem?_cons_zero, List.getElem?_cons_succ, Option.join_some, Ow_some, true_and, and_true, and_self]))
  rfl
def Take5Ok (F : Fn) : Prop := F.ar = 2 ∧ F.io = some 0 ∧ ∀ s c n k : Int, 0 ≤ c → c < 2147483647 → 0 ≤ n → n < 100000000 → 0 < k → k < 2 ^ 100 → ∃ r s' n', F.run [src s c n, .int k] = .ret false (.int r) (src s' c n') ∧ 0 ≤ r ∧ r < k ∧ n ≤ n' ∧ n' ≤ n + 1
theorem ok_take5 (Γ : Nat → Option Fn) : Take5Ok (mkFn Γ 2 5 (some 0) c2__law_take) := by
  refine ⟨rfl, rfl, fun s c n k c0 c1 n0 n1 k0 k1 => ?_⟩
  have dk : divOk k = true := divOk_si k0 (by omega)
  have h4 : 4 ≤ sizeLine := by decide
  by_cases hs : 0 < s
  · refine ⟨s % k, s / k, n, Wk_run (Wf_mk rfl ?_), Int.emod_nonneg _ (by omega), Int.emod_lt_of_pos _ k0, by omega, by omega⟩
    unfold c2__law_take src
    ((try rw [psq_nx]); (repeat (refine Ws_step fun Q' hQ' => ?_; simp (maxSteps := 1000000) only [cf, co, cb, ↓We_var, ↓We_non, ↓We_bl, ↓We_int, ↓We_str, ↓We_gl, ↓We_bin, ↓We_neg, ↓We_nt, ↓We_and, ↓We_or, ↓We_ite, ↓We_cmp, ↓We_chain, ↓We_tup, ↓We_lst, ↓We_ix, ↓We_sl, ↓We_nopart, ↓We_rvs, ↓We_call, ↓We_callK, ↓We_bi, ↓We_mth, ↓We_isi, ↓We_lc, ↓We_yes, ↓We_val, ↓We_tru, ↓Wes_nil, ↓Wes_cons, ↓Wei_seq, ↓Wei_range1, ↓Wei_range2, ↓Wei_enum, ↓Wei_zip, ↓Ws_pass, ↓Ws_brk, ↓Ws_cont, ↓Ws_nil, ↓Ws_cons, ↓Ws_asg, ↓Ws_par, ↓Ws_unp, ↓Ws_drop, ↓Ws_aug, ↓Ws_setI, ↓Ws_app, ↓Ws_ext, ↓Ws_ret, ↓Ws_retN, ↓Ws_if, ↓Ws_for, ↓Ws_never, ↓Ws_fga, psq_rt, psq_bk, psq_ct, psq_ex, pfg_nx, pfg_ct, pfg_rt, pfg_bk, pfg_ex, Rw_ok, Rw_ex, ↓Rw_bind, ↓Rw_opt, Ow_some, Ow_none, ↓Ow_bind, ↓Ow_map, ↓Ow_ite, Cw_true, Cw_false, Cw_not, callW_G, callG_none, callG_io, callKW_none', okIo_own, okIo_bor, outW_none, outW_some, ↓we_nil, ↓we_cons, ↓we_dt, ↓we_fr, ↓we_slot, ↓wk_nil, ↓wk_cons, ↓wk_dt, ↓wk_fr, ↓wk_slot, ↓wg_dt, ↓wg_fr, ↓wg_slot, ↓wr_nil, ↓wr_cons, wo_own, wc_F, wc_T, ↓wp_nil, ↓wp_cons, wput, wcell, wcl0, wclf, wclo, wmf, wmo, wmb, wwr, wwo, wwb, wfree, wfree0, wfreef, wd_add, wd_adds, wd_addl, wd_addt, wd_sub, wd_mul, wd_repl, wd_rept, wd_div, wd_mod, wd_pow, wd_eq, wd_ne, wd_lt, wd_le, wd_gt, wd_ge, wd_inl, wd_int, wd_nil, wd_nit, wd_is, wd_isn, wd_tn, wd_tb, wd_ti, wd_tl, wd_tt, wd_ixl, wd_ixt, wd_sll, wd_slt, wd_i, wd_b, wd_lenl, wd_lent, wd_sum, wd_min2, wd_max2, wd_all, wd_any, wd_abs, wd_repr, wd_inti, wd_intb, wd_list1, wd_list2, wd_tup1, wd_tup2, wd_asn, wd_ast, wd_as0, wd_as1, wd_itl, wd_itt, wd_dt, wd_fr, wd_slot, wd_bvT, wd_bvF, wd_rv, wd_pn, wd_pvar, wd_pint, wd_pbin, wd_pneg, wd_pbi, wd_pcall, wd_pix, wd_ls, wd_aa, wd_as, wd_frl, wd_fzi, isTyD, isT, D.dt, isNon, permL, initE, wipeE, restE, List.getElem?_cons_zero, List.getElem?_cons_succ, List.getElem?_nil, List.set_cons_zero, List.set_cons_succ, List.length_cons, List.length_nil, List.cons_append, List.nil_append, List.append_nil, List.replicate, List.all_cons, List.all_nil, List.any_cons, List.any_nil, List.filterMap_cons, List.filterMap_nil, Option.join_some, Option.join_none, Option.bind_some, Option.map_some, Option.map_none, Bool.and_true, Bool.and_self, Bool.or_false, Bool.false_or, Bool.true_or, Bool.or_true, Bool.not_true, Bool.not_false, true_and, and_true, and_self, or_true, true_or, or_false, false_or, if_true, if_false, Bool.false_eq_true, Bool.true_eq_false, reduceCtorEq, Nat.reduceAdd, Nat.reduceSub, Nat.reduceLT, Int.reduceNeg, Nat.reduceLeDiff, not_true_eq_false, not_false_eq_true, reduceIte, decide_true, decide_false, beq_self_eq_true, ne_eq, atI_0, atI_1, atI_2, atI_3, ↓wd_p9, ↓wd_p12, ↓wd_p15, ↓wd_p18, ↓wd_p20, ↓wd_p30, ixN_30, ixN_31, ixN_32, k0, dk, hs]; subst hQ'; try rw [psq_nx])); (try simp only [↓Ws_nil, psq_rt, psq_ex, outW_none, outW_some, wcell, List.getElem?_cons_zero, List.getElem?_cons_succ, Option.join_some, Ow_some, true_and, and_true, and_self]))
  · have hp : ∃ p : Int, L2.atI [D.int 2147483629, .int 2147483587, .int 2147483579, .int 2147483563] ((n + 1) % 4) = some (.int p) ∧ 2147483563 ≤ p ∧ p ≤ 2147483629 := by
      have : (n + 1) % 4 = 0 ∨ (n + 1) % 4 = 1 ∨ (n + 1) % 4 = 2 ∨ (n + 1) % 4 = 3 := by omega
      rcases this with z | z | z | z <;> rw [z]
      · exact ⟨_, atI_0 _ _, by decide, by decide⟩
      · exact ⟨_, atI_1 _ _ _, by decide, by decide⟩
      · exact ⟨_, atI_2 _ _ _ _, by decide, by decide⟩
      · exact ⟨_, atI_3 _ _ _ _ _, by decide, by decide⟩
    obtain ⟨p, hp, p0, p1⟩ := hp
    have pp0 : 0 < p := by omega
    have m1 : mulOk 6007 (n + 1) = true := mulOk_small (by omega) (by omega) (by omega) (by omega)
    have w1 : 0 ≤ (3 : Int) ∧ (3 : Int) ≤ 1000000 ∧ (c + 6007 * (n + 1) + 29).natAbs < 2 ^ 64 := ⟨by omega, by omega, by omega⟩
    generalize hA : (c + 6007 * (n + 1) + 29) ^ Int.toNat 3 % p = A
    have a0 : 0 ≤ A := hA ▸ Int.emod_nonneg _ (by omega)
    have a1 : A < p := hA ▸ Int.emod_lt_of_pos _ pp0
    have d1 : divOk 1021 = true := divOk_si (by omega) (by omega)
    have m2 : mulOk (A + (n + 1)) (A / 1021 + 50021) = true := mulOk_small (by omega) (by omega) (by omega) (by omega)
    generalize hB : (A + (n + 1)) * (A / 1021 + 50021) % p = B
    have b0 : 0 ≤ B := hB ▸ Int.emod_nonneg _ (by omega)
    have b1 : B < p := hB ▸ Int.emod_lt_of_pos _ pp0
    have d2 : divOk 887 = true := divOk_si (by omega) (by omega)
    have m3 : mulOk 31 (n + 1) = true := mulOk_small (by omega) (by omega) (by omega) (by omega)
    have m4 : mulOk B (B / 887 + 31 * (n + 1) + 3) = true := mulOk_small (by omega) (by omega) (by omega) (by omega)
    generalize hE : B * (B / 887 + 31 * (n + 1) + 3) % p = E1
    have d3 : divOk 13 = true := divOk_si (by omega) (by omega)
    have four : (0 : Int) < 4 := by decide
    refine ⟨E1 / 13 % k, s, n + 1, Wk_run (Wf_mk rfl ?_), Int.emod_nonneg _ (by omega), Int.emod_lt_of_pos _ k0, by omega, by omega⟩
    unfold c2__law_take src
    ((try rw [psq_nx]); (repeat (refine Ws_step fun Q' hQ' => ?_; simp (maxSteps := 1000000) only [cf, co, cb, ↓We_var, ↓We_non, ↓We_bl, ↓We_int, ↓We_str, ↓We_gl, ↓We_bin, ↓We_neg, ↓We_nt, ↓We_and, ↓We_or, ↓We_ite, ↓We_cmp, ↓We_chain, ↓We_tup, ↓We_lst, ↓We_ix, ↓We_sl, ↓We_nopart, ↓We_rvs, ↓We_call, ↓We_callK, ↓We_bi, ↓We_mth, ↓We_isi, ↓We_lc, ↓We_yes, ↓We_val, ↓We_tru, ↓Wes_nil, ↓Wes_cons, ↓Wei_seq, ↓Wei_range1, ↓Wei_range2, ↓Wei_enum, ↓Wei_zip, ↓Ws_pass, ↓Ws_brk, ↓Ws_cont, ↓Ws_nil, ↓Ws_cons, ↓Ws_asg, ↓Ws_par, ↓Ws_unp, ↓Ws_drop, ↓Ws_aug, ↓Ws_setI, ↓Ws_app, ↓Ws_ext, ↓Ws_ret, ↓Ws_retN, ↓Ws_if, ↓Ws_for, ↓Ws_never, ↓Ws_fga, psq_rt, psq_bk, psq_ct, psq_ex, pfg_nx, pfg_ct, pfg_rt, pfg_bk, pfg_ex, Rw_ok, Rw_ex, ↓Rw_bind, ↓Rw_opt, Ow_some, Ow_none, ↓Ow_bind, ↓Ow_map, ↓Ow_ite, Cw_true, Cw_false, Cw_not, callW_G, callG_none, callG_io, callKW_none', okIo_own, okIo_bor, outW_none, outW_some, ↓we_nil, ↓we_cons, ↓we_dt, ↓we_fr, ↓we_slot, ↓wk_nil, ↓wk_cons, ↓wk_dt, ↓wk_fr, ↓wk_slot, ↓wg_dt, ↓wg_fr, ↓wg_slot, ↓wr_nil, ↓wr_cons, wo_own, wc_F, wc_T, ↓wp_nil, ↓wp_cons, wput, wcell, wcl0, wclf, wclo, wmf, wmo, wmb, wwr, wwo, wwb, wfree, wfree0, wfreef, wd_add, wd_adds, wd_addl, wd_addt, wd_sub, wd_mul, wd_repl, wd_rept, wd_div, wd_mod, wd_pow, wd_eq, wd_ne, wd_lt, wd_le, wd_gt, wd_ge, wd_inl, wd_int, wd_nil, wd_nit, wd_is, wd_isn, wd_tn, wd_tb, wd_ti, wd_tl, wd_tt, wd_ixl, wd_ixt, wd_sll, wd_slt, wd_i, wd_b, wd_lenl, wd_lent, wd_sum, wd_min2, wd_max2, wd_all, wd_any, wd_abs, wd_repr, wd_inti, wd_intb, wd_list1, wd_list2, wd_tup1, wd_tup2, wd_asn, wd_ast, wd_as0, wd_as1, wd_itl, wd_itt, wd_dt, wd_fr, wd_slot, wd_bvT, wd_bvF, wd_rv, wd_pn, wd_pvar, wd_pint, wd_pbin, wd_pneg, wd_pbi, wd_pcall, wd_pix, wd_ls, wd_aa, wd_as, wd_frl, wd_fzi, isTyD, isT, D.dt, isNon, permL, initE, wipeE, restE, List.getElem?_cons_zero, List.getElem?_cons_succ, List.getElem?_nil, List.set_cons_zero, List.set_cons_succ, List.length_cons, List.length_nil, List.cons_append, List.nil_append, List.append_nil, List.replicate, List.all_cons, List.all_nil, List.any_cons, List.any_nil, List.filterMap_cons, List.filterMap_nil, Option.join_some, Option.join_none, Option.bind_some, Option.map_some, Option.map_none, Bool.and_true, Bool.and_self, Bool.or_false, Bool.false_or, Bool.true_or, Bool.or_true, Bool.not_true, Bool.not_false, true_and, and_true, and_self, or_true, true_or, or_false, false_or, if_true, if_false, Bool.false_eq_true, Bool.true_eq_false, reduceCtorEq, Nat.reduceAdd, Nat.reduceSub, Nat.reduceLT, Int.reduceNeg, Nat.reduceLeDiff, not_true_eq_false, not_false_eq_true, reduceIte, decide_true, decide_false, beq_self_eq_true, ne_eq, atI_0, atI_1, atI_2, atI_3, ↓wd_p9, ↓wd_p12, ↓wd_p15, ↓wd_p18, ↓wd_p20, ↓wd_p30, ixN_30, ixN_31, ixN_32, k0, dk, hs, h4, four, hp, pp0, m1, m2, m3, m4, w1, hA, hB, hE, d1, d2, d3]; subst hQ'; try rw [psq_nx])); (try simp only [↓Ws_nil, psq_rt, psq_ex, outW_none, outW_some, wcell, List.getElem?_cons_zero, List.getElem?_cons_succ, Option.join_some, Ow_some, true_and, and_true, and_self]))
theorem Take5Ok.w {F : Fn} (h : Take5Ok F) {s c n k : Int} {X : Exn → D → Prop} {K : Bool → D → D → Prop} (c0 : 0 ≤ c) (c1 : c < 2147483647) (h0 : 0 ≤ n) (h1 : n < 100000000) (h2 : 0 < k) (h3 : k < 2 ^ 100)
    (q : ∀ v s' n' : Int, 0 ≤ v → v < k → n ≤ n' → n' ≤ n + 1 → K false (.int v) (src s' c n')) : @Wf F [src s c n, .int k] X K := by
  obtain ⟨v, s', n', e, p1, p2, p3, p4⟩ := h.2.2 s c n k c0 c1 h0 h1 h2 h3
  exact Wf_run e (q v s' n' p1 p2 p3 p4)
def StagesOk (F : Fn) : Prop := F.ar = 1 ∧ F.io = some 0 ∧ ∀ (s c n : Int) (X : Exn → D → Prop) (K : Bool → D → D → Prop), 0 ≤ c → c < 2147483647 → 0 ≤ n → n < 90000000 →
  (∀ (es : List Nat) (s' n' : Int), (∀ e ∈ es, 2 ≤ e ∧ e < 2 ^ 30) → es.length ≤ 200 → n ≤ n' → n' ≤ n + 300 → K true (.lst (nD es)) (src s' c n')) → @Wf F [src s c n] X K
theorem ok_stages {Γ : Nat → Option Fn} {i : Nat} {F : Fn} (g : Γ i = some F) (h : Take5Ok F) : StagesOk (mkFn Γ 1 4 (some 0) (c__law_stages i)) := by
  obtain ⟨a1, b1, _⟩ := id h
  refine ⟨rfl, rfl, fun s c n X K c0 c1 hn0 hn1 q => Wf_mk rfl ?_⟩
  unfold c__law_stages
  have h3 : 3 ≤ sizeLine := by decide
  have h4 : 4 ≤ sizeLine := by decide
  ((try rw [psq_nx]); (repeat (refine Ws_step fun Q' hQ' => ?_; simp (maxSteps := 1000000) only [cf, co, cb, ↓We_var, ↓We_non, ↓We_bl, ↓We_int, ↓We_str, ↓We_gl, ↓We_bin, ↓We_neg, ↓We_nt, ↓We_and, ↓We_or, ↓We_ite, ↓We_cmp, ↓We_chain, ↓We_tup, ↓We_lst, ↓We_ix, ↓We_sl, ↓We_nopart, ↓We_rvs, ↓We_call, ↓We_callK, ↓We_bi, ↓We_mth, ↓We_isi, ↓We_lc, ↓We_yes, ↓We_val, ↓We_tru, ↓Wes_nil, ↓Wes_cons, ↓Wei_seq, ↓Wei_range1, ↓Wei_range2, ↓Wei_enum, ↓Wei_zip, ↓Ws_pass, ↓Ws_brk, ↓Ws_cont, ↓Ws_nil, ↓Ws_cons, ↓Ws_asg, ↓Ws_par, ↓Ws_unp, ↓Ws_drop, ↓Ws_aug, ↓Ws_setI, ↓Ws_app, ↓Ws_ext, ↓Ws_ret, ↓Ws_retN, ↓Ws_if, ↓Ws_for, ↓Ws_never, ↓Ws_fga, psq_rt, psq_bk, psq_ct, psq_ex, pfg_nx, pfg_ct, pfg_rt, pfg_bk, pfg_ex, Rw_ok, Rw_ex, ↓Rw_bind, ↓Rw_opt, Ow_some, Ow_none, ↓Ow_bind, ↓Ow_map, ↓Ow_ite, Cw_true, Cw_false, Cw_not, callW_G, callG_none, callG_io, callKW_none', okIo_own, okIo_bor, outW_none, outW_some, ↓we_nil, ↓we_cons, ↓we_dt, ↓we_fr, ↓we_slot, ↓wk_nil, ↓wk_cons, ↓wk_dt, ↓wk_fr, ↓wk_slot, ↓wg_dt, ↓wg_fr, ↓wg_slot, ↓wr_nil, ↓wr_cons, wo_own, wc_F, wc_T, ↓wp_nil, ↓wp_cons, wput, wcell, wcl0, wclf, wclo, wmf, wmo, wmb, wwr, wwo, wwb, wfree, wfree0, wfreef, wd_add, wd_adds, wd_addl, wd_addt, wd_sub, wd_mul, wd_repl, wd_rept, wd_div, wd_mod, wd_pow, wd_eq, wd_ne, wd_lt, wd_le, wd_gt, wd_ge, wd_inl, wd_int, wd_nil, wd_nit, wd_is, wd_isn, wd_tn, wd_tb, wd_ti, wd_tl, wd_tt, wd_ixl, wd_ixt, wd_sll, wd_slt, wd_i, wd_b, wd_lenl, wd_lent, wd_sum, wd_min2, wd_max2, wd_all, wd_any, wd_abs, wd_repr, wd_inti, wd_intb, wd_list1, wd_list2, wd_tup1, wd_tup2, wd_asn, wd_ast, wd_as0, wd_as1, wd_itl, wd_itt, wd_dt, wd_fr, wd_slot, wd_bvT, wd_bvF, wd_rv, wd_pn, wd_pvar, wd_pint, wd_pbin, wd_pneg, wd_pbi, wd_pcall, wd_pix, wd_ls, wd_aa, wd_as, wd_frl, wd_fzi, isTyD, isT, D.dt, isNon, permL, initE, wipeE, restE, List.getElem?_cons_zero, List.getElem?_cons_succ, List.getElem?_nil, List.set_cons_zero, List.set_cons_succ, List.length_cons, List.length_nil, List.cons_append, List.nil_append, List.append_nil, List.replicate, List.all_cons, List.all_nil, List.any_cons, List.any_nil, List.filterMap_cons, List.filterMap_nil, Option.join_some, Option.join_none, Option.bind_some, Option.map_some, Option.map_none, Bool.and_true, Bool.and_self, Bool.or_false, Bool.false_or, Bool.true_or, Bool.or_true, Bool.not_true, Bool.not_false, true_and, and_true, and_self, or_true, true_or, or_false, false_or, if_true, if_false, Bool.false_eq_true, Bool.true_eq_false, reduceCtorEq, Nat.reduceAdd, Nat.reduceSub, Nat.reduceLT, Int.reduceNeg, Nat.reduceLeDiff, not_true_eq_false, not_false_eq_true, reduceIte, decide_true, decide_false, beq_self_eq_true, ne_eq, atI_0, atI_1, atI_2, atI_3, ↓wd_p9, ↓wd_p12, ↓wd_p15, ↓wd_p18, ↓wd_p20, ↓wd_p30, ixN_30, ixN_31, ixN_32, g, a1, b1]; subst hQ'; try rw [psq_nx])); (try simp only [↓Ws_nil, psq_rt, psq_ex, outW_none, outW_some, wcell, List.getElem?_cons_zero, List.getElem?_cons_succ, Option.join_some, Ow_some, true_and, and_true, and_self]))
  refine h.w c0 c1 (by omega) (by omega) (by omega) (by omega) fun v1 s1 n1 v10 v11 p1 p2 => ?_
  simp (maxSteps := 1000000) only [cf, co, cb, ↓We_var, ↓We_non, ↓We_bl, ↓We_int, ↓We_str, ↓We_gl, ↓We_bin, ↓We_neg, ↓We_nt, ↓We_and, ↓We_or, ↓We_ite, ↓We_cmp, ↓We_chain, ↓We_tup, ↓We_lst, ↓We_ix, ↓We_sl, ↓We_nopart, ↓We_rvs, ↓We_call, ↓We_callK, ↓We_bi, ↓We_mth, ↓We_isi, ↓We_lc, ↓We_yes, ↓We_val, ↓We_tru, ↓Wes_nil, ↓Wes_cons, ↓Wei_seq, ↓Wei_range1, ↓Wei_range2, ↓Wei_enum, ↓Wei_zip, ↓Ws_pass, ↓Ws_brk, ↓Ws_cont, ↓Ws_nil, ↓Ws_cons, ↓Ws_asg, ↓Ws_par, ↓Ws_unp, ↓Ws_drop, ↓Ws_aug, ↓Ws_setI, ↓Ws_app, ↓Ws_ext, ↓Ws_ret, ↓Ws_retN, ↓Ws_if, ↓Ws_for, ↓Ws_never, ↓Ws_fga, psq_rt, psq_bk, psq_ct, psq_ex, pfg_nx, pfg_ct, pfg_rt, pfg_bk, pfg_ex, Rw_ok, Rw_ex, ↓Rw_bind, ↓Rw_opt, Ow_some, Ow_none, ↓Ow_bind, ↓Ow_map, ↓Ow_ite, Cw_true, Cw_false, Cw_not, callW_G, callG_none, callG_io, callKW_none', okIo_own, okIo_bor, outW_none, outW_some, ↓we_nil, ↓we_cons, ↓we_dt, ↓we_fr, ↓we_slot, ↓wk_nil, ↓wk_cons, ↓wk_dt, ↓wk_fr, ↓wk_slot, ↓wg_dt, ↓wg_fr, ↓wg_slot, ↓wr_nil, ↓wr_cons, wo_own, wc_F, wc_T, ↓wp_nil, ↓wp_cons, wput, wcell, wcl0, wclf, wclo, wmf, wmo, wmb, wwr, wwo, wwb, wfree, wfree0, wfreef, wd_add, wd_adds, wd_addl, wd_addt, wd_sub, wd_mul, wd_repl, wd_rept, wd_div, wd_mod, wd_pow, wd_eq, wd_ne, wd_lt, wd_le, wd_gt, wd_ge, wd_inl, wd_int, wd_nil, wd_nit, wd_is, wd_isn, wd_tn, wd_tb, wd_ti, wd_tl, wd_tt, wd_ixl, wd_ixt, wd_sll, wd_slt, wd_i, wd_b, wd_lenl, wd_lent, wd_sum, wd_min2, wd_max2, wd_all, wd_any, wd_abs, wd_repr, wd_inti, wd_intb, wd_list1, wd_list2, wd_tup1, wd_tup2, wd_asn, wd_ast, wd_as0, wd_as1, wd_itl, wd_itt, wd_dt, wd_fr, wd_slot, wd_bvT, wd_bvF, wd_rv, wd_pn, wd_pvar, wd_pint, wd_pbin, wd_pneg, wd_pbi, wd_pcall, wd_pix, wd_ls, wd_aa, wd_as, wd_frl, wd_fzi, isTyD, isT, D.dt, isNon, permL, initE, wipeE, restE, List.getElem?_cons_zero, List.getElem?_cons_succ, List.getElem?_nil, List.set_cons_zero, List.set_cons_succ, List.length_cons, List.length_nil, List.cons_append, List.nil_append, List.append_nil, List.replicate, List.all_cons, List.all_nil, List.any_cons, List.any_nil, List.filterMap_cons, List.filterMap_nil, Option.join_some, Option.join_none, Option.bind_some, Option.map_some, Option.map_none, Bool.and_true, Bool.and_self, Bool.or_false, Bool.false_or, Bool.true_or, Bool.or_true, Bool.not_true, Bool.not_false, true_and, and_true, and_self, or_true, true_or, or_false, false_or, if_true, if_false, Bool.false_eq_true, Bool.true_eq_false, reduceCtorEq, Nat.reduceAdd, Nat.reduceSub, Nat.reduceLT, Int.reduceNeg, Nat.reduceLeDiff, not_true_eq_false, not_false_eq_true, reduceIte, decide_true, decide_false, beq_self_eq_true, ne_eq, atI_0, atI_1, atI_2, atI_3, ↓wd_p9, ↓wd_p12, ↓wd_p15, ↓wd_p18, ↓wd_p20, ↓wd_p30, ixN_30, ixN_31, ixN_32, psq_nx, g, a1, b1]
  refine h.w c0 c1 (by omega) (by omega) (by omega) (by omega) fun v2 s2 n2 v20 v21 p3 p4 => ?_
  simp (maxSteps := 1000000) only [cf, co, cb, ↓We_var, ↓We_non, ↓We_bl, ↓We_int, ↓We_str, ↓We_gl, ↓We_bin, ↓We_neg, ↓We_nt, ↓We_and, ↓We_or, ↓We_ite, ↓We_cmp, ↓We_chain, ↓We_tup, ↓We_lst, ↓We_ix, ↓We_sl, ↓We_nopart, ↓We_rvs, ↓We_call, ↓We_callK, ↓We_bi, ↓We_mth, ↓We_isi, ↓We_lc, ↓We_yes, ↓We_val, ↓We_tru, ↓Wes_nil, ↓Wes_cons, ↓Wei_seq, ↓Wei_range1, ↓Wei_range2, ↓Wei_enum, ↓Wei_zip, ↓Ws_pass, ↓Ws_brk, ↓Ws_cont, ↓Ws_nil, ↓Ws_cons, ↓Ws_asg, ↓Ws_par, ↓Ws_unp, ↓Ws_drop, ↓Ws_aug, ↓Ws_setI, ↓Ws_app, ↓Ws_ext, ↓Ws_ret, ↓Ws_retN, ↓Ws_if, ↓Ws_for, ↓Ws_never, ↓Ws_fga, psq_rt, psq_bk, psq_ct, psq_ex, pfg_nx, pfg_ct, pfg_rt, pfg_bk, pfg_ex, Rw_ok, Rw_ex, ↓Rw_bind, ↓Rw_opt, Ow_some, Ow_none, ↓Ow_bind, ↓Ow_map, ↓Ow_ite, Cw_true, Cw_false, Cw_not, callW_G, callG_none, callG_io, callKW_none', okIo_own, okIo_bor, outW_none, outW_some, ↓we_nil, ↓we_cons, ↓we_dt, ↓we_fr, ↓we_slot, ↓wk_nil, ↓wk_cons, ↓wk_dt, ↓wk_fr, ↓wk_slot, ↓wg_dt, ↓wg_fr, ↓wg_slot, ↓wr_nil, ↓wr_cons, wo_own, wc_F, wc_T, ↓wp_nil, ↓wp_cons, wput, wcell, wcl0, wclf, wclo, wmf, wmo, wmb, wwr, wwo, wwb, wfree, wfree0, wfreef, wd_add, wd_adds, wd_addl, wd_addt, wd_sub, wd_mul, wd_repl, wd_rept, wd_div, wd_mod, wd_pow, wd_eq, wd_ne, wd_lt, wd_le, wd_gt, wd_ge, wd_inl, wd_int, wd_nil, wd_nit, wd_is, wd_isn, wd_tn, wd_tb, wd_ti, wd_tl, wd_tt, wd_ixl, wd_ixt, wd_sll, wd_slt, wd_i, wd_b, wd_lenl, wd_lent, wd_sum, wd_min2, wd_max2, wd_all, wd_any, wd_abs, wd_repr, wd_inti, wd_intb, wd_list1, wd_list2, wd_tup1, wd_tup2, wd_asn, wd_ast, wd_as0, wd_as1, wd_itl, wd_itt, wd_dt, wd_fr, wd_slot, wd_bvT, wd_bvF, wd_rv, wd_pn, wd_pvar, wd_pint, wd_pbin, wd_pneg, wd_pbi, wd_pcall, wd_pix, wd_ls, wd_aa, wd_as, wd_frl, wd_fzi, isTyD, isT, D.dt, isNon, permL, initE, wipeE, restE, List.getElem?_cons_zero, List.getElem?_cons_succ, List.getElem?_nil, List.set_cons_zero, List.set_cons_succ, List.length_cons, List.length_nil, List.cons_append, List.nil_append, List.append_nil, List.replicate, List.all_cons, List.all_nil, List.any_cons, List.any_nil, List.filterMap_cons, List.filterMap_nil, Option.join_some, Option.join_none, Option.bind_some, Option.map_some, Option.map_none, Bool.and_true, Bool.and_self, Bool.or_false, Bool.false_or, Bool.true_or, Bool.or_true, Bool.not_true, Bool.not_false, true_and, and_true, and_self, or_true, true_or, or_false, false_or, if_true, if_false, Bool.false_eq_true, Bool.true_eq_false, reduceCtorEq, Nat.reduceAdd, Nat.reduceSub, Nat.reduceLT, Int.reduceNeg, Nat.reduceLeDiff, not_true_eq_false, not_false_eq_true, reduceIte, decide_true, decide_false, beq_self_eq_true, ne_eq, atI_0, atI_1, atI_2, atI_3, ↓wd_p9, ↓wd_p12, ↓wd_p15, ↓wd_p18, ↓wd_p20, ↓wd_p30, ixN_30, ixN_31, ixN_32, psq_nx, g, a1, b1]
  refine h.w c0 c1 (by omega) (by omega) (by omega) (by omega) fun v3 s3 n3 v30 v31 p5 p6 => ?_
  simp (maxSteps := 1000000) only [cf, co, cb, ↓We_var, ↓We_non, ↓We_bl, ↓We_int, ↓We_str, ↓We_gl, ↓We_bin, ↓We_neg, ↓We_nt, ↓We_and, ↓We_or, ↓We_ite, ↓We_cmp, ↓We_chain, ↓We_tup, ↓We_lst, ↓We_ix, ↓We_sl, ↓We_nopart, ↓We_rvs, ↓We_call, ↓We_callK, ↓We_bi, ↓We_mth, ↓We_isi, ↓We_lc, ↓We_yes, ↓We_val, ↓We_tru, ↓Wes_nil, ↓Wes_cons, ↓Wei_seq, ↓Wei_range1, ↓Wei_range2, ↓Wei_enum, ↓Wei_zip, ↓Ws_pass, ↓Ws_brk, ↓Ws_cont, ↓Ws_nil, ↓Ws_cons, ↓Ws_asg, ↓Ws_par, ↓Ws_unp, ↓Ws_drop, ↓Ws_aug, ↓Ws_setI, ↓Ws_app, ↓Ws_ext, ↓Ws_ret, ↓Ws_retN, ↓Ws_if, ↓Ws_for, ↓Ws_never, ↓Ws_fga, psq_rt, psq_bk, psq_ct, psq_ex, pfg_nx, pfg_ct, pfg_rt, pfg_bk, pfg_ex, Rw_ok, Rw_ex, ↓Rw_bind, ↓Rw_opt, Ow_some, Ow_none, ↓Ow_bind, ↓Ow_map, ↓Ow_ite, Cw_true, Cw_false, Cw_not, callW_G, callG_none, callG_io, callKW_none', okIo_own, okIo_bor, outW_none, outW_some, ↓we_nil, ↓we_cons, ↓we_dt, ↓we_fr, ↓we_slot, ↓wk_nil, ↓wk_cons, ↓wk_dt, ↓wk_fr, ↓wk_slot, ↓wg_dt, ↓wg_fr, ↓wg_slot, ↓wr_nil, ↓wr_cons, wo_own, wc_F, wc_T, ↓wp_nil, ↓wp_cons, wput, wcell, wcl0, wclf, wclo, wmf, wmo, wmb, wwr, wwo, wwb, wfree, wfree0, wfreef, wd_add, wd_adds, wd_addl, wd_addt, wd_sub, wd_mul, wd_repl, wd_rept, wd_div, wd_mod, wd_pow, wd_eq, wd_ne, wd_lt, wd_le, wd_gt, wd_ge, wd_inl, wd_int, wd_nil, wd_nit, wd_is, wd_isn, wd_tn, wd_tb, wd_ti, wd_tl, wd_tt, wd_ixl, wd_ixt, wd_sll, wd_slt, wd_i, wd_b, wd_lenl, wd_lent, wd_sum, wd_min2, wd_max2, wd_all, wd_any, wd_abs, wd_repr, wd_inti, wd_intb, wd_list1, wd_list2, wd_tup1, wd_tup2, wd_asn, wd_ast, wd_as0, wd_as1, wd_itl, wd_itt, wd_dt, wd_fr, wd_slot, wd_bvT, wd_bvF, wd_rv, wd_pn, wd_pvar, wd_pint, wd_pbin, wd_pneg, wd_pbi, wd_pcall, wd_pix, wd_ls, wd_aa, wd_as, wd_frl, wd_fzi, isTyD, isT, D.dt, isNon, permL, initE, wipeE, restE, List.getElem?_cons_zero, List.getElem?_cons_succ, List.getElem?_nil, List.set_cons_zero, List.set_cons_succ, List.length_cons, List.length_nil, List.cons_append, List.nil_append, List.append_nil, List.replicate, List.all_cons, List.all_nil, List.any_cons, List.any_nil, List.filterMap_cons, List.filterMap_nil, Option.join_some, Option.join_none, Option.bind_some, Option.map_some, Option.map_none, Bool.and_true, Bool.and_self, Bool.or_false, Bool.false_or, Bool.true_or, Bool.or_true, Bool.not_true, Bool.not_false, true_and, and_true, and_self, or_true, true_or, or_false, false_or, if_true, if_false, Bool.false_eq_true, Bool.true_eq_false, reduceCtorEq, Nat.reduceAdd, Nat.reduceSub, Nat.reduceLT, Int.reduceNeg, Nat.reduceLeDiff, not_true_eq_false, not_false_eq_true, reduceIte, decide_true, decide_false, beq_self_eq_true, ne_eq, atI_0, atI_1, atI_2, atI_3, ↓wd_p9, ↓wd_p12, ↓wd_p15, ↓wd_p18, ↓wd_p20, ↓wd_p30, ixN_30, ixN_31, ixN_32, psq_nx, g, a1, b1, h3]
  refine h.w c0 c1 (by omega) (by omega) (by omega) (by omega) fun v4 s4 n4 v40 v41 p7 p8 => ?_
  obtain ⟨L, hL, hL'⟩ := atI3 v1 v2 v3 v4 v40 v41
  simp (maxSteps := 1000000) only [cf, co, cb, ↓We_var, ↓We_non, ↓We_bl, ↓We_int, ↓We_str, ↓We_gl, ↓We_bin, ↓We_neg, ↓We_nt, ↓We_and, ↓We_or, ↓We_ite, ↓We_cmp, ↓We_chain, ↓We_tup, ↓We_lst, ↓We_ix, ↓We_sl, ↓We_nopart, ↓We_rvs, ↓We_call, ↓We_callK, ↓We_bi, ↓We_mth, ↓We_isi, ↓We_lc, ↓We_yes, ↓We_val, ↓We_tru, ↓Wes_nil, ↓Wes_cons, ↓Wei_seq, ↓Wei_range1, ↓Wei_range2, ↓Wei_enum, ↓Wei_zip, ↓Ws_pass, ↓Ws_brk, ↓Ws_cont, ↓Ws_nil, ↓Ws_cons, ↓Ws_asg, ↓Ws_par, ↓Ws_unp, ↓Ws_drop, ↓Ws_aug, ↓Ws_setI, ↓Ws_app, ↓Ws_ext, ↓Ws_ret, ↓Ws_retN, ↓Ws_if, ↓Ws_for, ↓Ws_never, ↓Ws_fga, psq_rt, psq_bk, psq_ct, psq_ex, pfg_nx, pfg_ct, pfg_rt, pfg_bk, pfg_ex, Rw_ok, Rw_ex, ↓Rw_bind, ↓Rw_opt, Ow_some, Ow_none, ↓Ow_bind, ↓Ow_map, ↓Ow_ite, Cw_true, Cw_false, Cw_not, callW_G, callG_none, callG_io, callKW_none', okIo_own, okIo_bor, outW_none, outW_some, ↓we_nil, ↓we_cons, ↓we_dt, ↓we_fr, ↓we_slot, ↓wk_nil, ↓wk_cons, ↓wk_dt, ↓wk_fr, ↓wk_slot, ↓wg_dt, ↓wg_fr, ↓wg_slot, ↓wr_nil, ↓wr_cons, wo_own, wc_F, wc_T, ↓wp_nil, ↓wp_cons, wput, wcell, wcl0, wclf, wclo, wmf, wmo, wmb, wwr, wwo, wwb, wfree, wfree0, wfreef, wd_add, wd_adds, wd_addl, wd_addt, wd_sub, wd_mul, wd_repl, wd_rept, wd_div, wd_mod, wd_pow, wd_eq, wd_ne, wd_lt, wd_le, wd_gt, wd_ge, wd_inl, wd_int, wd_nil, wd_nit, wd_is, wd_isn, wd_tn, wd_tb, wd_ti, wd_tl, wd_tt, wd_ixl, wd_ixt, wd_sll, wd_slt, wd_i, wd_b, wd_lenl, wd_lent, wd_sum, wd_min2, wd_max2, wd_all, wd_any, wd_abs, wd_repr, wd_inti, wd_intb, wd_list1, wd_list2, wd_tup1, wd_tup2, wd_asn, wd_ast, wd_as0, wd_as1, wd_itl, wd_itt, wd_dt, wd_fr, wd_slot, wd_bvT, wd_bvF, wd_rv, wd_pn, wd_pvar, wd_pint, wd_pbin, wd_pneg, wd_pbi, wd_pcall, wd_pix, wd_ls, wd_aa, wd_as, wd_frl, wd_fzi, isTyD, isT, D.dt, isNon, permL, initE, wipeE, restE, List.getElem?_cons_zero, List.getElem?_cons_succ, List.getElem?_nil, List.set_cons_zero, List.set_cons_succ, List.length_cons, List.length_nil, List.cons_append, List.nil_append, List.append_nil, List.replicate, List.all_cons, List.all_nil, List.any_cons, List.any_nil, List.filterMap_cons, List.filterMap_nil, Option.join_some, Option.join_none, Option.bind_some, Option.map_some, Option.map_none, Bool.and_true, Bool.and_self, Bool.or_false, Bool.false_or, Bool.true_or, Bool.or_true, Bool.not_true, Bool.not_false, true_and, and_true, and_self, or_true, true_or, or_false, false_or, if_true, if_false, Bool.false_eq_true, Bool.true_eq_false, reduceCtorEq, Nat.reduceAdd, Nat.reduceSub, Nat.reduceLT, Int.reduceNeg, Nat.reduceLeDiff, not_true_eq_false, not_false_eq_true, reduceIte, decide_true, decide_false, beq_self_eq_true, ne_eq, atI_0, atI_1, atI_2, atI_3, ↓wd_p9, ↓wd_p12, ↓wd_p15, ↓wd_p18, ↓wd_p20, ↓wd_p30, ixN_30, ixN_31, ixN_32, psq_nx, g, a1, b1, hL, h4]
  refine h.w c0 c1 (by omega) (by omega) (by omega) (by omega) fun v5 s5 n5 v50 v51 p9 p10 => ?_
  obtain ⟨M, hM, hM'⟩ := atI4 2 4 9 1000000000 v5 v50 v51
  simp (maxSteps := 1000000) only [cf, co, cb, ↓We_var, ↓We_non, ↓We_bl, ↓We_int, ↓We_str, ↓We_gl, ↓We_bin, ↓We_neg, ↓We_nt, ↓We_and, ↓We_or, ↓We_ite, ↓We_cmp, ↓We_chain, ↓We_tup, ↓We_lst, ↓We_ix, ↓We_sl, ↓We_nopart, ↓We_rvs, ↓We_call, ↓We_callK, ↓We_bi, ↓We_mth, ↓We_isi, ↓We_lc, ↓We_yes, ↓We_val, ↓We_tru, ↓Wes_nil, ↓Wes_cons, ↓Wei_seq, ↓Wei_range1, ↓Wei_range2, ↓Wei_enum, ↓Wei_zip, ↓Ws_pass, ↓Ws_brk, ↓Ws_cont, ↓Ws_nil, ↓Ws_cons, ↓Ws_asg, ↓Ws_par, ↓Ws_unp, ↓Ws_drop, ↓Ws_aug, ↓Ws_setI, ↓Ws_app, ↓Ws_ext, ↓Ws_ret, ↓Ws_retN, ↓Ws_if, ↓Ws_for, ↓Ws_never, ↓Ws_fga, psq_rt, psq_bk, psq_ct, psq_ex, pfg_nx, pfg_ct, pfg_rt, pfg_bk, pfg_ex, Rw_ok, Rw_ex, ↓Rw_bind, ↓Rw_opt, Ow_some, Ow_none, ↓Ow_bind, ↓Ow_map, ↓Ow_ite, Cw_true, Cw_false, Cw_not, callW_G, callG_none, callG_io, callKW_none', okIo_own, okIo_bor, outW_none, outW_some, ↓we_nil, ↓we_cons, ↓we_dt, ↓we_fr, ↓we_slot, ↓wk_nil, ↓wk_cons, ↓wk_dt, ↓wk_fr, ↓wk_slot, ↓wg_dt, ↓wg_fr, ↓wg_slot, ↓wr_nil, ↓wr_cons, wo_own, wc_F, wc_T, ↓wp_nil, ↓wp_cons, wput, wcell, wcl0, wclf, wclo, wmf, wmo, wmb, wwr, wwo, wwb, wfree, wfree0, wfreef, wd_add, wd_adds, wd_addl, wd_addt, wd_sub, wd_mul, wd_repl, wd_rept, wd_div, wd_mod, wd_pow, wd_eq, wd_ne, wd_lt, wd_le, wd_gt, wd_ge, wd_inl, wd_int, wd_nil, wd_nit, wd_is, wd_isn, wd_tn, wd_tb, wd_ti, wd_tl, wd_tt, wd_ixl, wd_ixt, wd_sll, wd_slt, wd_i, wd_b, wd_lenl, wd_lent, wd_sum, wd_min2, wd_max2, wd_all, wd_any, wd_abs, wd_repr, wd_inti, wd_intb, wd_list1, wd_list2, wd_tup1, wd_tup2, wd_asn, wd_ast, wd_as0, wd_as1, wd_itl, wd_itt, wd_dt, wd_fr, wd_slot, wd_bvT, wd_bvF, wd_rv, wd_pn, wd_pvar, wd_pint, wd_pbin, wd_pneg, wd_pbi, wd_pcall, wd_pix, wd_ls, wd_aa, wd_as, wd_frl, wd_fzi, isTyD, isT, D.dt, isNon, permL, initE, wipeE, restE, List.getElem?_cons_zero, List.getElem?_cons_succ, List.getElem?_nil, List.set_cons_zero, List.set_cons_succ, List.length_cons, List.length_nil, List.cons_append, List.nil_append, List.append_nil, List.replicate, List.all_cons, List.all_nil, List.any_cons, List.any_nil, List.filterMap_cons, List.filterMap_nil, Option.join_some, Option.join_none, Option.bind_some, Option.map_some, Option.map_none, Bool.and_true, Bool.and_self, Bool.or_false, Bool.false_or, Bool.true_or, Bool.or_true, Bool.not_true, Bool.not_false, true_and, and_true, and_self, or_true, true_or, or_false, false_or, if_true, if_false, Bool.false_eq_true, Bool.true_eq_false, reduceCtorEq, Nat.reduceAdd, Nat.reduceSub, Nat.reduceLT, Int.reduceNeg, Nat.reduceLeDiff, not_true_eq_false, not_false_eq_true, reduceIte, decide_true, decide_false, beq_self_eq_true, ne_eq, atI_0, atI_1, atI_2, atI_3, ↓wd_p9, ↓wd_p12, ↓wd_p15, ↓wd_p18, ↓wd_p20, ↓wd_p30, ixN_30, ixN_31, ixN_32, psq_nx, g, a1, b1, hM, h4]
  refine ⟨in62_of (by omega) (by omega), ?_⟩
  rw [rangeD_map]
  refine Wlc_gen (fun pre acc w => ∃ (xs : List Nat) (s' n' : Int), acc = nD xs ∧ (∀ x ∈ xs, 2 ≤ x ∧ x < 2 ^ 30) ∧ xs.length = pre.length ∧ w = [cb (src s' c n'), cf (.int L), cf (.int M), none] ∧ n5 ≤ n' ∧ n' ≤ n5 + pre.length)
      ⟨[], s5, n5, rfl, by simp, rfl, rfl, by omega, by simp⟩ (fun pre y suf acc w e hI => ?_) fun acc w hI => ?_
  · obtain ⟨xs, s', n', rfl, hx, hxl, rfl, m7, m8⟩ := hI
    have hpl : pre.length ≤ 200 := by
      have : pre.length ≤ (List.range L.toNat).length := by rw [e, List.length_append]; omega
      rw [List.length_range] at this
      omega
    simp (maxSteps := 1000000) only [cf, co, cb, ↓We_var, ↓We_non, ↓We_bl, ↓We_int, ↓We_str, ↓We_gl, ↓We_bin, ↓We_neg, ↓We_nt, ↓We_and, ↓We_or, ↓We_ite, ↓We_cmp, ↓We_chain, ↓We_tup, ↓We_lst, ↓We_ix, ↓We_sl, ↓We_nopart, ↓We_rvs, ↓We_call, ↓We_callK, ↓We_bi, ↓We_mth, ↓We_isi, ↓We_lc, ↓We_yes, ↓We_val, ↓We_tru, ↓Wes_nil, ↓Wes_cons, ↓Wei_seq, ↓Wei_range1, ↓Wei_range2, ↓Wei_enum, ↓Wei_zip, ↓Ws_pass, ↓Ws_brk, ↓Ws_cont, ↓Ws_nil, ↓Ws_cons, ↓Ws_asg, ↓Ws_par, ↓Ws_unp, ↓Ws_drop, ↓Ws_aug, ↓Ws_setI, ↓Ws_app, ↓Ws_ext, ↓Ws_ret, ↓Ws_retN, ↓Ws_if, ↓Ws_for, ↓Ws_never, ↓Ws_fga, psq_rt, psq_bk, psq_ct, psq_ex, pfg_nx, pfg_ct, pfg_rt, pfg_bk, pfg_ex, Rw_ok, Rw_ex, ↓Rw_bind, ↓Rw_opt, Ow_some, Ow_none, ↓Ow_bind, ↓Ow_map, ↓Ow_ite, Cw_true, Cw_false, Cw_not, callW_G, callG_none, callG_io, callKW_none', okIo_own, okIo_bor, outW_none, outW_some, ↓we_nil, ↓we_cons, ↓we_dt, ↓we_fr, ↓we_slot, ↓wk_nil, ↓wk_cons, ↓wk_dt, ↓wk_fr, ↓wk_slot, ↓wg_dt, ↓wg_fr, ↓wg_slot, ↓wr_nil, ↓wr_cons, wo_own, wc_F, wc_T, ↓wp_nil, ↓wp_cons, wput, wcell, wcl0, wclf, wclo, wmf, wmo, wmb, wwr, wwo, wwb, wfree, wfree0, wfreef, wd_add, wd_adds, wd_addl, wd_addt, wd_sub, wd_mul, wd_repl, wd_rept, wd_div, wd_mod, wd_pow, wd_eq, wd_ne, wd_lt, wd_le, wd_gt, wd_ge, wd_inl, wd_int, wd_nil, wd_nit, wd_is, wd_isn, wd_tn, wd_tb, wd_ti, wd_tl, wd_tt, wd_ixl, wd_ixt, wd_sll, wd_slt, wd_i, wd_b, wd_lenl, wd_lent, wd_sum, wd_min2, wd_max2, wd_all, wd_any, wd_abs, wd_repr, wd_inti, wd_intb, wd_list1, wd_list2, wd_tup1, wd_tup2, wd_asn, wd_ast, wd_as0, wd_as1, wd_itl, wd_itt, wd_dt, wd_fr, wd_slot, wd_bvT, wd_bvF, wd_rv, wd_pn, wd_pvar, wd_pint, wd_pbin, wd_pneg, wd_pbi, wd_pcall, wd_pix, wd_ls, wd_aa, wd_as, wd_frl, wd_fzi, isTyD, isT, D.dt, isNon, permL, initE, wipeE, restE, List.getElem?_cons_zero, List.getElem?_cons_succ, List.getElem?_nil, List.set_cons_zero, List.set_cons_succ, List.length_cons, List.length_nil, List.cons_append, List.nil_append, List.append_nil, List.replicate, List.all_cons, List.all_nil, List.any_cons, List.any_nil, List.filterMap_cons, List.filterMap_nil, Option.join_some, Option.join_none, Option.bind_some, Option.map_some, Option.map_none, Bool.and_true, Bool.and_self, Bool.or_false, Bool.false_or, Bool.true_or, Bool.or_true, Bool.not_true, Bool.not_false, true_and, and_true, and_self, or_true, true_or, or_false, false_or, if_true, if_false, Bool.false_eq_true, Bool.true_eq_false, reduceCtorEq, Nat.reduceAdd, Nat.reduceSub, Nat.reduceLT, Int.reduceNeg, Nat.reduceLeDiff, not_true_eq_false, not_false_eq_true, reduceIte, decide_true, decide_false, beq_self_eq_true, ne_eq, atI_0, atI_1, atI_2, atI_3, ↓wd_p9, ↓wd_p12, ↓wd_p15, ↓wd_p18, ↓wd_p20, ↓wd_p30, ixN_30, ixN_31, ixN_32, psq_nx, g, a1, b1]
    refine h.w c0 c1 (by omega) (by omega) (by omega) (by omega) fun u q4 n4 u0 u1 m9 m10 => ?_
    simp (maxSteps := 1000000) only [cf, co, cb, ↓We_var, ↓We_non, ↓We_bl, ↓We_int, ↓We_str, ↓We_gl, ↓We_bin, ↓We_neg, ↓We_nt, ↓We_and, ↓We_or, ↓We_ite, ↓We_cmp, ↓We_chain, ↓We_tup, ↓We_lst, ↓We_ix, ↓We_sl, ↓We_nopart, ↓We_rvs, ↓We_call, ↓We_callK, ↓We_bi, ↓We_mth, ↓We_isi, ↓We_lc, ↓We_yes, ↓We_val, ↓We_tru, ↓Wes_nil, ↓Wes_cons, ↓Wei_seq, ↓Wei_range1, ↓Wei_range2, ↓Wei_enum, ↓Wei_zip, ↓Ws_pass, ↓Ws_brk, ↓Ws_cont, ↓Ws_nil, ↓Ws_cons, ↓Ws_asg, ↓Ws_par, ↓Ws_unp, ↓Ws_drop, ↓Ws_aug, ↓Ws_setI, ↓Ws_app, ↓Ws_ext, ↓Ws_ret, ↓Ws_retN, ↓Ws_if, ↓Ws_for, ↓Ws_never, ↓Ws_fga, psq_rt, psq_bk, psq_ct, psq_ex, pfg_nx, pfg_ct, pfg_rt, pfg_bk, pfg_ex, Rw_ok, Rw_ex, ↓Rw_bind, ↓Rw_opt, Ow_some, Ow_none, ↓Ow_bind, ↓Ow_map, ↓Ow_ite, Cw_true, Cw_false, Cw_not, callW_G, callG_none, callG_io, callKW_none', okIo_own, okIo_bor, outW_none, outW_some, ↓we_nil, ↓we_cons, ↓we_dt, ↓we_fr, ↓we_slot, ↓wk_nil, ↓wk_cons, ↓wk_dt, ↓wk_fr, ↓wk_slot, ↓wg_dt, ↓wg_fr, ↓wg_slot, ↓wr_nil, ↓wr_cons, wo_own, wc_F, wc_T, ↓wp_nil, ↓wp_cons, wput, wcell, wcl0, wclf, wclo, wmf, wmo, wmb, wwr, wwo, wwb, wfree, wfree0, wfreef, wd_add, wd_adds, wd_addl, wd_addt, wd_sub, wd_mul, wd_repl, wd_rept, wd_div, wd_mod, wd_pow, wd_eq, wd_ne, wd_lt, wd_le, wd_gt, wd_ge, wd_inl, wd_int, wd_nil, wd_nit, wd_is, wd_isn, wd_tn, wd_tb, wd_ti, wd_tl, wd_tt, wd_ixl, wd_ixt, wd_sll, wd_slt, wd_i, wd_b, wd_lenl, wd_lent, wd_sum, wd_min2, wd_max2, wd_all, wd_any, wd_abs, wd_repr, wd_inti, wd_intb, wd_list1, wd_list2, wd_tup1, wd_tup2, wd_asn, wd_ast, wd_as0, wd_as1, wd_itl, wd_itt, wd_dt, wd_fr, wd_slot, wd_bvT, wd_bvF, wd_rv, wd_pn, wd_pvar, wd_pint, wd_pbin, wd_pneg, wd_pbi, wd_pcall, wd_pix, wd_ls, wd_aa, wd_as, wd_frl, wd_fzi, isTyD, isT, D.dt, isNon, permL, initE, wipeE, restE, List.getElem?_cons_zero, List.getElem?_cons_succ, List.getElem?_nil, List.set_cons_zero, List.set_cons_succ, List.length_cons, List.length_nil, List.cons_append, List.nil_append, List.append_nil, List.replicate, List.all_cons, List.all_nil, List.any_cons, List.any_nil, List.filterMap_cons, List.filterMap_nil, Option.join_some, Option.join_none, Option.bind_some, Option.map_some, Option.map_none, Bool.and_true, Bool.and_self, Bool.or_false, Bool.false_or, Bool.true_or, Bool.or_true, Bool.not_true, Bool.not_false, true_and, and_true, and_self, or_true, true_or, or_false, false_or, if_true, if_false, Bool.false_eq_true, Bool.true_eq_false, reduceCtorEq, Nat.reduceAdd, Nat.reduceSub, Nat.reduceLT, Int.reduceNeg, Nat.reduceLeDiff, not_true_eq_false, not_false_eq_true, reduceIte, decide_true, decide_false, beq_self_eq_true, ne_eq, atI_0, atI_1, atI_2, atI_3, ↓wd_p9, ↓wd_p12, ↓wd_p15, ↓wd_p18, ↓wd_p20, ↓wd_p30, ixN_30, ixN_31, ixN_32, psq_nx]
    refine ⟨xs ++ [(2 + u).toNat], q4, n4, ?_, fun x hx' => ?_, by simp [hxl], rfl, by omega, by simp; omega⟩
    · rw [← nD_snoc, Int.toNat_of_nonneg (by omega)]
    · rcases List.mem_append.mp hx' with hx' | hx'
      · exact hx x hx'
      · rw [List.mem_singleton.mp hx']; omega
  · obtain ⟨xs, s', n', rfl, hx, hxl, rfl, m7, m8⟩ := hI
    rw [List.length_range] at hxl m8
    refine ⟨by rw [nD_length, sizeLine_eq]; omega, ?_⟩
    simp (maxSteps := 1000000) only [cf, co, cb, ↓We_var, ↓We_non, ↓We_bl, ↓We_int, ↓We_str, ↓We_gl, ↓We_bin, ↓We_neg, ↓We_nt, ↓We_and, ↓We_or, ↓We_ite, ↓We_cmp, ↓We_chain, ↓We_tup, ↓We_lst, ↓We_ix, ↓We_sl, ↓We_nopart, ↓We_rvs, ↓We_call, ↓We_callK, ↓We_bi, ↓We_mth, ↓We_isi, ↓We_lc, ↓We_yes, ↓We_val, ↓We_tru, ↓Wes_nil, ↓Wes_cons, ↓Wei_seq, ↓Wei_range1, ↓Wei_range2, ↓Wei_enum, ↓Wei_zip, ↓Ws_pass, ↓Ws_brk, ↓Ws_cont, ↓Ws_nil, ↓Ws_cons, ↓Ws_asg, ↓Ws_par, ↓Ws_unp, ↓Ws_drop, ↓Ws_aug, ↓Ws_setI, ↓Ws_app, ↓Ws_ext, ↓Ws_ret, ↓Ws_retN, ↓Ws_if, ↓Ws_for, ↓Ws_never, ↓Ws_fga, psq_rt, psq_bk, psq_ct, psq_ex, pfg_nx, pfg_ct, pfg_rt, pfg_bk, pfg_ex, Rw_ok, Rw_ex, ↓Rw_bind, ↓Rw_opt, Ow_some, Ow_none, ↓Ow_bind, ↓Ow_map, ↓Ow_ite, Cw_true, Cw_false, Cw_not, callW_G, callG_none, callG_io, callKW_none', okIo_own, okIo_bor, outW_none, outW_some, ↓we_nil, ↓we_cons, ↓we_dt, ↓we_fr, ↓we_slot, ↓wk_nil, ↓wk_cons, ↓wk_dt, ↓wk_fr, ↓wk_slot, ↓wg_dt, ↓wg_fr, ↓wg_slot, ↓wr_nil, ↓wr_cons, wo_own, wc_F, wc_T, ↓wp_nil, ↓wp_cons, wput, wcell, wcl0, wclf, wclo, wmf, wmo, wmb, wwr, wwo, wwb, wfree, wfree0, wfreef, wd_add, wd_adds, wd_addl, wd_addt, wd_sub, wd_mul, wd_repl, wd_rept, wd_div, wd_mod, wd_pow, wd_eq, wd_ne, wd_lt, wd_le, wd_gt, wd_ge, wd_inl, wd_int, wd_nil, wd_nit, wd_is, wd_isn, wd_tn, wd_tb, wd_ti, wd_tl, wd_tt, wd_ixl, wd_ixt, wd_sll, wd_slt, wd_i, wd_b, wd_lenl, wd_lent, wd_sum, wd_min2, wd_max2, wd_all, wd_any, wd_abs, wd_repr, wd_inti, wd_intb, wd_list1, wd_list2, wd_tup1, wd_tup2, wd_asn, wd_ast, wd_as0, wd_as1, wd_itl, wd_itt, wd_dt, wd_fr, wd_slot, wd_bvT, wd_bvF, wd_rv, wd_pn, wd_pvar, wd_pint, wd_pbin, wd_pneg, wd_pbi, wd_pcall, wd_pix, wd_ls, wd_aa, wd_as, wd_frl, wd_fzi, isTyD, isT, D.dt, isNon, permL, initE, wipeE, restE, List.getElem?_cons_zero, List.getElem?_cons_succ, List.getElem?_nil, List.set_cons_zero, List.set_cons_succ, List.length_cons, List.length_nil, List.cons_append, List.nil_append, List.append_nil, List.replicate, List.all_cons, List.all_nil, List.any_cons, List.any_nil, List.filterMap_cons, List.filterMap_nil, Option.join_some, Option.join_none, Option.bind_some, Option.map_some, Option.map_none, Bool.and_true, Bool.and_self, Bool.or_false, Bool.false_or, Bool.true_or, Bool.or_true, Bool.not_true, Bool.not_false, true_and, and_true, and_self, or_true, true_or, or_false, false_or, if_true, if_false, Bool.false_eq_true, Bool.true_eq_false, reduceCtorEq, Nat.reduceAdd, Nat.reduceSub, Nat.reduceLT, Int.reduceNeg, Nat.reduceLeDiff, not_true_eq_false, not_false_eq_true, reduceIte, decide_true, decide_false, beq_self_eq_true, ne_eq, atI_0, atI_1, atI_2, atI_3, ↓wd_p9, ↓wd_p12, ↓wd_p15, ↓wd_p18, ↓wd_p20, ↓wd_p30, ixN_30, ixN_31, ixN_32, psq_nx]
    exact q xs s' n' hx (by omega) (by omega) (by omega)
def CrowdOk (F : Fn) : Prop := F.ar = 2 ∧ F.io = some 0 ∧ ∀ (s c n l : Int) (X : Exn → D → Prop) (K : Bool → D → D → Prop), 0 ≤ c → c < 2147483647 → 0 ≤ n → n < 90000000 → 0 ≤ l → l ≤ 1000 →
  (∀ (cs : List Nat) (s' n' : Int), (∀ e ∈ cs, e < 2 ^ 60) → cs.length ≤ 200 → n ≤ n' → n' ≤ n + 500 → K false (.tup (nD cs)) (src s' c n')) → @Wf F [src s c n, .int l] X K
theorem ok_crowd {Γ : Nat → Option Fn} {i : Nat} {F : Fn} (g : Γ i = some F) (h : Take5Ok F) : CrowdOk (mkFn Γ 2 6 (some 0) (c__law_crowd i)) := by
  obtain ⟨a1, b1, _⟩ := id h
  refine ⟨rfl, rfl, fun s c n l X K c0 c1 hn0 hn1 l0 l1 q => Wf_mk rfl ?_⟩
  unfold c__law_crowd
  have h3 : 3 ≤ sizeLine := by decide
  have h4 : 4 ≤ sizeLine := by decide
  ((try rw [psq_nx]); (repeat (refine Ws_step fun Q' hQ' => ?_; simp (maxSteps := 1000000) only [cf, co, cb, ↓We_var, ↓We_non, ↓We_bl, ↓We_int, ↓We_str, ↓We_gl, ↓We_bin, ↓We_neg, ↓We_nt, ↓We_and, ↓We_or, ↓We_ite, ↓We_cmp, ↓We_chain, ↓We_tup, ↓We_lst, ↓We_ix, ↓We_sl, ↓We_nopart, ↓We_rvs, ↓We_call, ↓We_callK, ↓We_bi, ↓We_mth, ↓We_isi, ↓We_lc, ↓We_yes, ↓We_val, ↓We_tru, ↓Wes_nil, ↓Wes_cons, ↓Wei_seq, ↓Wei_range1, ↓Wei_range2, ↓Wei_enum, ↓Wei_zip, ↓Ws_pass, ↓Ws_brk, ↓Ws_cont, ↓Ws_nil, ↓Ws_cons, ↓Ws_asg, ↓Ws_par, ↓Ws_unp, ↓Ws_drop, ↓Ws_aug, ↓Ws_setI, ↓Ws_app, ↓Ws_ext, ↓Ws_ret, ↓Ws_retN, ↓Ws_if, ↓Ws_for, ↓Ws_never, ↓Ws_fga, psq_rt, psq_bk, psq_ct, psq_ex, pfg_nx, pfg_ct, pfg_rt, pfg_bk, pfg_ex, Rw_ok, Rw_ex, ↓Rw_bind, ↓Rw_opt, Ow_some, Ow_none, ↓Ow_bind, ↓Ow_map, ↓Ow_ite, Cw_true, Cw_false, Cw_not, callW_G, callG_none, callG_io, callKW_none', okIo_own, okIo_bor, outW_none, outW_some, ↓we_nil, ↓we_cons, ↓we_dt, ↓we_fr, ↓we_slot, ↓wk_nil, ↓wk_cons, ↓wk_dt, ↓wk_fr, ↓wk_slot, ↓wg_dt, ↓wg_fr, ↓wg_slot, ↓wr_nil, ↓wr_cons, wo_own, wc_F, wc_T, ↓wp_nil, ↓wp_cons, wput, wcell, wcl0, wclf, wclo, wmf, wmo, wmb, wwr, wwo, wwb, wfree, wfree0, wfreef, wd_add, wd_adds, wd_addl, wd_addt, wd_sub, wd_mul, wd_repl, wd_rept, wd_div, wd_mod, wd_pow, wd_eq, wd_ne, wd_lt, wd_le, wd_gt, wd_ge, wd_inl, wd_int, wd_nil, wd_nit, wd_is, wd_isn, wd_tn, wd_tb, wd_ti, wd_tl, wd_tt, wd_ixl, wd_ixt, wd_sll, wd_slt, wd_i, wd_b, wd_lenl, wd_lent, wd_sum, wd_min2, wd_max2, wd_all, wd_any, wd_abs, wd_repr, wd_inti, wd_intb, wd_list1, wd_list2, wd_tup1, wd_tup2, wd_asn, wd_ast, wd_as0, wd_as1, wd_itl, wd_itt, wd_dt, wd_fr, wd_slot, wd_bvT, wd_bvF, wd_rv, wd_pn, wd_pvar, wd_pint, wd_pbin, wd_pneg, wd_pbi, wd_pcall, wd_pix, wd_ls, wd_aa, wd_as, wd_frl, wd_fzi, isTyD, isT, D.dt, isNon, permL, initE, wipeE, restE, List.getElem?_cons_zero, List.getElem?_cons_succ, List.getElem?_nil, List.set_cons_zero, List.set_cons_succ, List.length_cons, List.length_nil, List.cons_append, List.nil_append, List.append_nil, List.replicate, List.all_cons, List.all_nil, List.any_cons, List.any_nil, List.filterMap_cons, List.filterMap_nil, Option.join_some, Option.join_none, Option.bind_some, Option.map_some, Option.map_none, Bool.and_true, Bool.and_self, Bool.or_false, Bool.false_or, Bool.true_or, Bool.or_true, Bool.not_true, Bool.not_false, true_and, and_true, and_self, or_true, true_or, or_false, false_or, if_true, if_false, Bool.false_eq_true, Bool.true_eq_false, reduceCtorEq, Nat.reduceAdd, Nat.reduceSub, Nat.reduceLT, Int.reduceNeg, Nat.reduceLeDiff, not_true_eq_false, not_false_eq_true, reduceIte, decide_true, decide_false, beq_self_eq_true, ne_eq, atI_0, atI_1, atI_2, atI_3, ↓wd_p9, ↓wd_p12, ↓wd_p15, ↓wd_p18, ↓wd_p20, ↓wd_p30, ixN_30, ixN_31, ixN_32, g, a1, b1]; subst hQ'; try rw [psq_nx])); (try simp only [↓Ws_nil, psq_rt, psq_ex, outW_none, outW_some, wcell, List.getElem?_cons_zero, List.getElem?_cons_succ, Option.join_some, Ow_some, true_and, and_true, and_self]))
  refine h.w c0 c1 (by omega) (by omega) (by omega) (by omega) fun v1 s1 n1 v10 v11 p1 p2 => ?_
  simp (maxSteps := 1000000) only [cf, co, cb, ↓We_var, ↓We_non, ↓We_bl, ↓We_int, ↓We_str, ↓We_gl, ↓We_bin, ↓We_neg, ↓We_nt, ↓We_and, ↓We_or, ↓We_ite, ↓We_cmp, ↓We_chain, ↓We_tup, ↓We_lst, ↓We_ix, ↓We_sl, ↓We_nopart, ↓We_rvs, ↓We_call, ↓We_callK, ↓We_bi, ↓We_mth, ↓We_isi, ↓We_lc, ↓We_yes, ↓We_val, ↓We_tru, ↓Wes_nil, ↓Wes_cons, ↓Wei_seq, ↓Wei_range1, ↓Wei_range2, ↓Wei_enum, ↓Wei_zip, ↓Ws_pass, ↓Ws_brk, ↓Ws_cont, ↓Ws_nil, ↓Ws_cons, ↓Ws_asg, ↓Ws_par, ↓Ws_unp, ↓Ws_drop, ↓Ws_aug, ↓Ws_setI, ↓Ws_app, ↓Ws_ext, ↓Ws_ret, ↓Ws_retN, ↓Ws_if, ↓Ws_for, ↓Ws_never, ↓Ws_fga, psq_rt, psq_bk, psq_ct, psq_ex, pfg_nx, pfg_ct, pfg_rt, pfg_bk, pfg_ex, Rw_ok, Rw_ex, ↓Rw_bind, ↓Rw_opt, Ow_some, Ow_none, ↓Ow_bind, ↓Ow_map, ↓Ow_ite, Cw_true, Cw_false, Cw_not, callW_G, callG_none, callG_io, callKW_none', okIo_own, okIo_bor, outW_none, outW_some, ↓we_nil, ↓we_cons, ↓we_dt, ↓we_fr, ↓we_slot, ↓wk_nil, ↓wk_cons, ↓wk_dt, ↓wk_fr, ↓wk_slot, ↓wg_dt, ↓wg_fr, ↓wg_slot, ↓wr_nil, ↓wr_cons, wo_own, wc_F, wc_T, ↓wp_nil, ↓wp_cons, wput, wcell, wcl0, wclf, wclo, wmf, wmo, wmb, wwr, wwo, wwb, wfree, wfree0, wfreef, wd_add, wd_adds, wd_addl, wd_addt, wd_sub, wd_mul, wd_repl, wd_rept, wd_div, wd_mod, wd_pow, wd_eq, wd_ne, wd_lt, wd_le, wd_gt, wd_ge, wd_inl, wd_int, wd_nil, wd_nit, wd_is, wd_isn, wd_tn, wd_tb, wd_ti, wd_tl, wd_tt, wd_ixl, wd_ixt, wd_sll, wd_slt, wd_i, wd_b, wd_lenl, wd_lent, wd_sum, wd_min2, wd_max2, wd_all, wd_any, wd_abs, wd_repr, wd_inti, wd_intb, wd_list1, wd_list2, wd_tup1, wd_tup2, wd_asn, wd_ast, wd_as0, wd_as1, wd_itl, wd_itt, wd_dt, wd_fr, wd_slot, wd_bvT, wd_bvF, wd_rv, wd_pn, wd_pvar, wd_pint, wd_pbin, wd_pneg, wd_pbi, wd_pcall, wd_pix, wd_ls, wd_aa, wd_as, wd_frl, wd_fzi, isTyD, isT, D.dt, isNon, permL, initE, wipeE, restE, List.getElem?_cons_zero, List.getElem?_cons_succ, List.getElem?_nil, List.set_cons_zero, List.set_cons_succ, List.length_cons, List.length_nil, List.cons_append, List.nil_append, List.append_nil, List.replicate, List.all_cons, List.all_nil, List.any_cons, List.any_nil, List.filterMap_cons, List.filterMap_nil, Option.join_some, Option.join_none, Option.bind_some, Option.map_some, Option.map_none, Bool.and_true, Bool.and_self, Bool.or_false, Bool.false_or, Bool.true_or, Bool.or_true, Bool.not_true, Bool.not_false, true_and, and_true, and_self, or_true, true_or, or_false, false_or, if_true, if_false, Bool.false_eq_true, Bool.true_eq_false, reduceCtorEq, Nat.reduceAdd, Nat.reduceSub, Nat.reduceLT, Int.reduceNeg, Nat.reduceLeDiff, not_true_eq_false, not_false_eq_true, reduceIte, decide_true, decide_false, beq_self_eq_true, ne_eq, atI_0, atI_1, atI_2, atI_3, ↓wd_p9, ↓wd_p12, ↓wd_p15, ↓wd_p18, ↓wd_p20, ↓wd_p30, ixN_30, ixN_31, ixN_32, psq_nx, g, a1, b1, h3]
  refine h.w c0 c1 (by omega) (by omega) (by omega) (by omega) fun v2 s2 n2 v20 v21 p3 p4 => ?_
  obtain ⟨L, hL, hL'⟩ := atI3 l (l + 2) v1 v2 v20 v21
  simp (maxSteps := 1000000) only [cf, co, cb, ↓We_var, ↓We_non, ↓We_bl, ↓We_int, ↓We_str, ↓We_gl, ↓We_bin, ↓We_neg, ↓We_nt, ↓We_and, ↓We_or, ↓We_ite, ↓We_cmp, ↓We_chain, ↓We_tup, ↓We_lst, ↓We_ix, ↓We_sl, ↓We_nopart, ↓We_rvs, ↓We_call, ↓We_callK, ↓We_bi, ↓We_mth, ↓We_isi, ↓We_lc, ↓We_yes, ↓We_val, ↓We_tru, ↓Wes_nil, ↓Wes_cons, ↓Wei_seq, ↓Wei_range1, ↓Wei_range2, ↓Wei_enum, ↓Wei_zip, ↓Ws_pass, ↓Ws_brk, ↓Ws_cont, ↓Ws_nil, ↓Ws_cons, ↓Ws_asg, ↓Ws_par, ↓Ws_unp, ↓Ws_drop, ↓Ws_aug, ↓Ws_setI, ↓Ws_app, ↓Ws_ext, ↓Ws_ret, ↓Ws_retN, ↓Ws_if, ↓Ws_for, ↓Ws_never, ↓Ws_fga, psq_rt, psq_bk, psq_ct, psq_ex, pfg_nx, pfg_ct, pfg_rt, pfg_bk, pfg_ex, Rw_ok, Rw_ex, ↓Rw_bind, ↓Rw_opt, Ow_some, Ow_none, ↓Ow_bind, ↓Ow_map, ↓Ow_ite, Cw_true, Cw_false, Cw_not, callW_G, callG_none, callG_io, callKW_none', okIo_own, okIo_bor, outW_none, outW_some, ↓we_nil, ↓we_cons, ↓we_dt, ↓we_fr, ↓we_slot, ↓wk_nil, ↓wk_cons, ↓wk_dt, ↓wk_fr, ↓wk_slot, ↓wg_dt, ↓wg_fr, ↓wg_slot, ↓wr_nil, ↓wr_cons, wo_own, wc_F, wc_T, ↓wp_nil, ↓wp_cons, wput, wcell, wcl0, wclf, wclo, wmf, wmo, wmb, wwr, wwo, wwb, wfree, wfree0, wfreef, wd_add, wd_adds, wd_addl, wd_addt, wd_sub, wd_mul, wd_repl, wd_rept, wd_div, wd_mod, wd_pow, wd_eq, wd_ne, wd_lt, wd_le, wd_gt, wd_ge, wd_inl, wd_int, wd_nil, wd_nit, wd_is, wd_isn, wd_tn, wd_tb, wd_ti, wd_tl, wd_tt, wd_ixl, wd_ixt, wd_sll, wd_slt, wd_i, wd_b, wd_lenl, wd_lent, wd_sum, wd_min2, wd_max2, wd_all, wd_any, wd_abs, wd_repr, wd_inti, wd_intb, wd_list1, wd_list2, wd_tup1, wd_tup2, wd_asn, wd_ast, wd_as0, wd_as1, wd_itl, wd_itt, wd_dt, wd_fr, wd_slot, wd_bvT, wd_bvF, wd_rv, wd_pn, wd_pvar, wd_pint, wd_pbin, wd_pneg, wd_pbi, wd_pcall, wd_pix, wd_ls, wd_aa, wd_as, wd_frl, wd_fzi, isTyD, isT, D.dt, isNon, permL, initE, wipeE, restE, List.getElem?_cons_zero, List.getElem?_cons_succ, List.getElem?_nil, List.set_cons_zero, List.set_cons_succ, List.length_cons, List.length_nil, List.cons_append, List.nil_append, List.append_nil, List.replicate, List.all_cons, List.all_nil, List.any_cons, List.any_nil, List.filterMap_cons, List.filterMap_nil, Option.join_some, Option.join_none, Option.bind_some, Option.map_some, Option.map_none, Bool.and_true, Bool.and_self, Bool.or_false, Bool.false_or, Bool.true_or, Bool.or_true, Bool.not_true, Bool.not_false, true_and, and_true, and_self, or_true, true_or, or_false, false_or, if_true, if_false, Bool.false_eq_true, Bool.true_eq_false, reduceCtorEq, Nat.reduceAdd, Nat.reduceSub, Nat.reduceLT, Int.reduceNeg, Nat.reduceLeDiff, not_true_eq_false, not_false_eq_true, reduceIte, decide_true, decide_false, beq_self_eq_true, ne_eq, atI_0, atI_1, atI_2, atI_3, ↓wd_p9, ↓wd_p12, ↓wd_p15, ↓wd_p18, ↓wd_p20, ↓wd_p30, ixN_30, ixN_31, ixN_32, psq_nx, g, a1, b1, hL, h4]
  generalize hS : (if L < 200 then L else 200) = S
  have hS' : 0 ≤ S ∧ S ≤ 200 := by rw [← hS]; split <;> omega
  refine h.w c0 c1 (by omega) (by omega) (by omega) (by omega) fun v5 s5 n5 v50 v51 p9 p10 => ?_
  obtain ⟨M, hM, hM'⟩ := atI4 2 5 40 1000000000000000000 v5 v50 v51
  simp (maxSteps := 1000000) only [cf, co, cb, ↓We_var, ↓We_non, ↓We_bl, ↓We_int, ↓We_str, ↓We_gl, ↓We_bin, ↓We_neg, ↓We_nt, ↓We_and, ↓We_or, ↓We_ite, ↓We_cmp, ↓We_chain, ↓We_tup, ↓We_lst, ↓We_ix, ↓We_sl, ↓We_nopart, ↓We_rvs, ↓We_call, ↓We_callK, ↓We_bi, ↓We_mth, ↓We_isi, ↓We_lc, ↓We_yes, ↓We_val, ↓We_tru, ↓Wes_nil, ↓Wes_cons, ↓Wei_seq, ↓Wei_range1, ↓Wei_range2, ↓Wei_enum, ↓Wei_zip, ↓Ws_pass, ↓Ws_brk, ↓Ws_cont, ↓Ws_nil, ↓Ws_cons, ↓Ws_asg, ↓Ws_par, ↓Ws_unp, ↓Ws_drop, ↓Ws_aug, ↓Ws_setI, ↓Ws_app, ↓Ws_ext, ↓Ws_ret, ↓Ws_retN, ↓Ws_if, ↓Ws_for, ↓Ws_never, ↓Ws_fga, psq_rt, psq_bk, psq_ct, psq_ex, pfg_nx, pfg_ct, pfg_rt, pfg_bk, pfg_ex, Rw_ok, Rw_ex, ↓Rw_bind, ↓Rw_opt, Ow_some, Ow_none, ↓Ow_bind, ↓Ow_map, ↓Ow_ite, Cw_true, Cw_false, Cw_not, callW_G, callG_none, callG_io, callKW_none', okIo_own, okIo_bor, outW_none, outW_some, ↓we_nil, ↓we_cons, ↓we_dt, ↓we_fr, ↓we_slot, ↓wk_nil, ↓wk_cons, ↓wk_dt, ↓wk_fr, ↓wk_slot, ↓wg_dt, ↓wg_fr, ↓wg_slot, ↓wr_nil, ↓wr_cons, wo_own, wc_F, wc_T, ↓wp_nil, ↓wp_cons, wput, wcell, wcl0, wclf, wclo, wmf, wmo, wmb, wwr, wwo, wwb, wfree, wfree0, wfreef, wd_add, wd_adds, wd_addl, wd_addt, wd_sub, wd_mul, wd_repl, wd_rept, wd_div, wd_mod, wd_pow, wd_eq, wd_ne, wd_lt, wd_le, wd_gt, wd_ge, wd_inl, wd_int, wd_nil, wd_nit, wd_is, wd_isn, wd_tn, wd_tb, wd_ti, wd_tl, wd_tt, wd_ixl, wd_ixt, wd_sll, wd_slt, wd_i, wd_b, wd_lenl, wd_lent, wd_sum, wd_min2, wd_max2, wd_all, wd_any, wd_abs, wd_repr, wd_inti, wd_intb, wd_list1, wd_list2, wd_tup1, wd_tup2, wd_asn, wd_ast, wd_as0, wd_as1, wd_itl, wd_itt, wd_dt, wd_fr, wd_slot, wd_bvT, wd_bvF, wd_rv, wd_pn, wd_pvar, wd_pint, wd_pbin, wd_pneg, wd_pbi, wd_pcall, wd_pix, wd_ls, wd_aa, wd_as, wd_frl, wd_fzi, isTyD, isT, D.dt, isNon, permL, initE, wipeE, restE, List.getElem?_cons_zero, List.getElem?_cons_succ, List.getElem?_nil, List.set_cons_zero, List.set_cons_succ, List.length_cons, List.length_nil, List.cons_append, List.nil_append, List.append_nil, List.replicate, List.all_cons, List.all_nil, List.any_cons, List.any_nil, List.filterMap_cons, List.filterMap_nil, Option.join_some, Option.join_none, Option.bind_some, Option.map_some, Option.map_none, Bool.and_true, Bool.and_self, Bool.or_false, Bool.false_or, Bool.true_or, Bool.or_true, Bool.not_true, Bool.not_false, true_and, and_true, and_self, or_true, true_or, or_false, false_or, if_true, if_false, Bool.false_eq_true, Bool.true_eq_false, reduceCtorEq, Nat.reduceAdd, Nat.reduceSub, Nat.reduceLT, Int.reduceNeg, Nat.reduceLeDiff, not_true_eq_false, not_false_eq_true, reduceIte, decide_true, decide_false, beq_self_eq_true, ne_eq, atI_0, atI_1, atI_2, atI_3, ↓wd_p9, ↓wd_p12, ↓wd_p15, ↓wd_p18, ↓wd_p20, ↓wd_p30, ixN_30, ixN_31, ixN_32, psq_nx, g, a1, b1, hM, h4]
  refine ⟨in62_of (by omega) (by omega), ?_⟩
  rw [rangeD_map]
  refine Wlc_gen (fun pre acc w => ∃ (xs : List Nat) (s' n' : Int), acc = nD xs ∧ (∀ x ∈ xs, x < 2 ^ 60) ∧ xs.length = pre.length ∧ w = [cb (src s' c n'), cf (.int l), cf (.int S), co (.lst [.int 2, .int 5, .int 40, .int 1000000000000000000]), cf (.int v5), none] ∧ n5 ≤ n' ∧ n' ≤ n5 + 2 * pre.length)
      ⟨[], s5, n5, rfl, by simp, rfl, rfl, by omega, by simp⟩ (fun pre y suf acc w e hI => ?_) fun acc w hI => ?_
  · obtain ⟨xs, s', n', rfl, hx, hxl, rfl, m7, m8⟩ := hI
    have hpl : pre.length ≤ 200 := by
      have : pre.length ≤ (List.range S.toNat).length := by rw [e, List.length_append]; omega
      rw [List.length_range] at this
      omega
    simp (maxSteps := 1000000) only [cf, co, cb, ↓We_var, ↓We_non, ↓We_bl, ↓We_int, ↓We_str, ↓We_gl, ↓We_bin, ↓We_neg, ↓We_nt, ↓We_and, ↓We_or, ↓We_ite, ↓We_cmp, ↓We_chain, ↓We_tup, ↓We_lst, ↓We_ix, ↓We_sl, ↓We_nopart, ↓We_rvs, ↓We_call, ↓We_callK, ↓We_bi, ↓We_mth, ↓We_isi, ↓We_lc, ↓We_yes, ↓We_val, ↓We_tru, ↓Wes_nil, ↓Wes_cons, ↓Wei_seq, ↓Wei_range1, ↓Wei_range2, ↓Wei_enum, ↓Wei_zip, ↓Ws_pass, ↓Ws_brk, ↓Ws_cont, ↓Ws_nil, ↓Ws_cons, ↓Ws_asg, ↓Ws_par, ↓Ws_unp, ↓Ws_drop, ↓Ws_aug, ↓Ws_setI, ↓Ws_app, ↓Ws_ext, ↓Ws_ret, ↓Ws_retN, ↓Ws_if, ↓Ws_for, ↓Ws_never, ↓Ws_fga, psq_rt, psq_bk, psq_ct, psq_ex, pfg_nx, pfg_ct, pfg_rt, pfg_bk, pfg_ex, Rw_ok, Rw_ex, ↓Rw_bind, ↓Rw_opt, Ow_some, Ow_none, ↓Ow_bind, ↓Ow_map, ↓Ow_ite, Cw_true, Cw_false, Cw_not, callW_G, callG_none, callG_io, callKW_none', okIo_own, okIo_bor, outW_none, outW_some, ↓we_nil, ↓we_cons, ↓we_dt, ↓we_fr, ↓we_slot, ↓wk_nil, ↓wk_cons, ↓wk_dt, ↓wk_fr, ↓wk_slot, ↓wg_dt, ↓wg_fr, ↓wg_slot, ↓wr_nil, ↓wr_cons, wo_own, wc_F, wc_T, ↓wp_nil, ↓wp_cons, wput, wcell, wcl0, wclf, wclo, wmf, wmo, wmb, wwr, wwo, wwb, wfree, wfree0, wfreef, wd_add, wd_adds, wd_addl, wd_addt, wd_sub, wd_mul, wd_repl, wd_rept, wd_div, wd_mod, wd_pow, wd_eq, wd_ne, wd_lt, wd_le, wd_gt, wd_ge, wd_inl, wd_int, wd_nil, wd_nit, wd_is, wd_isn, wd_tn, wd_tb, wd_ti, wd_tl, wd_tt, wd_ixl, wd_ixt, wd_sll, wd_slt, wd_i, wd_b, wd_lenl, wd_lent, wd_sum, wd_min2, wd_max2, wd_all, wd_any, wd_abs, wd_repr, wd_inti, wd_intb, wd_list1, wd_list2, wd_tup1, wd_tup2, wd_asn, wd_ast, wd_as0, wd_as1, wd_itl, wd_itt, wd_dt, wd_fr, wd_slot, wd_bvT, wd_bvF, wd_rv, wd_pn, wd_pvar, wd_pint, wd_pbin, wd_pneg, wd_pbi, wd_pcall, wd_pix, wd_ls, wd_aa, wd_as, wd_frl, wd_fzi, isTyD, isT, D.dt, isNon, permL, initE, wipeE, restE, List.getElem?_cons_zero, List.getElem?_cons_succ, List.getElem?_nil, List.set_cons_zero, List.set_cons_succ, List.length_cons, List.length_nil, List.cons_append, List.nil_append, List.append_nil, List.replicate, List.all_cons, List.all_nil, List.any_cons, List.any_nil, List.filterMap_cons, List.filterMap_nil, Option.join_some, Option.join_none, Option.bind_some, Option.map_some, Option.map_none, Bool.and_true, Bool.and_self, Bool.or_false, Bool.false_or, Bool.true_or, Bool.or_true, Bool.not_true, Bool.not_false, true_and, and_true, and_self, or_true, true_or, or_false, false_or, if_true, if_false, Bool.false_eq_true, Bool.true_eq_false, reduceCtorEq, Nat.reduceAdd, Nat.reduceSub, Nat.reduceLT, Int.reduceNeg, Nat.reduceLeDiff, not_true_eq_false, not_false_eq_true, reduceIte, decide_true, decide_false, beq_self_eq_true, ne_eq, atI_0, atI_1, atI_2, atI_3, ↓wd_p9, ↓wd_p12, ↓wd_p15, ↓wd_p18, ↓wd_p20, ↓wd_p30, ixN_30, ixN_31, ixN_32, psq_nx, g, a1, b1, hM]
    refine h.w c0 c1 (by omega) (by omega) (by omega) (by omega) fun u q4 n4 u0 u1 m9 m10 => ?_
    simp (maxSteps := 1000000) only [cf, co, cb, ↓We_var, ↓We_non, ↓We_bl, ↓We_int, ↓We_str, ↓We_gl, ↓We_bin, ↓We_neg, ↓We_nt, ↓We_and, ↓We_or, ↓We_ite, ↓We_cmp, ↓We_chain, ↓We_tup, ↓We_lst, ↓We_ix, ↓We_sl, ↓We_nopart, ↓We_rvs, ↓We_call, ↓We_callK, ↓We_bi, ↓We_mth, ↓We_isi, ↓We_lc, ↓We_yes, ↓We_val, ↓We_tru, ↓Wes_nil, ↓Wes_cons, ↓Wei_seq, ↓Wei_range1, ↓Wei_range2, ↓Wei_enum, ↓Wei_zip, ↓Ws_pass, ↓Ws_brk, ↓Ws_cont, ↓Ws_nil, ↓Ws_cons, ↓Ws_asg, ↓Ws_par, ↓Ws_unp, ↓Ws_drop, ↓Ws_aug, ↓Ws_setI, ↓Ws_app, ↓Ws_ext, ↓Ws_ret, ↓Ws_retN, ↓Ws_if, ↓Ws_for, ↓Ws_never, ↓Ws_fga, psq_rt, psq_bk, psq_ct, psq_ex, pfg_nx, pfg_ct, pfg_rt, pfg_bk, pfg_ex, Rw_ok, Rw_ex, ↓Rw_bind, ↓Rw_opt, Ow_some, Ow_none, ↓Ow_bind, ↓Ow_map, ↓Ow_ite, Cw_true, Cw_false, Cw_not, callW_G, callG_none, callG_io, callKW_none', okIo_own, okIo_bor, outW_none, outW_some, ↓we_nil, ↓we_cons, ↓we_dt, ↓we_fr, ↓we_slot, ↓wk_nil, ↓wk_cons, ↓wk_dt, ↓wk_fr, ↓wk_slot, ↓wg_dt, ↓wg_fr, ↓wg_slot, ↓wr_nil, ↓wr_cons, wo_own, wc_F, wc_T, ↓wp_nil, ↓wp_cons, wput, wcell, wcl0, wclf, wclo, wmf, wmo, wmb, wwr, wwo, wwb, wfree, wfree0, wfreef, wd_add, wd_adds, wd_addl, wd_addt, wd_sub, wd_mul, wd_repl, wd_rept, wd_div, wd_mod, wd_pow, wd_eq, wd_ne, wd_lt, wd_le, wd_gt, wd_ge, wd_inl, wd_int, wd_nil, wd_nit, wd_is, wd_isn, wd_tn, wd_tb, wd_ti, wd_tl, wd_tt, wd_ixl, wd_ixt, wd_sll, wd_slt, wd_i, wd_b, wd_lenl, wd_lent, wd_sum, wd_min2, wd_max2, wd_all, wd_any, wd_abs, wd_repr, wd_inti, wd_intb, wd_list1, wd_list2, wd_tup1, wd_tup2, wd_asn, wd_ast, wd_as0, wd_as1, wd_itl, wd_itt, wd_dt, wd_fr, wd_slot, wd_bvT, wd_bvF, wd_rv, wd_pn, wd_pvar, wd_pint, wd_pbin, wd_pneg, wd_pbi, wd_pcall, wd_pix, wd_ls, wd_aa, wd_as, wd_frl, wd_fzi, isTyD, isT, D.dt, isNon, permL, initE, wipeE, restE, List.getElem?_cons_zero, List.getElem?_cons_succ, List.getElem?_nil, List.set_cons_zero, List.set_cons_succ, List.length_cons, List.length_nil, List.cons_append, List.nil_append, List.append_nil, List.replicate, List.all_cons, List.all_nil, List.any_cons, List.any_nil, List.filterMap_cons, List.filterMap_nil, Option.join_some, Option.join_none, Option.bind_some, Option.map_some, Option.map_none, Bool.and_true, Bool.and_self, Bool.or_false, Bool.false_or, Bool.true_or, Bool.or_true, Bool.not_true, Bool.not_false, true_and, and_true, and_self, or_true, true_or, or_false, false_or, if_true, if_false, Bool.false_eq_true, Bool.true_eq_false, reduceCtorEq, Nat.reduceAdd, Nat.reduceSub, Nat.reduceLT, Int.reduceNeg, Nat.reduceLeDiff, not_true_eq_false, not_false_eq_true, reduceIte, decide_true, decide_false, beq_self_eq_true, ne_eq, atI_0, atI_1, atI_2, atI_3, ↓wd_p9, ↓wd_p12, ↓wd_p15, ↓wd_p18, ↓wd_p20, ↓wd_p30, ixN_30, ixN_31, ixN_32, psq_nx, g, a1, b1]
    refine h.w c0 c1 (by omega) (by omega) (by omega) (by omega) fun t q6 n6 t0 t1 m11 m12 => ?_
    have m := mulOk_int (a := u) (b := t) 61 3 u0 (by omega) t0 (by omega) (by omega) (by omega) (by omega)
    have ht : t = 0 ∨ t = 1 := by omega
    have hut : 0 ≤ u * t ∧ u * t < 2 ^ 60 := by rcases ht with z | z <;> subst z <;> omega
    simp (maxSteps := 1000000) only [cf, co, cb, ↓We_var, ↓We_non, ↓We_bl, ↓We_int, ↓We_str, ↓We_gl, ↓We_bin, ↓We_neg, ↓We_nt, ↓We_and, ↓We_or, ↓We_ite, ↓We_cmp, ↓We_chain, ↓We_tup, ↓We_lst, ↓We_ix, ↓We_sl, ↓We_nopart, ↓We_rvs, ↓We_call, ↓We_callK, ↓We_bi, ↓We_mth, ↓We_isi, ↓We_lc, ↓We_yes, ↓We_val, ↓We_tru, ↓Wes_nil, ↓Wes_cons, ↓Wei_seq, ↓Wei_range1, ↓Wei_range2, ↓Wei_enum, ↓Wei_zip, ↓Ws_pass, ↓Ws_brk, ↓Ws_cont, ↓Ws_nil, ↓Ws_cons, ↓Ws_asg, ↓Ws_par, ↓Ws_unp, ↓Ws_drop, ↓Ws_aug, ↓Ws_setI, ↓Ws_app, ↓Ws_ext, ↓Ws_ret, ↓Ws_retN, ↓Ws_if, ↓Ws_for, ↓Ws_never, ↓Ws_fga, psq_rt, psq_bk, psq_ct, psq_ex, pfg_nx, pfg_ct, pfg_rt, pfg_bk, pfg_ex, Rw_ok, Rw_ex, ↓Rw_bind, ↓Rw_opt, Ow_some, Ow_none, ↓Ow_bind, ↓Ow_map, ↓Ow_ite, Cw_true, Cw_false, Cw_not, callW_G, callG_none, callG_io, callKW_none', okIo_own, okIo_bor, outW_none, outW_some, ↓we_nil, ↓we_cons, ↓we_dt, ↓we_fr, ↓we_slot, ↓wk_nil, ↓wk_cons, ↓wk_dt, ↓wk_fr, ↓wk_slot, ↓wg_dt, ↓wg_fr, ↓wg_slot, ↓wr_nil, ↓wr_cons, wo_own, wc_F, wc_T, ↓wp_nil, ↓wp_cons, wput, wcell, wcl0, wclf, wclo, wmf, wmo, wmb, wwr, wwo, wwb, wfree, wfree0, wfreef, wd_add, wd_adds, wd_addl, wd_addt, wd_sub, wd_mul, wd_repl, wd_rept, wd_div, wd_mod, wd_pow, wd_eq, wd_ne, wd_lt, wd_le, wd_gt, wd_ge, wd_inl, wd_int, wd_nil, wd_nit, wd_is, wd_isn, wd_tn, wd_tb, wd_ti, wd_tl, wd_tt, wd_ixl, wd_ixt, wd_sll, wd_slt, wd_i, wd_b, wd_lenl, wd_lent, wd_sum, wd_min2, wd_max2, wd_all, wd_any, wd_abs, wd_repr, wd_inti, wd_intb, wd_list1, wd_list2, wd_tup1, wd_tup2, wd_asn, wd_ast, wd_as0, wd_as1, wd_itl, wd_itt, wd_dt, wd_fr, wd_slot, wd_bvT, wd_bvF, wd_rv, wd_pn, wd_pvar, wd_pint, wd_pbin, wd_pneg, wd_pbi, wd_pcall, wd_pix, wd_ls, wd_aa, wd_as, wd_frl, wd_fzi, isTyD, isT, D.dt, isNon, permL, initE, wipeE, restE, List.getElem?_cons_zero, List.getElem?_cons_succ, List.getElem?_nil, List.set_cons_zero, List.set_cons_succ, List.length_cons, List.length_nil, List.cons_append, List.nil_append, List.append_nil, List.replicate, List.all_cons, List.all_nil, List.any_cons, List.any_nil, List.filterMap_cons, List.filterMap_nil, Option.join_some, Option.join_none, Option.bind_some, Option.map_some, Option.map_none, Bool.and_true, Bool.and_self, Bool.or_false, Bool.false_or, Bool.true_or, Bool.or_true, Bool.not_true, Bool.not_false, true_and, and_true, and_self, or_true, true_or, or_false, false_or, if_true, if_false, Bool.false_eq_true, Bool.true_eq_false, reduceCtorEq, Nat.reduceAdd, Nat.reduceSub, Nat.reduceLT, Int.reduceNeg, Nat.reduceLeDiff, not_true_eq_false, not_false_eq_true, reduceIte, decide_true, decide_false, beq_self_eq_true, ne_eq, atI_0, atI_1, atI_2, atI_3, ↓wd_p9, ↓wd_p12, ↓wd_p15, ↓wd_p18, ↓wd_p20, ↓wd_p30, ixN_30, ixN_31, ixN_32, psq_nx, m]
    refine ⟨xs ++ [(u * t).toNat], q6, n6, ?_, fun x hx' => ?_, by simp [hxl], rfl, by omega, by simp; omega⟩
    · rw [← nD_snoc, Int.toNat_of_nonneg hut.1]
    · rcases List.mem_append.mp hx' with hx' | hx'
      · exact hx x hx'
      · rw [List.mem_singleton.mp hx']; omega
  · obtain ⟨xs, s', n', rfl, hx, hxl, rfl, m7, m8⟩ := hI
    rw [List.length_range] at hxl m8
    refine ⟨by rw [nD_length, sizeLine_eq]; omega, ?_⟩
    simp (maxSteps := 1000000) only [cf, co, cb, ↓We_var, ↓We_non, ↓We_bl, ↓We_int, ↓We_str, ↓We_gl, ↓We_bin, ↓We_neg, ↓We_nt, ↓We_and, ↓We_or, ↓We_ite, ↓We_cmp, ↓We_chain, ↓We_tup, ↓We_lst, ↓We_ix, ↓We_sl, ↓We_nopart, ↓We_rvs, ↓We_call, ↓We_callK, ↓We_bi, ↓We_mth, ↓We_isi, ↓We_lc, ↓We_yes, ↓We_val, ↓We_tru, ↓Wes_nil, ↓Wes_cons, ↓Wei_seq, ↓Wei_range1, ↓Wei_range2, ↓Wei_enum, ↓Wei_zip, ↓Ws_pass, ↓Ws_brk, ↓Ws_cont, ↓Ws_nil, ↓Ws_cons, ↓Ws_asg, ↓Ws_par, ↓Ws_unp, ↓Ws_drop, ↓Ws_aug, ↓Ws_setI, ↓Ws_app, ↓Ws_ext, ↓Ws_ret, ↓Ws_retN, ↓Ws_if, ↓Ws_for, ↓Ws_never, ↓Ws_fga, psq_rt, psq_bk, psq_ct, psq_ex, pfg_nx, pfg_ct, pfg_rt, pfg_bk, pfg_ex, Rw_ok, Rw_ex, ↓Rw_bind, ↓Rw_opt, Ow_some, Ow_none, ↓Ow_bind, ↓Ow_map, ↓Ow_ite, Cw_true, Cw_false, Cw_not, callW_G, callG_none, callG_io, callKW_none', okIo_own, okIo_bor, outW_none, outW_some, ↓we_nil, ↓we_cons, ↓we_dt, ↓we_fr, ↓we_slot, ↓wk_nil, ↓wk_cons, ↓wk_dt, ↓wk_fr, ↓wk_slot, ↓wg_dt, ↓wg_fr, ↓wg_slot, ↓wr_nil, ↓wr_cons, wo_own, wc_F, wc_T, ↓wp_nil, ↓wp_cons, wput, wcell, wcl0, wclf, wclo, wmf, wmo, wmb, wwr, wwo, wwb, wfree, wfree0, wfreef, wd_add, wd_adds, wd_addl, wd_addt, wd_sub, wd_mul, wd_repl, wd_rept, wd_div, wd_mod, wd_pow, wd_eq, wd_ne, wd_lt, wd_le, wd_gt, wd_ge, wd_inl, wd_int, wd_nil, wd_nit, wd_is, wd_isn, wd_tn, wd_tb, wd_ti, wd_tl, wd_tt, wd_ixl, wd_ixt, wd_sll, wd_slt, wd_i, wd_b, wd_lenl, wd_lent, wd_sum, wd_min2, wd_max2, wd_all, wd_any, wd_abs, wd_repr, wd_inti, wd_intb, wd_list1, wd_list2, wd_tup1, wd_tup2, wd_asn, wd_ast, wd_as0, wd_as1, wd_itl, wd_itt, wd_dt, wd_fr, wd_slot, wd_bvT, wd_bvF, wd_rv, wd_pn, wd_pvar, wd_pint, wd_pbin, wd_pneg, wd_pbi, wd_pcall, wd_pix, wd_ls, wd_aa, wd_as, wd_frl, wd_fzi, isTyD, isT, D.dt, isNon, permL, initE, wipeE, restE, List.getElem?_cons_zero, List.getElem?_cons_succ, List.getElem?_nil, List.set_cons_zero, List.set_cons_succ, List.length_cons, List.length_nil, List.cons_append, List.nil_append, List.append_nil, List.replicate, List.all_cons, List.all_nil, List.any_cons, List.any_nil, List.filterMap_cons, List.filterMap_nil, Option.join_some, Option.join_none, Option.bind_some, Option.map_some, Option.map_none, Bool.and_true, Bool.and_self, Bool.or_false, Bool.false_or, Bool.true_or, Bool.or_true, Bool.not_true, Bool.not_false, true_and, and_true, and_self, or_true, true_or, or_false, false_or, if_true, if_false, Bool.false_eq_true, Bool.true_eq_false, reduceCtorEq, Nat.reduceAdd, Nat.reduceSub, Nat.reduceLT, Int.reduceNeg, Nat.reduceLeDiff, not_true_eq_false, not_false_eq_true, reduceIte, decide_true, decide_false, beq_self_eq_true, ne_eq, atI_0, atI_1, atI_2, atI_3, ↓wd_p9, ↓wd_p12, ↓wd_p15, ↓wd_p18, ↓wd_p20, ↓wd_p30, ixN_30, ixN_31, ixN_32, psq_nx]
    exact q xs s' n' hx (by omega) (by omega) (by omega)
end Lw


set_option Elab.async false
set_option linter.all false
set_option maxRecDepth 100000
set_option maxHeartbeats 1000000
namespace Lw
open PySem PySem.Spec PyProof.Rows L2 T
/-- the weight of counts, scaled; the product -/
abbrev SW (es cs : List Nat) : Nat := sw (pd 1 es) cs (pl 1 es)
abbrev PD (es : List Nat) : Nat := pd 1 es
/-- the weight, round by round, with missing counts as zeros -/
def wz : Nat → Nat → List Nat → List Nat → Nat × Nat
  | t, b, [], _ => (t, b)
  | t, b, e :: es, c :: cs => wz (t * e + c) (b * e) es cs
  | t, b, e :: es, [] => wz (t * e) (b * e) es []
theorem wz_eq : ∀ (es cs : List Nat) (t b : Nat), 0 < b → (∀ e ∈ es, 0 < e) → (wz t b es cs).1 = t * (pd b es / b) + sw (pd b es) cs (pl b es) ∧ (wz t b es cs).2 = pd b es
  | [], cs, t, b, hb, _ => by cases cs <;> simp [wz, pd, pl, sw, Nat.div_self hb]
  | e :: es, [], t, b, hb, he => by
    have he0 := he e List.mem_cons_self
    have hbe : 0 < b * e := Nat.mul_pos hb he0
    obtain ⟨i1, i2⟩ := wz_eq es [] (t * e) (b * e) hbe fun x hx => he x (List.mem_cons_of_mem _ hx)
    obtain ⟨k, hk⟩ := pd_dvd es (b * e)
    have h1 : pd (b * e) es / (b * e) = k := by rw [hk]; exact Nat.mul_div_cancel_left k hbe
    have h2 : pd (b * e) es / b = e * k := by rw [hk, Nat.mul_assoc]; exact Nat.mul_div_cancel_left _ hb
    refine ⟨?_, i2⟩
    show (wz (t * e) (b * e) es []).1 = t * (pd (b * e) es / b) + sw _ [] _
    rw [i1, h1, h2, Nat.mul_assoc]
    simp [sw]
  | e :: es, c :: cs, t, b, hb, he => by
    have he0 := he e List.mem_cons_self
    have hbe : 0 < b * e := Nat.mul_pos hb he0
    obtain ⟨i1, i2⟩ := wz_eq es cs (t * e + c) (b * e) hbe fun x hx => he x (List.mem_cons_of_mem _ hx)
    obtain ⟨k, hk⟩ := pd_dvd es (b * e)
    have h1 : pd (b * e) es / (b * e) = k := by rw [hk]; exact Nat.mul_div_cancel_left k hbe
    have h2 : pd (b * e) es / b = e * k := by rw [hk, Nat.mul_assoc]; exact Nat.mul_div_cancel_left _ hb
    refine ⟨?_, i2⟩
    show (wz (t * e + c) (b * e) es cs).1 = t * (pd (b * e) es / b) + (c * (pd (b * e) es / (b * e)) + sw (pd (b * e) es) cs (pl (b * e) es))
    rw [i1, h1, h2, Nat.add_mul, Nat.mul_assoc]
    omega
theorem wz_SW {es cs : List Nat} (g : Good1 es) : wz 0 1 es cs = (SW es cs, PD es) := by
  obtain ⟨a, b⟩ := wz_eq es cs 0 1 (by decide) fun e he => by have := g.ge e he; omega
  rw [Nat.zero_mul, Nat.zero_add] at a
  exact Prod.ext a b
/-- one round more -/
def wzs (cs : List Nat) (s : Nat × Nat) (p : Nat × Nat) : Nat × Nat := (s.1 * p.1 + (cs[p.2]?).getD 0, s.2 * p.1)
theorem wz_fold : ∀ (es cs ds : List Nat) (t b k : Nat), cs = ds.drop k → (es.zipIdx k).foldl (wzs ds) (t, b) = wz t b es cs
  | [], cs, ds, t, b, k, h => by simp [wz]
  | e :: es, cs, ds, t, b, k, h => by
    rw [List.zipIdx_cons, List.foldl_cons]
    cases cs with
    | nil =>
      have hk : ds.length ≤ k := by
        have := congrArg List.length h
        rw [List.length_drop] at this
        simp at this
        omega
      have e0 : ds[k]? = none := List.getElem?_eq_none hk
      show List.foldl _ (t * e + (ds[k]?).getD 0, b * e) _ = wz (t * e) (b * e) es []
      rw [e0]
      exact wz_fold es [] ds (t * e) (b * e) (k + 1) (by rw [List.drop_of_length_le (by omega)])
    | cons c cs =>
      have e0 : ds[k]? = some c := by
        have : (ds.drop k)[0]? = some c := by rw [← h]; rfl
        rw [List.getElem?_drop] at this
        simpa using this
      show List.foldl _ (t * e + (ds[k]?).getD 0, b * e) _ = wz (t * e + c) (b * e) es cs
      rw [e0]
      exact wz_fold es cs ds (t * e + c) (b * e) (k + 1) (by
        have := congrArg List.tail h
        rw [List.tail_cons, List.tail_drop] at this
        exact this)
def Scaled5Ok (F : Fn) : Prop := F.ar = 2 ∧ F.io = none ∧ ∀ es cs : List Nat, Good1 es → (∀ c ∈ cs, c < 2 ^ 20000) → cs.length ≤ 1000 → F.run [.lst (nD es), .tup (nD cs)] = .ret false (.tup [.int (SW es cs : Nat), .int (PD es : Nat)]) .non
theorem SW_lt {es cs : List Nat} (g : Good1 es) (hc : ∀ c ∈ cs, c < 2 ^ 20000) : ∀ (l : List Nat), l.length ≤ 200 → sw (PD es) cs l ≤ l.length * (2 ^ 20000 * PD es)
  := by
  intro l
  induction cs generalizing l with
  | nil => intro _; simp [sw]
  | cons c cs ih =>
    intro hl
    cases l with
    | nil => simp [sw]
    | cons p ps =>
      have h1 := ih (fun x hx => hc x (List.mem_cons_of_mem _ hx)) ps (by simp at hl; omega)
      have h2 := hc c List.mem_cons_self
      have h3 : c * (PD es / p) ≤ 2 ^ 20000 * PD es := Nat.mul_le_mul (Nat.le_of_lt h2) (Nat.div_le_self _ _)
      rw [sw, List.length_cons, Nat.succ_mul]
      omega

theorem zipIdx_mid {α : Type} {xs : List α} {pre suf : List (α × Nat)} {p : α × Nat} (h : xs.zipIdx = pre ++ p :: suf) : xs[pre.length]? = some p.1 ∧ p.2 = pre.length := by
  have e : xs.zipIdx[pre.length]? = some p := by rw [h, List.getElem?_append_right (Nat.le_refl _), Nat.sub_self]; rfl
  rw [List.getElem?_zipIdx] at e
  cases hx : xs[pre.length]? with
  | none => rw [hx] at e; cases e
  | some y =>
    rw [hx] at e
    simp at e
    subst e
    exact ⟨rfl, rfl⟩
theorem pad_at (cs : List Nat) (k j : Nat) (h : j < cs.length + k) : L2.atI (nD cs ++ (List.replicate k [D.int 0]).flatten) (j : Int) = some (.int ((cs[j]?).getD 0 : Nat)) := by
  apply atI_natS
  have e : (List.replicate k [D.int 0]).flatten = List.replicate k (D.int 0) := by
    induction k with
    | zero => rfl
    | succ k ih => 
      have : (List.replicate k [D.int 0]).flatten = List.replicate k (D.int 0) := by
        clear ih h
        induction k with
        | zero => rfl
        | succ k ih => rw [List.replicate_succ, List.flatten_cons, ih, List.replicate_succ]; rfl
      rw [List.replicate_succ, List.flatten_cons, this, List.replicate_succ]; rfl
  rw [e]
  by_cases hj : j < cs.length
  · rw [List.getElem?_append_left (by rw [nD_length]; exact hj)]
    unfold nD
    rw [List.getElem?_map, List.getElem?_eq_getElem hj]
    rfl
  · rw [List.getElem?_append_right (by rw [nD_length]; omega), nD_length, List.getElem?_replicate, if_pos (by omega), List.getElem?_eq_none (by omega)]
    rfl
theorem ok_scaled5 (Γ : Nat → Option Fn) : Scaled5Ok (mkFn Γ 2 6 none c__law_scaled) := by
  refine ⟨rfl, rfl, fun es cs g hc hl => Wk_run (Wf_mk rfl ?_)⟩
  unfold c__law_scaled
  have h2 : 2 ≤ sizeLine := by decide
  have h1 : 1 ≤ sizeLine := by decide
  have hgl := g.len
  ((try rw [psq_nx]); (repeat (refine Ws_step fun Q' hQ' => ?_; simp (maxSteps := 1000000) only [cf, co, cb, ↓We_var, ↓We_non, ↓We_bl, ↓We_int, ↓We_str, ↓We_gl, ↓We_bin, ↓We_neg, ↓We_nt, ↓We_and, ↓We_or, ↓We_ite, ↓We_cmp, ↓We_chain, ↓We_tup, ↓We_lst, ↓We_ix, ↓We_sl, ↓We_nopart, ↓We_rvs, ↓We_call, ↓We_callK, ↓We_bi, ↓We_mth, ↓We_isi, ↓We_lc, ↓We_yes, ↓We_val, ↓We_tru, ↓Wes_nil, ↓Wes_cons, ↓Wei_seq, ↓Wei_range1, ↓Wei_range2, ↓Wei_enum, ↓Wei_zip, ↓Ws_pass, ↓Ws_brk, ↓Ws_cont, ↓Ws_nil, ↓Ws_cons, ↓Ws_asg, ↓Ws_par, ↓Ws_unp, ↓Ws_drop, ↓Ws_aug, ↓Ws_setI, ↓Ws_app, ↓Ws_ext, ↓Ws_ret, ↓Ws_retN, ↓Ws_if, ↓Ws_for, ↓Ws_never, ↓Ws_fga, psq_rt, psq_bk, psq_ct, psq_ex, pfg_nx, pfg_ct, pfg_rt, pfg_bk, pfg_ex, Rw_ok, Rw_ex, ↓Rw_bind, ↓Rw_opt, Ow_some, Ow_none, ↓Ow_bind, ↓Ow_map, ↓Ow_ite, Cw_true, Cw_false, Cw_not, callW_G, callG_none, callG_io, callKW_none', okIo_own, okIo_bor, outW_none, outW_some, ↓we_nil, ↓we_cons, ↓we_dt, ↓we_fr, ↓we_slot, ↓wk_nil, ↓wk_cons, ↓wk_dt, ↓wk_fr, ↓wk_slot, ↓wg_dt, ↓wg_fr, ↓wg_slot, ↓wr_nil, ↓wr_cons, wo_own, wc_F, wc_T, ↓wp_nil, ↓wp_cons, wput, wcell, wcl0, wclf, wclo, wmf, wmo, wmb, wwr, wwo, wwb, wfree, wfree0, wfreef, wd_add, wd_adds, wd_addl, wd_addt, wd_sub, wd_mul, wd_repl, wd_rept, wd_div, wd_mod, wd_pow, wd_eq, wd_ne, wd_lt, wd_le, wd_gt, wd_ge, wd_inl, wd_int, wd_nil, wd_nit, wd_is, wd_isn, wd_tn, wd_tb, wd_ti, wd_tl, wd_tt, wd_ixl, wd_ixt, wd_sll, wd_slt, wd_i, wd_b, wd_lenl, wd_lent, wd_sum, wd_min2, wd_max2, wd_all, wd_any, wd_abs, wd_repr, wd_inti, wd_intb, wd_list1, wd_list2, wd_tup1, wd_tup2, wd_asn, wd_ast, wd_as0, wd_as1, wd_itl, wd_itt, wd_dt, wd_fr, wd_slot, wd_bvT, wd_bvF, wd_rv, wd_pn, wd_pvar, wd_pint, wd_pbin, wd_pneg, wd_pbi, wd_pcall, wd_pix, wd_ls, wd_aa, wd_as, wd_frl, wd_fzi, isTyD, isT, D.dt, isNon, permL, initE, wipeE, restE, List.getElem?_cons_zero, List.getElem?_cons_succ, List.getElem?_nil, List.set_cons_zero, List.set_cons_succ, List.length_cons, List.length_nil, List.cons_append, List.nil_append, List.append_nil, List.replicate, List.all_cons, List.all_nil, List.any_cons, List.any_nil, List.filterMap_cons, List.filterMap_nil, Option.join_some, Option.join_none, Option.bind_some, Option.map_some, Option.map_none, Bool.and_true, Bool.and_self, Bool.or_false, Bool.false_or, Bool.true_or, Bool.or_true, Bool.not_true, Bool.not_false, true_and, and_true, and_self, or_true, true_or, or_false, false_or, if_true, if_false, Bool.false_eq_true, Bool.true_eq_false, reduceCtorEq, Nat.reduceAdd, Nat.reduceSub, Nat.reduceLT, Int.reduceNeg, Nat.reduceLeDiff, not_true_eq_false, not_false_eq_true, reduceIte, decide_true, decide_false, beq_self_eq_true, ne_eq, atI_0, atI_1, atI_2, atI_3, ↓wd_p9, ↓wd_p12, ↓wd_p15, ↓wd_p18, ↓wd_p20, ↓wd_p30, ixN_30, ixN_31, ixN_32, h2]; subst hQ'; try rw [psq_nx])); (try simp only [↓Ws_nil, psq_rt, psq_ex, outW_none, outW_some, wcell, List.getElem?_cons_zero, List.getElem?_cons_succ, Option.join_some, Ow_some, true_and, and_true, and_self]))
  rw [nD_map es, enumD_map0]
  refine Wfor_fold (st := fun s : Nat × Nat => [cf (.lst (nD es)), cf (.tup (nD cs)), cf (.int (s.1 : Nat)), cf (.int (s.2 : Nat)), none, none]) (wzs cs) (0, 1)
    (fun pre s => s.1 < 2 ^ (20010 + 51 * pre.length) ∧ s.2 = pp es pre.length) rfl ⟨by decide, rfl⟩ (fun pre y suf s e _ hp => ?_) fun hp => ?_
  · obtain ⟨t, b⟩ := s
    obtain ⟨x, k⟩ := y
    obtain ⟨hx, hk⟩ := zipIdx_mid e
    simp only at hx hk hp
    subst hk
    obtain ⟨ht, hb⟩ := hp
    have hxm := List.mem_of_getElem? hx
    have x1 := g.lt x hxm
    have hpl : pre.length < es.length := (List.getElem?_eq_some_iff.mp hx).1
    have hb2 := pp_small g (Nat.le_of_lt hpl)
    have hc0 : (cs[pre.length]?).getD 0 < 2 ^ 20000 := by
      cases hz : cs[pre.length]? with
      | none => exact Nat.two_pow_pos _
      | some z => exact hc z (List.mem_of_getElem? hz)
    have m1 : mulOk (b : Nat) (x : Nat) = true := mul_nat 8900 50 (by rw [hb]; exact hb2) x1 (by decide) (by decide) (by decide)
    have m2 : mulOk (t : Nat) (x : Nat) = true := mul_nat (20010 + 51 * pre.length) 50 ht x1 (by omega) (by omega) (by decide)
    have hat := pad_at cs es.length pre.length (by omega)
    have z1 : -(2 ^ 63) ≤ ((nD es).length : Int) ∧ ((nD es).length : Int) < 2 ^ 63 ∧ 1 * ((nD es).length : Int).toNat ≤ sizeLine := by
      rw [nD_length, sizeLine_eq]
      refine ⟨by omega, by omega, by omega⟩
    have z2 : (nD cs).length + (List.replicate ((nD es).length : Int).toNat [D.int 0]).flatten.length ≤ sizeLine := by
      rw [nD_length, nD_length, sizeLine_eq]
      simp
      omega
    refine ⟨⟨?_, ?_⟩, ?_⟩
    · show t * x + (cs[pre.length]?).getD 0 < _
      have a1 : t * x ≤ 2 ^ (20010 + 51 * pre.length) * 2 ^ 50 := Nat.mul_le_mul (Nat.le_of_lt ht) (Nat.le_of_lt x1)
      have a2 : 2 ^ 20000 ≤ 2 ^ (20010 + 51 * pre.length) := Nat.pow_le_pow_right (by decide) (by omega)
      have a3 : 2 ^ (20010 + 51 * (pre ++ [(x, pre.length)]).length) = 2 ^ (20010 + 51 * pre.length) * 2 ^ 50 * 2 := by
        rw [List.length_append, List.length_singleton, show 20010 + 51 * (pre.length + 1) = (20010 + 51 * pre.length) + 51 by omega, Nat.pow_add]; omega
      have a4 : 2 ^ (20010 + 51 * pre.length) ≤ 2 ^ (20010 + 51 * pre.length) * 2 ^ 50 := Nat.le_mul_of_pos_right _ (by decide)
      omega
    · show b * x = pp es (pre ++ [(x, pre.length)]).length
      rw [List.length_append, List.length_singleton, pp_succ hx, hb]
    · simp (maxSteps := 1000000) only [cf, co, cb, ↓We_var, ↓We_non, ↓We_bl, ↓We_int, ↓We_str, ↓We_gl, ↓We_bin, ↓We_neg, ↓We_nt, ↓We_and, ↓We_or, ↓We_ite, ↓We_cmp, ↓We_chain, ↓We_tup, ↓We_lst, ↓We_ix, ↓We_sl, ↓We_nopart, ↓We_rvs, ↓We_call, ↓We_callK, ↓We_bi, ↓We_mth, ↓We_isi, ↓We_lc, ↓We_yes, ↓We_val, ↓We_tru, ↓Wes_nil, ↓Wes_cons, ↓Wei_seq, ↓Wei_range1, ↓Wei_range2, ↓Wei_enum, ↓Wei_zip, ↓Ws_pass, ↓Ws_brk, ↓Ws_cont, ↓Ws_nil, ↓Ws_cons, ↓Ws_asg, ↓Ws_par, ↓Ws_unp, ↓Ws_drop, ↓Ws_aug, ↓Ws_setI, ↓Ws_app, ↓Ws_ext, ↓Ws_ret, ↓Ws_retN, ↓Ws_if, ↓Ws_for, ↓Ws_never, ↓Ws_fga, psq_rt, psq_bk, psq_ct, psq_ex, pfg_nx, pfg_ct, pfg_rt, pfg_bk, pfg_ex, Rw_ok, Rw_ex, ↓Rw_bind, ↓Rw_opt, Ow_some, Ow_none, ↓Ow_bind, ↓Ow_map, ↓Ow_ite, Cw_true, Cw_false, Cw_not, callW_G, callG_none, callG_io, callKW_none', okIo_own, okIo_bor, outW_none, outW_some, ↓we_nil, ↓we_cons, ↓we_dt, ↓we_fr, ↓we_slot, ↓wk_nil, ↓wk_cons, ↓wk_dt, ↓wk_fr, ↓wk_slot, ↓wg_dt, ↓wg_fr, ↓wg_slot, ↓wr_nil, ↓wr_cons, wo_own, wc_F, wc_T, ↓wp_nil, ↓wp_cons, wput, wcell, wcl0, wclf, wclo, wmf, wmo, wmb, wwr, wwo, wwb, wfree, wfree0, wfreef, wd_add, wd_adds, wd_addl, wd_addt, wd_sub, wd_mul, wd_repl, wd_rept, wd_div, wd_mod, wd_pow, wd_eq, wd_ne, wd_lt, wd_le, wd_gt, wd_ge, wd_inl, wd_int, wd_nil, wd_nit, wd_is, wd_isn, wd_tn, wd_tb, wd_ti, wd_tl, wd_tt, wd_ixl, wd_ixt, wd_sll, wd_slt, wd_i, wd_b, wd_lenl, wd_lent, wd_sum, wd_min2, wd_max2, wd_all, wd_any, wd_abs, wd_repr, wd_inti, wd_intb, wd_list1, wd_list2, wd_tup1, wd_tup2, wd_asn, wd_ast, wd_as0, wd_as1, wd_itl, wd_itt, wd_dt, wd_fr, wd_slot, wd_bvT, wd_bvF, wd_rv, wd_pn, wd_pvar, wd_pint, wd_pbin, wd_pneg, wd_pbi, wd_pcall, wd_pix, wd_ls, wd_aa, wd_as, wd_frl, wd_fzi, isTyD, isT, D.dt, isNon, permL, initE, wipeE, restE, List.getElem?_cons_zero, List.getElem?_cons_succ, List.getElem?_nil, List.set_cons_zero, List.set_cons_succ, List.length_cons, List.length_nil, List.cons_append, List.nil_append, List.append_nil, List.replicate, List.all_cons, List.all_nil, List.any_cons, List.any_nil, List.filterMap_cons, List.filterMap_nil, Option.join_some, Option.join_none, Option.bind_some, Option.map_some, Option.map_none, Bool.and_true, Bool.and_self, Bool.or_false, Bool.false_or, Bool.true_or, Bool.or_true, Bool.not_true, Bool.not_false, true_and, and_true, and_self, or_true, true_or, or_false, false_or, if_true, if_false, Bool.false_eq_true, Bool.true_eq_false, reduceCtorEq, Nat.reduceAdd, Nat.reduceSub, Nat.reduceLT, Int.reduceNeg, Nat.reduceLeDiff, not_true_eq_false, not_false_eq_true, reduceIte, decide_true, decide_false, beq_self_eq_true, ne_eq, atI_0, atI_1, atI_2, atI_3, ↓wd_p9, ↓wd_p12, ↓wd_p15, ↓wd_p18, ↓wd_p20, ↓wd_p30, ixN_30, ixN_31, ixN_32, psq_nx, m1, m2, z1, z2, h1]
      rw [nD_length, Int.toNat_natCast, hat]
      simp (maxSteps := 1000000) only [cf, co, cb, ↓We_var, ↓We_non, ↓We_bl, ↓We_int, ↓We_str, ↓We_gl, ↓We_bin, ↓We_neg, ↓We_nt, ↓We_and, ↓We_or, ↓We_ite, ↓We_cmp, ↓We_chain, ↓We_tup, ↓We_lst, ↓We_ix, ↓We_sl, ↓We_nopart, ↓We_rvs, ↓We_call, ↓We_callK, ↓We_bi, ↓We_mth, ↓We_isi, ↓We_lc, ↓We_yes, ↓We_val, ↓We_tru, ↓Wes_nil, ↓Wes_cons, ↓Wei_seq, ↓Wei_range1, ↓Wei_range2, ↓Wei_enum, ↓Wei_zip, ↓Ws_pass, ↓Ws_brk, ↓Ws_cont, ↓Ws_nil, ↓Ws_cons, ↓Ws_asg, ↓Ws_par, ↓Ws_unp, ↓Ws_drop, ↓Ws_aug, ↓Ws_setI, ↓Ws_app, ↓Ws_ext, ↓Ws_ret, ↓Ws_retN, ↓Ws_if, ↓Ws_for, ↓Ws_never, ↓Ws_fga, psq_rt, psq_bk, psq_ct, psq_ex, pfg_nx, pfg_ct, pfg_rt, pfg_bk, pfg_ex, Rw_ok, Rw_ex, ↓Rw_bind, ↓Rw_opt, Ow_some, Ow_none, ↓Ow_bind, ↓Ow_map, ↓Ow_ite, Cw_true, Cw_false, Cw_not, callW_G, callG_none, callG_io, callKW_none', okIo_own, okIo_bor, outW_none, outW_some, ↓we_nil, ↓we_cons, ↓we_dt, ↓we_fr, ↓we_slot, ↓wk_nil, ↓wk_cons, ↓wk_dt, ↓wk_fr, ↓wk_slot, ↓wg_dt, ↓wg_fr, ↓wg_slot, ↓wr_nil, ↓wr_cons, wo_own, wc_F, wc_T, ↓wp_nil, ↓wp_cons, wput, wcell, wcl0, wclf, wclo, wmf, wmo, wmb, wwr, wwo, wwb, wfree, wfree0, wfreef, wd_add, wd_adds, wd_addl, wd_addt, wd_sub, wd_mul, wd_repl, wd_rept, wd_div, wd_mod, wd_pow, wd_eq, wd_ne, wd_lt, wd_le, wd_gt, wd_ge, wd_inl, wd_int, wd_nil, wd_nit, wd_is, wd_isn, wd_tn, wd_tb, wd_ti, wd_tl, wd_tt, wd_ixl, wd_ixt, wd_sll, wd_slt, wd_i, wd_b, wd_lenl, wd_lent, wd_sum, wd_min2, wd_max2, wd_all, wd_any, wd_abs, wd_repr, wd_inti, wd_intb, wd_list1, wd_list2, wd_tup1, wd_tup2, wd_asn, wd_ast, wd_as0, wd_as1, wd_itl, wd_itt, wd_dt, wd_fr, wd_slot, wd_bvT, wd_bvF, wd_rv, wd_pn, wd_pvar, wd_pint, wd_pbin, wd_pneg, wd_pbi, wd_pcall, wd_pix, wd_ls, wd_aa, wd_as, wd_frl, wd_fzi, isTyD, isT, D.dt, isNon, permL, initE, wipeE, restE, List.getElem?_cons_zero, List.getElem?_cons_succ, List.getElem?_nil, List.set_cons_zero, List.set_cons_succ, List.length_cons, List.length_nil, List.cons_append, List.nil_append, List.append_nil, List.replicate, List.all_cons, List.all_nil, List.any_cons, List.any_nil, List.filterMap_cons, List.filterMap_nil, Option.join_some, Option.join_none, Option.bind_some, Option.map_some, Option.map_none, Bool.and_true, Bool.and_self, Bool.or_false, Bool.false_or, Bool.true_or, Bool.or_true, Bool.not_true, Bool.not_false, true_and, and_true, and_self, or_true, true_or, or_false, false_or, if_true, if_false, Bool.false_eq_true, Bool.true_eq_false, reduceCtorEq, Nat.reduceAdd, Nat.reduceSub, Nat.reduceLT, Int.reduceNeg, Nat.reduceLeDiff, not_true_eq_false, not_false_eq_true, reduceIte, decide_true, decide_false, beq_self_eq_true, ne_eq, atI_0, atI_1, atI_2, atI_3, ↓wd_p9, ↓wd_p12, ↓wd_p15, ↓wd_p18, ↓wd_p20, ↓wd_p30, ixN_30, ixN_31, ixN_32, psq_nx]
      simp [wzs]
  · have e : es.zipIdx.foldl (wzs cs) (0, 1) = (SW es cs, PD es) := by
      rw [wz_fold es cs cs 0 1 0 rfl, wz_SW g]
    rw [e]
    ((try rw [psq_nx]); (repeat (refine Ws_step fun Q' hQ' => ?_; simp (maxSteps := 1000000) only [cf, co, cb, ↓We_var, ↓We_non, ↓We_bl, ↓We_int, ↓We_str, ↓We_gl, ↓We_bin, ↓We_neg, ↓We_nt, ↓We_and, ↓We_or, ↓We_ite, ↓We_cmp, ↓We_chain, ↓We_tup, ↓We_lst, ↓We_ix, ↓We_sl, ↓We_nopart, ↓We_rvs, ↓We_call, ↓We_callK, ↓We_bi, ↓We_mth, ↓We_isi, ↓We_lc, ↓We_yes, ↓We_val, ↓We_tru, ↓Wes_nil, ↓Wes_cons, ↓Wei_seq, ↓Wei_range1, ↓Wei_range2, ↓Wei_enum, ↓Wei_zip, ↓Ws_pass, ↓Ws_brk, ↓Ws_cont, ↓Ws_nil, ↓Ws_cons, ↓Ws_asg, ↓Ws_par, ↓Ws_unp, ↓Ws_drop, ↓Ws_aug, ↓Ws_setI, ↓Ws_app, ↓Ws_ext, ↓Ws_ret, ↓Ws_retN, ↓Ws_if, ↓Ws_for, ↓Ws_never, ↓Ws_fga, psq_rt, psq_bk, psq_ct, psq_ex, pfg_nx, pfg_ct, pfg_rt, pfg_bk, pfg_ex, Rw_ok, Rw_ex, ↓Rw_bind, ↓Rw_opt, Ow_some, Ow_none, ↓Ow_bind, ↓Ow_map, ↓Ow_ite, Cw_true, Cw_false, Cw_not, callW_G, callG_none, callG_io, callKW_none', okIo_own, okIo_bor, outW_none, outW_some, ↓we_nil, ↓we_cons, ↓we_dt, ↓we_fr, ↓we_slot, ↓wk_nil, ↓wk_cons, ↓wk_dt, ↓wk_fr, ↓wk_slot, ↓wg_dt, ↓wg_fr, ↓wg_slot, ↓wr_nil, ↓wr_cons, wo_own, wc_F, wc_T, ↓wp_nil, ↓wp_cons, wput, wcell, wcl0, wclf, wclo, wmf, wmo, wmb, wwr, wwo, wwb, wfree, wfree0, wfreef, wd_add, wd_adds, wd_addl, wd_addt, wd_sub, wd_mul, wd_repl, wd_rept, wd_div, wd_mod, wd_pow, wd_eq, wd_ne, wd_lt, wd_le, wd_gt, wd_ge, wd_inl, wd_int, wd_nil, wd_nit, wd_is, wd_isn, wd_tn, wd_tb, wd_ti, wd_tl, wd_tt, wd_ixl, wd_ixt, wd_sll, wd_slt, wd_i, wd_b, wd_lenl, wd_lent, wd_sum, wd_min2, wd_max2, wd_all, wd_any, wd_abs, wd_repr, wd_inti, wd_intb, wd_list1, wd_list2, wd_tup1, wd_tup2, wd_asn, wd_ast, wd_as0, wd_as1, wd_itl, wd_itt, wd_dt, wd_fr, wd_slot, wd_bvT, wd_bvF, wd_rv, wd_pn, wd_pvar, wd_pint, wd_pbin, wd_pneg, wd_pbi, wd_pcall, wd_pix, wd_ls, wd_aa, wd_as, wd_frl, wd_fzi, isTyD, isT, D.dt, isNon, permL, initE, wipeE, restE, List.getElem?_cons_zero, List.getElem?_cons_succ, List.getElem?_nil, List.set_cons_zero, List.set_cons_succ, List.length_cons, List.length_nil, List.cons_append, List.nil_append, List.append_nil, List.replicate, List.all_cons, List.all_nil, List.any_cons, List.any_nil, List.filterMap_cons, List.filterMap_nil, Option.join_some, Option.join_none, Option.bind_some, Option.map_some, Option.map_none, Bool.and_true, Bool.and_self, Bool.or_false, Bool.false_or, Bool.true_or, Bool.or_true, Bool.not_true, Bool.not_false, true_and, and_true, and_self, or_true, true_or, or_false, false_or, if_true, if_false, Bool.false_eq_true, Bool.true_eq_false, reduceCtorEq, Nat.reduceAdd, Nat.reduceSub, Nat.reduceLT, Int.reduceNeg, Nat.reduceLeDiff, not_true_eq_false, not_false_eq_true, reduceIte, decide_true, decide_false, beq_self_eq_true, ne_eq, atI_0, atI_1, atI_2, atI_3, ↓wd_p9, ↓wd_p12, ↓wd_p15, ↓wd_p18, ↓wd_p20, ↓wd_p30, ixN_30, ixN_31, ixN_32, h2]; subst hQ'; try rw [psq_nx])); (try simp only [↓Ws_nil, psq_rt, psq_ex, outW_none, outW_some, wcell, List.getElem?_cons_zero, List.getElem?_cons_succ, Option.join_some, Ow_some, true_and, and_true, and_self]))
def CellAtOk (F : Fn) : Prop := F.ar = 2 ∧ F.io = none ∧ ∀ (ns : List Int) (k : Nat), ∃ z : Int, F.run [.lst (ns.map D.int), .int k] = .ret false (.int z) .non ∧ (z = 0 ∨ z ∈ ns)
theorem ok_cellat (Γ : Nat → Option Fn) : CellAtOk (mkFn Γ 2 2 none c__law_cell_at) := by
  refine ⟨rfl, rfl, fun ns k => ?_⟩
  by_cases h : k < ns.length
  · refine ⟨ns[k], Wk_run (Wf_mk rfl ?_), .inr (List.getElem_mem _)⟩
    have e : L2.atI (ns.map D.int) (k : Int) = some (.int ns[k]) := atI_natS (by rw [List.getElem?_map, List.getElem?_eq_getElem h]; rfl)
    have h' : (k : Int) < ns.length := by omega
    unfold c__law_cell_at
    ((try rw [psq_nx]); (repeat (refine Ws_step fun Q' hQ' => ?_; simp (maxSteps := 1000000) only [cf, co, cb, ↓We_var, ↓We_non, ↓We_bl, ↓We_int, ↓We_str, ↓We_gl, ↓We_bin, ↓We_neg, ↓We_nt, ↓We_and, ↓We_or, ↓We_ite, ↓We_cmp, ↓We_chain, ↓We_tup, ↓We_lst, ↓We_ix, ↓We_sl, ↓We_nopart, ↓We_rvs, ↓We_call, ↓We_callK, ↓We_bi, ↓We_mth, ↓We_isi, ↓We_lc, ↓We_yes, ↓We_val, ↓We_tru, ↓Wes_nil, ↓Wes_cons, ↓Wei_seq, ↓Wei_range1, ↓Wei_range2, ↓Wei_enum, ↓Wei_zip, ↓Ws_pass, ↓Ws_brk, ↓Ws_cont, ↓Ws_nil, ↓Ws_cons, ↓Ws_asg, ↓Ws_par, ↓Ws_unp, ↓Ws_drop, ↓Ws_aug, ↓Ws_setI, ↓Ws_app, ↓Ws_ext, ↓Ws_ret, ↓Ws_retN, ↓Ws_if, ↓Ws_for, ↓Ws_never, ↓Ws_fga, psq_rt, psq_bk, psq_ct, psq_ex, pfg_nx, pfg_ct, pfg_rt, pfg_bk, pfg_ex, Rw_ok, Rw_ex, ↓Rw_bind, ↓Rw_opt, Ow_some, Ow_none, ↓Ow_bind, ↓Ow_map, ↓Ow_ite, Cw_true, Cw_false, Cw_not, callW_G, callG_none, callG_io, callKW_none', okIo_own, okIo_bor, outW_none, outW_some, ↓we_nil, ↓we_cons, ↓we_dt, ↓we_fr, ↓we_slot, ↓wk_nil, ↓wk_cons, ↓wk_dt, ↓wk_fr, ↓wk_slot, ↓wg_dt, ↓wg_fr, ↓wg_slot, ↓wr_nil, ↓wr_cons, wo_own, wc_F, wc_T, ↓wp_nil, ↓wp_cons, wput, wcell, wcl0, wclf, wclo, wmf, wmo, wmb, wwr, wwo, wwb, wfree, wfree0, wfreef, wd_add, wd_adds, wd_addl, wd_addt, wd_sub, wd_mul, wd_repl, wd_rept, wd_div, wd_mod, wd_pow, wd_eq, wd_ne, wd_lt, wd_le, wd_gt, wd_ge, wd_inl, wd_int, wd_nil, wd_nit, wd_is, wd_isn, wd_tn, wd_tb, wd_ti, wd_tl, wd_tt, wd_ixl, wd_ixt, wd_sll, wd_slt, wd_i, wd_b, wd_lenl, wd_lent, wd_sum, wd_min2, wd_max2, wd_all, wd_any, wd_abs, wd_repr, wd_inti, wd_intb, wd_list1, wd_list2, wd_tup1, wd_tup2, wd_asn, wd_ast, wd_as0, wd_as1, wd_itl, wd_itt, wd_dt, wd_fr, wd_slot, wd_bvT, wd_bvF, wd_rv, wd_pn, wd_pvar, wd_pint, wd_pbin, wd_pneg, wd_pbi, wd_pcall, wd_pix, wd_ls, wd_aa, wd_as, wd_frl, wd_fzi, isTyD, isT, D.dt, isNon, permL, initE, wipeE, restE, List.getElem?_cons_zero, List.getElem?_cons_succ, List.getElem?_nil, List.set_cons_zero, List.set_cons_succ, List.length_cons, List.length_nil, List.cons_append, List.nil_append, List.append_nil, List.replicate, List.all_cons, List.all_nil, List.any_cons, List.any_nil, List.filterMap_cons, List.filterMap_nil, Option.join_some, Option.join_none, Option.bind_some, Option.map_some, Option.map_none, Bool.and_true, Bool.and_self, Bool.or_false, Bool.false_or, Bool.true_or, Bool.or_true, Bool.not_true, Bool.not_false, true_and, and_true, and_self, or_true, true_or, or_false, false_or, if_true, if_false, Bool.false_eq_true, Bool.true_eq_false, reduceCtorEq, Nat.reduceAdd, Nat.reduceSub, Nat.reduceLT, Int.reduceNeg, Nat.reduceLeDiff, not_true_eq_false, not_false_eq_true, reduceIte, decide_true, decide_false, beq_self_eq_true, ne_eq, atI_0, atI_1, atI_2, atI_3, ↓wd_p9, ↓wd_p12, ↓wd_p15, ↓wd_p18, ↓wd_p20, ↓wd_p30, ixN_30, ixN_31, ixN_32, List.length_map, h', e]; subst hQ'; try rw [psq_nx])); (try simp only [↓Ws_nil, psq_rt, psq_ex, outW_none, outW_some, wcell, List.getElem?_cons_zero, List.getElem?_cons_succ, Option.join_some, Ow_some, true_and, and_true, and_self]))
  · refine ⟨0, Wk_run (Wf_mk rfl ?_), .inl rfl⟩
    have h' : ¬ (k : Int) < ns.length := by omega
    unfold c__law_cell_at
    ((try rw [psq_nx]); (repeat (refine Ws_step fun Q' hQ' => ?_; simp (maxSteps := 1000000) only [cf, co, cb, ↓We_var, ↓We_non, ↓We_bl, ↓We_int, ↓We_str, ↓We_gl, ↓We_bin, ↓We_neg, ↓We_nt, ↓We_and, ↓We_or, ↓We_ite, ↓We_cmp, ↓We_chain, ↓We_tup, ↓We_lst, ↓We_ix, ↓We_sl, ↓We_nopart, ↓We_rvs, ↓We_call, ↓We_callK, ↓We_bi, ↓We_mth, ↓We_isi, ↓We_lc, ↓We_yes, ↓We_val, ↓We_tru, ↓Wes_nil, ↓Wes_cons, ↓Wei_seq, ↓Wei_range1, ↓Wei_range2, ↓Wei_enum, ↓Wei_zip, ↓Ws_pass, ↓Ws_brk, ↓Ws_cont, ↓Ws_nil, ↓Ws_cons, ↓Ws_asg, ↓Ws_par, ↓Ws_unp, ↓Ws_drop, ↓Ws_aug, ↓Ws_setI, ↓Ws_app, ↓Ws_ext, ↓Ws_ret, ↓Ws_retN, ↓Ws_if, ↓Ws_for, ↓Ws_never, ↓Ws_fga, psq_rt, psq_bk, psq_ct, psq_ex, pfg_nx, pfg_ct, pfg_rt, pfg_bk, pfg_ex, Rw_ok, Rw_ex, ↓Rw_bind, ↓Rw_opt, Ow_some, Ow_none, ↓Ow_bind, ↓Ow_map, ↓Ow_ite, Cw_true, Cw_false, Cw_not, callW_G, callG_none, callG_io, callKW_none', okIo_own, okIo_bor, outW_none, outW_some, ↓we_nil, ↓we_cons, ↓we_dt, ↓we_fr, ↓we_slot, ↓wk_nil, ↓wk_cons, ↓wk_dt, ↓wk_fr, ↓wk_slot, ↓wg_dt, ↓wg_fr, ↓wg_slot, ↓wr_nil, ↓wr_cons, wo_own, wc_F, wc_T, ↓wp_nil, ↓wp_cons, wput, wcell, wcl0, wclf, wclo, wmf, wmo, wmb, wwr, wwo, wwb, wfree, wfree0, wfreef, wd_add, wd_adds, wd_addl, wd_addt, wd_sub, wd_mul, wd_repl, wd_rept, wd_div, wd_mod, wd_pow, wd_eq, wd_ne, wd_lt, wd_le, wd_gt, wd_ge, wd_inl, wd_int, wd_nil, wd_nit, wd_is, wd_isn, wd_tn, wd_tb, wd_ti, wd_tl, wd_tt, wd_ixl, wd_ixt, wd_sll, wd_slt, wd_i, wd_b, wd_lenl, wd_lent, wd_sum, wd_min2, wd_max2, wd_all, wd_any, wd_abs, wd_repr, wd_inti, wd_intb, wd_list1, wd_list2, wd_tup1, wd_tup2, wd_asn, wd_ast, wd_as0, wd_as1, wd_itl, wd_itt, wd_dt, wd_fr, wd_slot, wd_bvT, wd_bvF, wd_rv, wd_pn, wd_pvar, wd_pint, wd_pbin, wd_pneg, wd_pbi, wd_pcall, wd_pix, wd_ls, wd_aa, wd_as, wd_frl, wd_fzi, isTyD, isT, D.dt, isNon, permL, initE, wipeE, restE, List.getElem?_cons_zero, List.getElem?_cons_succ, List.getElem?_nil, List.set_cons_zero, List.set_cons_succ, List.length_cons, List.length_nil, List.cons_append, List.nil_append, List.append_nil, List.replicate, List.all_cons, List.all_nil, List.any_cons, List.any_nil, List.filterMap_cons, List.filterMap_nil, Option.join_some, Option.join_none, Option.bind_some, Option.map_some, Option.map_none, Bool.and_true, Bool.and_self, Bool.or_false, Bool.false_or, Bool.true_or, Bool.or_true, Bool.not_true, Bool.not_false, true_and, and_true, and_self, or_true, true_or, or_false, false_or, if_true, if_false, Bool.false_eq_true, Bool.true_eq_false, reduceCtorEq, Nat.reduceAdd, Nat.reduceSub, Nat.reduceLT, Int.reduceNeg, Nat.reduceLeDiff, not_true_eq_false, not_false_eq_true, reduceIte, decide_true, decide_false, beq_self_eq_true, ne_eq, atI_0, atI_1, atI_2, atI_3, ↓wd_p9, ↓wd_p12, ↓wd_p15, ↓wd_p18, ↓wd_p20, ↓wd_p30, ixN_30, ixN_31, ixN_32, List.length_map, h']; subst hQ'; try rw [psq_nx])); (try simp only [↓Ws_nil, psq_rt, psq_ex, outW_none, outW_some, wcell, List.getElem?_cons_zero, List.getElem?_cons_succ, Option.join_some, Ow_some, true_and, and_true, and_self]))
def BetweenOk (F : Fn) : Prop := F.ar = 3 ∧ F.io = none ∧ ∀ v l h : Int, F.run [.int v, .int l, .int h] = .ret false (.bl (decide (l ≤ v) && decide (v ≤ h))) .non
theorem ok_between {Γ : Nat → Option Fn} {i : Nat} {F : Fn} (g : Γ i = some F) (h : IsIntOk F) : BetweenOk (mkFn Γ 3 3 none (c_is_between i)) := by
  obtain ⟨a1, b1, r⟩ := h
  refine ⟨rfl, rfl, fun v l h => Wk_run (Wf_mk rfl ?_)⟩
  have e := Wf_ret (r v)
  unfold c_is_between
  by_cases h1 : l ≤ v
  · ((try rw [psq_nx]); (repeat (refine Ws_step fun Q' hQ' => ?_; simp (maxSteps := 1000000) only [cf, co, cb, ↓We_var, ↓We_non, ↓We_bl, ↓We_int, ↓We_str, ↓We_gl, ↓We_bin, ↓We_neg, ↓We_nt, ↓We_and, ↓We_or, ↓We_ite, ↓We_cmp, ↓We_chain, ↓We_tup, ↓We_lst, ↓We_ix, ↓We_sl, ↓We_nopart, ↓We_rvs, ↓We_call, ↓We_callK, ↓We_bi, ↓We_mth, ↓We_isi, ↓We_lc, ↓We_yes, ↓We_val, ↓We_tru, ↓Wes_nil, ↓Wes_cons, ↓Wei_seq, ↓Wei_range1, ↓Wei_range2, ↓Wei_enum, ↓Wei_zip, ↓Ws_pass, ↓Ws_brk, ↓Ws_cont, ↓Ws_nil, ↓Ws_cons, ↓Ws_asg, ↓Ws_par, ↓Ws_unp, ↓Ws_drop, ↓Ws_aug, ↓Ws_setI, ↓Ws_app, ↓Ws_ext, ↓Ws_ret, ↓Ws_retN, ↓Ws_if, ↓Ws_for, ↓Ws_never, ↓Ws_fga, psq_rt, psq_bk, psq_ct, psq_ex, pfg_nx, pfg_ct, pfg_rt, pfg_bk, pfg_ex, Rw_ok, Rw_ex, ↓Rw_bind, ↓Rw_opt, Ow_some, Ow_none, ↓Ow_bind, ↓Ow_map, ↓Ow_ite, Cw_true, Cw_false, Cw_not, callW_G, callG_none, callG_io, callKW_none', okIo_own, okIo_bor, outW_none, outW_some, ↓we_nil, ↓we_cons, ↓we_dt, ↓we_fr, ↓we_slot, ↓wk_nil, ↓wk_cons, ↓wk_dt, ↓wk_fr, ↓wk_slot, ↓wg_dt, ↓wg_fr, ↓wg_slot, ↓wr_nil, ↓wr_cons, wo_own, wc_F, wc_T, ↓wp_nil, ↓wp_cons, wput, wcell, wcl0, wclf, wclo, wmf, wmo, wmb, wwr, wwo, wwb, wfree, wfree0, wfreef, wd_add, wd_adds, wd_addl, wd_addt, wd_sub, wd_mul, wd_repl, wd_rept, wd_div, wd_mod, wd_pow, wd_eq, wd_ne, wd_lt, wd_le, wd_gt, wd_ge, wd_inl, wd_int, wd_nil, wd_nit, wd_is, wd_isn, wd_tn, wd_tb, wd_ti, wd_tl, wd_tt, wd_ixl, wd_ixt, wd_sll, wd_slt, wd_i, wd_b, wd_lenl, wd_lent, wd_sum, wd_min2, wd_max2, wd_all, wd_any, wd_abs, wd_repr, wd_inti, wd_intb, wd_list1, wd_list2, wd_tup1, wd_tup2, wd_asn, wd_ast, wd_as0, wd_as1, wd_itl, wd_itt, wd_dt, wd_fr, wd_slot, wd_bvT, wd_bvF, wd_rv, wd_pn, wd_pvar, wd_pint, wd_pbin, wd_pneg, wd_pbi, wd_pcall, wd_pix, wd_ls, wd_aa, wd_as, wd_frl, wd_fzi, isTyD, isT, D.dt, isNon, permL, initE, wipeE, restE, List.getElem?_cons_zero, List.getElem?_cons_succ, List.getElem?_nil, List.set_cons_zero, List.set_cons_succ, List.length_cons, List.length_nil, List.cons_append, List.nil_append, List.append_nil, List.replicate, List.all_cons, List.all_nil, List.any_cons, List.any_nil, List.filterMap_cons, List.filterMap_nil, Option.join_some, Option.join_none, Option.bind_some, Option.map_some, Option.map_none, Bool.and_true, Bool.and_self, Bool.or_false, Bool.false_or, Bool.true_or, Bool.or_true, Bool.not_true, Bool.not_false, true_and, and_true, and_self, or_true, true_or, or_false, false_or, if_true, if_false, Bool.false_eq_true, Bool.true_eq_false, reduceCtorEq, Nat.reduceAdd, Nat.reduceSub, Nat.reduceLT, Int.reduceNeg, Nat.reduceLeDiff, not_true_eq_false, not_false_eq_true, reduceIte, decide_true, decide_false, beq_self_eq_true, ne_eq, atI_0, atI_1, atI_2, atI_3, ↓wd_p9, ↓wd_p12, ↓wd_p15, ↓wd_p18, ↓wd_p20, ↓wd_p30, ixN_30, ixN_31, ixN_32, g, a1, b1, ↓e, h1]; subst hQ'; try rw [psq_nx])); (try simp only [↓Ws_nil, psq_rt, psq_ex, outW_none, outW_some, wcell, List.getElem?_cons_zero, List.getElem?_cons_succ, Option.join_some, Ow_some, true_and, and_true, and_self]))
    simp [h1]
  · ((try rw [psq_nx]); (repeat (refine Ws_step fun Q' hQ' => ?_; simp (maxSteps := 1000000) only [cf, co, cb, ↓We_var, ↓We_non, ↓We_bl, ↓We_int, ↓We_str, ↓We_gl, ↓We_bin, ↓We_neg, ↓We_nt, ↓We_and, ↓We_or, ↓We_ite, ↓We_cmp, ↓We_chain, ↓We_tup, ↓We_lst, ↓We_ix, ↓We_sl, ↓We_nopart, ↓We_rvs, ↓We_call, ↓We_callK, ↓We_bi, ↓We_mth, ↓We_isi, ↓We_lc, ↓We_yes, ↓We_val, ↓We_tru, ↓Wes_nil, ↓Wes_cons, ↓Wei_seq, ↓Wei_range1, ↓Wei_range2, ↓Wei_enum, ↓Wei_zip, ↓Ws_pass, ↓Ws_brk, ↓Ws_cont, ↓Ws_nil, ↓Ws_cons, ↓Ws_asg, ↓Ws_par, ↓Ws_unp, ↓Ws_drop, ↓Ws_aug, ↓Ws_setI, ↓Ws_app, ↓Ws_ext, ↓Ws_ret, ↓Ws_retN, ↓Ws_if, ↓Ws_for, ↓Ws_never, ↓Ws_fga, psq_rt, psq_bk, psq_ct, psq_ex, pfg_nx, pfg_ct, pfg_rt, pfg_bk, pfg_ex, Rw_ok, Rw_ex, ↓Rw_bind, ↓Rw_opt, Ow_some, Ow_none, ↓Ow_bind, ↓Ow_map, ↓Ow_ite, Cw_true, Cw_false, Cw_not, callW_G, callG_none, callG_io, callKW_none', okIo_own, okIo_bor, outW_none, outW_some, ↓we_nil, ↓we_cons, ↓we_dt, ↓we_fr, ↓we_slot, ↓wk_nil, ↓wk_cons, ↓wk_dt, ↓wk_fr, ↓wk_slot, ↓wg_dt, ↓wg_fr, ↓wg_slot, ↓wr_nil, ↓wr_cons, wo_own, wc_F, wc_T, ↓wp_nil, ↓wp_cons, wput, wcell, wcl0, wclf, wclo, wmf, wmo, wmb, wwr, wwo, wwb, wfree, wfree0, wfreef, wd_add, wd_adds, wd_addl, wd_addt, wd_sub, wd_mul, wd_repl, wd_rept, wd_div, wd_mod, wd_pow, wd_eq, wd_ne, wd_lt, wd_le, wd_gt, wd_ge, wd_inl, wd_int, wd_nil, wd_nit, wd_is, wd_isn, wd_tn, wd_tb, wd_ti, wd_tl, wd_tt, wd_ixl, wd_ixt, wd_sll, wd_slt, wd_i, wd_b, wd_lenl, wd_lent, wd_sum, wd_min2, wd_max2, wd_all, wd_any, wd_abs, wd_repr, wd_inti, wd_intb, wd_list1, wd_list2, wd_tup1, wd_tup2, wd_asn, wd_ast, wd_as0, wd_as1, wd_itl, wd_itt, wd_dt, wd_fr, wd_slot, wd_bvT, wd_bvF, wd_rv, wd_pn, wd_pvar, wd_pint, wd_pbin, wd_pneg, wd_pbi, wd_pcall, wd_pix, wd_ls, wd_aa, wd_as, wd_frl, wd_fzi, isTyD, isT, D.dt, isNon, permL, initE, wipeE, restE, List.getElem?_cons_zero, List.getElem?_cons_succ, List.getElem?_nil, List.set_cons_zero, List.set_cons_succ, List.length_cons, List.length_nil, List.cons_append, List.nil_append, List.append_nil, List.replicate, List.all_cons, List.all_nil, List.any_cons, List.any_nil, List.filterMap_cons, List.filterMap_nil, Option.join_some, Option.join_none, Option.bind_some, Option.map_some, Option.map_none, Bool.and_true, Bool.and_self, Bool.or_false, Bool.false_or, Bool.true_or, Bool.or_true, Bool.not_true, Bool.not_false, true_and, and_true, and_self, or_true, true_or, or_false, false_or, if_true, if_false, Bool.false_eq_true, Bool.true_eq_false, reduceCtorEq, Nat.reduceAdd, Nat.reduceSub, Nat.reduceLT, Int.reduceNeg, Nat.reduceLeDiff, not_true_eq_false, not_false_eq_true, reduceIte, decide_true, decide_false, beq_self_eq_true, ne_eq, atI_0, atI_1, atI_2, atI_3, ↓wd_p9, ↓wd_p12, ↓wd_p15, ↓wd_p18, ↓wd_p20, ↓wd_p30, ixN_30, ixN_31, ixN_32, g, a1, b1, ↓e, h1]; subst hQ'; try rw [psq_nx])); (try simp only [↓Ws_nil, psq_rt, psq_ex, outW_none, outW_some, wcell, List.getElem?_cons_zero, List.getElem?_cons_succ, Option.join_some, Ow_some, true_and, and_true, and_self]))
    simp [h1]
def ReqNumOk (F : Fn) : Prop := F.ar = 1 ∧ F.io = none ∧ ∀ v : Int, 0 ≤ v → F.run [.int v] = .ret false .non .non
theorem ok_reqnum {Γ : Nat → Option Fn} {i : Nat} {F : Fn} (g : Γ i = some F) (h : AtLeastOk F) : ReqNumOk (mkFn Γ 1 1 none (c_require_number i)) := by
  obtain ⟨a1, b1, r⟩ := h
  refine ⟨rfl, rfl, fun v h => Wk_run (Wf_mk rfl ?_)⟩
  have e := Wf_ret (r v 0)
  unfold c_require_number
  ((try rw [psq_nx]); (repeat (refine Ws_step fun Q' hQ' => ?_; simp (maxSteps := 1000000) only [cf, co, cb, ↓We_var, ↓We_non, ↓We_bl, ↓We_int, ↓We_str, ↓We_gl, ↓We_bin, ↓We_neg, ↓We_nt, ↓We_and, ↓We_or, ↓We_ite, ↓We_cmp, ↓We_chain, ↓We_tup, ↓We_lst, ↓We_ix, ↓We_sl, ↓We_nopart, ↓We_rvs, ↓We_call, ↓We_callK, ↓We_bi, ↓We_mth, ↓We_isi, ↓We_lc, ↓We_yes, ↓We_val, ↓We_tru, ↓Wes_nil, ↓Wes_cons, ↓Wei_seq, ↓Wei_range1, ↓Wei_range2, ↓Wei_enum, ↓Wei_zip, ↓Ws_pass, ↓Ws_brk, ↓Ws_cont, ↓Ws_nil, ↓Ws_cons, ↓Ws_asg, ↓Ws_par, ↓Ws_unp, ↓Ws_drop, ↓Ws_aug, ↓Ws_setI, ↓Ws_app, ↓Ws_ext, ↓Ws_ret, ↓Ws_retN, ↓Ws_if, ↓Ws_for, ↓Ws_never, ↓Ws_fga, psq_rt, psq_bk, psq_ct, psq_ex, pfg_nx, pfg_ct, pfg_rt, pfg_bk, pfg_ex, Rw_ok, Rw_ex, ↓Rw_bind, ↓Rw_opt, Ow_some, Ow_none, ↓Ow_bind, ↓Ow_map, ↓Ow_ite, Cw_true, Cw_false, Cw_not, callW_G, callG_none, callG_io, callKW_none', okIo_own, okIo_bor, outW_none, outW_some, ↓we_nil, ↓we_cons, ↓we_dt, ↓we_fr, ↓we_slot, ↓wk_nil, ↓wk_cons, ↓wk_dt, ↓wk_fr, ↓wk_slot, ↓wg_dt, ↓wg_fr, ↓wg_slot, ↓wr_nil, ↓wr_cons, wo_own, wc_F, wc_T, ↓wp_nil, ↓wp_cons, wput, wcell, wcl0, wclf, wclo, wmf, wmo, wmb, wwr, wwo, wwb, wfree, wfree0, wfreef, wd_add, wd_adds, wd_addl, wd_addt, wd_sub, wd_mul, wd_repl, wd_rept, wd_div, wd_mod, wd_pow, wd_eq, wd_ne, wd_lt, wd_le, wd_gt, wd_ge, wd_inl, wd_int, wd_nil, wd_nit, wd_is, wd_isn, wd_tn, wd_tb, wd_ti, wd_tl, wd_tt, wd_ixl, wd_ixt, wd_sll, wd_slt, wd_i, wd_b, wd_lenl, wd_lent, wd_sum, wd_min2, wd_max2, wd_all, wd_any, wd_abs, wd_repr, wd_inti, wd_intb, wd_list1, wd_list2, wd_tup1, wd_tup2, wd_asn, wd_ast, wd_as0, wd_as1, wd_itl, wd_itt, wd_dt, wd_fr, wd_slot, wd_bvT, wd_bvF, wd_rv, wd_pn, wd_pvar, wd_pint, wd_pbin, wd_pneg, wd_pbi, wd_pcall, wd_pix, wd_ls, wd_aa, wd_as, wd_frl, wd_fzi, isTyD, isT, D.dt, isNon, permL, initE, wipeE, restE, List.getElem?_cons_zero, List.getElem?_cons_succ, List.getElem?_nil, List.set_cons_zero, List.set_cons_succ, List.length_cons, List.length_nil, List.cons_append, List.nil_append, List.append_nil, List.replicate, List.all_cons, List.all_nil, List.any_cons, List.any_nil, List.filterMap_cons, List.filterMap_nil, Option.join_some, Option.join_none, Option.bind_some, Option.map_some, Option.map_none, Bool.and_true, Bool.and_self, Bool.or_false, Bool.false_or, Bool.true_or, Bool.or_true, Bool.not_true, Bool.not_false, true_and, and_true, and_self, or_true, true_or, or_false, false_or, if_true, if_false, Bool.false_eq_true, Bool.true_eq_false, reduceCtorEq, Nat.reduceAdd, Nat.reduceSub, Nat.reduceLT, Int.reduceNeg, Nat.reduceLeDiff, not_true_eq_false, not_false_eq_true, reduceIte, decide_true, decide_false, beq_self_eq_true, ne_eq, atI_0, atI_1, atI_2, atI_3, ↓wd_p9, ↓wd_p12, ↓wd_p15, ↓wd_p18, ↓wd_p20, ↓wd_p30, ixN_30, ixN_31, ixN_32, g, a1, b1, ↓e, h]; subst hQ'; try rw [psq_nx])); (try simp only [↓Ws_nil, psq_rt, psq_ex, outW_none, outW_some, wcell, List.getElem?_cons_zero, List.getElem?_cons_succ, Option.join_some, Ow_some, true_and, and_true, and_self]))
def ReqDistOk (F : Fn) : Prop := F.ar = 2 ∧ F.io = none ∧ ∀ (q : Bool) (es : List Nat) (d : Nat), 1 ≤ d → d ≤ es.length → F.run [sqD q es, .int d] = .ret false .non .non
theorem ok_reqdist {Γ : Nat → Option Fn} {i : Nat} {F : Fn} (g : Γ i = some F) (h : BetweenOk F) : ReqDistOk (mkFn Γ 2 2 none (c_require_distance i)) := by
  obtain ⟨a1, b1, r⟩ := h
  refine ⟨rfl, rfl, fun q es d h1 h2 => Wk_run (Wf_mk rfl ?_)⟩
  have e := Wf_ret (r d 1 es.length)
  have h1' : (1 : Int) ≤ d := by omega
  have h2' : (d : Int) ≤ es.length := by omega
  unfold c_require_distance sqD
  cases q
  · ((try rw [psq_nx]); (repeat (refine Ws_step fun Q' hQ' => ?_; simp (maxSteps := 1000000) only [cf, co, cb, ↓We_var, ↓We_non, ↓We_bl, ↓We_int, ↓We_str, ↓We_gl, ↓We_bin, ↓We_neg, ↓We_nt, ↓We_and, ↓We_or, ↓We_ite, ↓We_cmp, ↓We_chain, ↓We_tup, ↓We_lst, ↓We_ix, ↓We_sl, ↓We_nopart, ↓We_rvs, ↓We_call, ↓We_callK, ↓We_bi, ↓We_mth, ↓We_isi, ↓We_lc, ↓We_yes, ↓We_val, ↓We_tru, ↓Wes_nil, ↓Wes_cons, ↓Wei_seq, ↓Wei_range1, ↓Wei_range2, ↓Wei_enum, ↓Wei_zip, ↓Ws_pass, ↓Ws_brk, ↓Ws_cont, ↓Ws_nil, ↓Ws_cons, ↓Ws_asg, ↓Ws_par, ↓Ws_unp, ↓Ws_drop, ↓Ws_aug, ↓Ws_setI, ↓Ws_app, ↓Ws_ext, ↓Ws_ret, ↓Ws_retN, ↓Ws_if, ↓Ws_for, ↓Ws_never, ↓Ws_fga, psq_rt, psq_bk, psq_ct, psq_ex, pfg_nx, pfg_ct, pfg_rt, pfg_bk, pfg_ex, Rw_ok, Rw_ex, ↓Rw_bind, ↓Rw_opt, Ow_some, Ow_none, ↓Ow_bind, ↓Ow_map, ↓Ow_ite, Cw_true, Cw_false, Cw_not, callW_G, callG_none, callG_io, callKW_none', okIo_own, okIo_bor, outW_none, outW_some, ↓we_nil, ↓we_cons, ↓we_dt, ↓we_fr, ↓we_slot, ↓wk_nil, ↓wk_cons, ↓wk_dt, ↓wk_fr, ↓wk_slot, ↓wg_dt, ↓wg_fr, ↓wg_slot, ↓wr_nil, ↓wr_cons, wo_own, wc_F, wc_T, ↓wp_nil, ↓wp_cons, wput, wcell, wcl0, wclf, wclo, wmf, wmo, wmb, wwr, wwo, wwb, wfree, wfree0, wfreef, wd_add, wd_adds, wd_addl, wd_addt, wd_sub, wd_mul, wd_repl, wd_rept, wd_div, wd_mod, wd_pow, wd_eq, wd_ne, wd_lt, wd_le, wd_gt, wd_ge, wd_inl, wd_int, wd_nil, wd_nit, wd_is, wd_isn, wd_tn, wd_tb, wd_ti, wd_tl, wd_tt, wd_ixl, wd_ixt, wd_sll, wd_slt, wd_i, wd_b, wd_lenl, wd_lent, wd_sum, wd_min2, wd_max2, wd_all, wd_any, wd_abs, wd_repr, wd_inti, wd_intb, wd_list1, wd_list2, wd_tup1, wd_tup2, wd_asn, wd_ast, wd_as0, wd_as1, wd_itl, wd_itt, wd_dt, wd_fr, wd_slot, wd_bvT, wd_bvF, wd_rv, wd_pn, wd_pvar, wd_pint, wd_pbin, wd_pneg, wd_pbi, wd_pcall, wd_pix, wd_ls, wd_aa, wd_as, wd_frl, wd_fzi, isTyD, isT, D.dt, isNon, permL, initE, wipeE, restE, List.getElem?_cons_zero, List.getElem?_cons_succ, List.getElem?_nil, List.set_cons_zero, List.set_cons_succ, List.length_cons, List.length_nil, List.cons_append, List.nil_append, List.append_nil, List.replicate, List.all_cons, List.all_nil, List.any_cons, List.any_nil, List.filterMap_cons, List.filterMap_nil, Option.join_some, Option.join_none, Option.bind_some, Option.map_some, Option.map_none, Bool.and_true, Bool.and_self, Bool.or_false, Bool.false_or, Bool.true_or, Bool.or_true, Bool.not_true, Bool.not_false, true_and, and_true, and_self, or_true, true_or, or_false, false_or, if_true, if_false, Bool.false_eq_true, Bool.true_eq_false, reduceCtorEq, Nat.reduceAdd, Nat.reduceSub, Nat.reduceLT, Int.reduceNeg, Nat.reduceLeDiff, not_true_eq_false, not_false_eq_true, reduceIte, decide_true, decide_false, beq_self_eq_true, ne_eq, atI_0, atI_1, atI_2, atI_3, ↓wd_p9, ↓wd_p12, ↓wd_p15, ↓wd_p18, ↓wd_p20, ↓wd_p30, ixN_30, ixN_31, ixN_32, g, a1, b1, nD_length, ↓e, h1', h2']; subst hQ'; try rw [psq_nx])); (try simp only [↓Ws_nil, psq_rt, psq_ex, outW_none, outW_some, wcell, List.getElem?_cons_zero, List.getElem?_cons_succ, Option.join_some, Ow_some, true_and, and_true, and_self]))
  · ((try rw [psq_nx]); (repeat (refine Ws_step fun Q' hQ' => ?_; simp (maxSteps := 1000000) only [cf, co, cb, ↓We_var, ↓We_non, ↓We_bl, ↓We_int, ↓We_str, ↓We_gl, ↓We_bin, ↓We_neg, ↓We_nt, ↓We_and, ↓We_or, ↓We_ite, ↓We_cmp, ↓We_chain, ↓We_tup, ↓We_lst, ↓We_ix, ↓We_sl, ↓We_nopart, ↓We_rvs, ↓We_call, ↓We_callK, ↓We_bi, ↓We_mth, ↓We_isi, ↓We_lc, ↓We_yes, ↓We_val, ↓We_tru, ↓Wes_nil, ↓Wes_cons, ↓Wei_seq, ↓Wei_range1, ↓Wei_range2, ↓Wei_enum, ↓Wei_zip, ↓Ws_pass, ↓Ws_brk, ↓Ws_cont, ↓Ws_nil, ↓Ws_cons, ↓Ws_asg, ↓Ws_par, ↓Ws_unp, ↓Ws_drop, ↓Ws_aug, ↓Ws_setI, ↓Ws_app, ↓Ws_ext, ↓Ws_ret, ↓Ws_retN, ↓Ws_if, ↓Ws_for, ↓Ws_never, ↓Ws_fga, psq_rt, psq_bk, psq_ct, psq_ex, pfg_nx, pfg_ct, pfg_rt, pfg_bk, pfg_ex, Rw_ok, Rw_ex, ↓Rw_bind, ↓Rw_opt, Ow_some, Ow_none, ↓Ow_bind, ↓Ow_map, ↓Ow_ite, Cw_true, Cw_false, Cw_not, callW_G, callG_none, callG_io, callKW_none', okIo_own, okIo_bor, outW_none, outW_some, ↓we_nil, ↓we_cons, ↓we_dt, ↓we_fr, ↓we_slot, ↓wk_nil, ↓wk_cons, ↓wk_dt, ↓wk_fr, ↓wk_slot, ↓wg_dt, ↓wg_fr, ↓wg_slot, ↓wr_nil, ↓wr_cons, wo_own, wc_F, wc_T, ↓wp_nil, ↓wp_cons, wput, wcell, wcl0, wclf, wclo, wmf, wmo, wmb, wwr, wwo, wwb, wfree, wfree0, wfreef, wd_add, wd_adds, wd_addl, wd_addt, wd_sub, wd_mul, wd_repl, wd_rept, wd_div, wd_mod, wd_pow, wd_eq, wd_ne, wd_lt, wd_le, wd_gt, wd_ge, wd_inl, wd_int, wd_nil, wd_nit, wd_is, wd_isn, wd_tn, wd_tb, wd_ti, wd_tl, wd_tt, wd_ixl, wd_ixt, wd_sll, wd_slt, wd_i, wd_b, wd_lenl, wd_lent, wd_sum, wd_min2, wd_max2, wd_all, wd_any, wd_abs, wd_repr, wd_inti, wd_intb, wd_list1, wd_list2, wd_tup1, wd_tup2, wd_asn, wd_ast, wd_as0, wd_as1, wd_itl, wd_itt, wd_dt, wd_fr, wd_slot, wd_bvT, wd_bvF, wd_rv, wd_pn, wd_pvar, wd_pint, wd_pbin, wd_pneg, wd_pbi, wd_pcall, wd_pix, wd_ls, wd_aa, wd_as, wd_frl, wd_fzi, isTyD, isT, D.dt, isNon, permL, initE, wipeE, restE, List.getElem?_cons_zero, List.getElem?_cons_succ, List.getElem?_nil, List.set_cons_zero, List.set_cons_succ, List.length_cons, List.length_nil, List.cons_append, List.nil_append, List.append_nil, List.replicate, List.all_cons, List.all_nil, List.any_cons, List.any_nil, List.filterMap_cons, List.filterMap_nil, Option.join_some, Option.join_none, Option.bind_some, Option.map_some, Option.map_none, Bool.and_true, Bool.and_self, Bool.or_false, Bool.false_or, Bool.true_or, Bool.or_true, Bool.not_true, Bool.not_false, true_and, and_true, and_self, or_true, true_or, or_false, false_or, if_true, if_false, Bool.false_eq_true, Bool.true_eq_false, reduceCtorEq, Nat.reduceAdd, Nat.reduceSub, Nat.reduceLT, Int.reduceNeg, Nat.reduceLeDiff, not_true_eq_false, not_false_eq_true, reduceIte, decide_true, decide_false, beq_self_eq_true, ne_eq, atI_0, atI_1, atI_2, atI_3, ↓wd_p9, ↓wd_p12, ↓wd_p15, ↓wd_p18, ↓wd_p20, ↓wd_p30, ixN_30, ixN_31, ixN_32, g, a1, b1, nD_length, ↓e, h1', h2']; subst hQ'; try rw [psq_nx])); (try simp only [↓Ws_nil, psq_rt, psq_ex, outW_none, outW_some, wcell, List.getElem?_cons_zero, List.getElem?_cons_succ, Option.join_some, Ow_some, true_and, and_true, and_self]))
/-- the weight of one climber -/
abbrev UN (es : List Nat) (d : Nat) : Nat := PD es / pp es d
def UnitOk (F : Fn) : Prop := F.ar = 2 ∧ F.io = none ∧ ∀ (q : Bool) (es : List Nat) (d : Nat), Good1 es → d ≤ es.length → F.run [sqD q es, .int d] = .ret false (.int (UN es d : Nat)) .non
theorem pref_at {es : List Nat} {d : Nat} (h : d ≤ es.length) : L2.atI (nD (pref es es.length)) (d : Int) = some (.int (pp es d : Nat)) := by
  apply atI_natS
  unfold nD pref
  rw [List.getElem?_map, List.getElem?_map, List.getElem?_range (by omega)]
  rfl
theorem PD_eq (es : List Nat) : PD es = pp es es.length := by rw [PD, pd_eq, Nat.one_mul]
theorem pref_lastI (es : List Nat) : L2.atI (nD (pref es es.length)) (-1) = some (.int (PD es : Nat)) := by
  have := pref_last es es.length
  rw [← PD_eq] at this
  exact this
theorem ok_unit {Γ : Nat → Option Fn} {i : Nat} {F : Fn} (g : Γ i = some F) (h : ProdOk F) : UnitOk (mkFn Γ 2 3 none (c_unit_of i)) := by
  obtain ⟨a1, b1, r⟩ := h
  refine ⟨rfl, rfl, fun q es d ge hd => Wk_run (Wf_mk rfl ?_)⟩
  have e := Wf_ret (r q es ge)
  have p1 := pref_at hd
  have p2 := pref_lastI es
  have d1 := divOk_nat (pp_pos ge.ge d) (Nat.lt_of_lt_of_le (pp_small ge hd) (Nat.pow_le_pow_right (by decide) (by decide)))
  generalize sqD q es = S0 at *
  unfold c_unit_of
  ((try rw [psq_nx]); (repeat (refine Ws_step fun Q' hQ' => ?_; simp (maxSteps := 1000000) only [cf, co, cb, ↓We_var, ↓We_non, ↓We_bl, ↓We_int, ↓We_str, ↓We_gl, ↓We_bin, ↓We_neg, ↓We_nt, ↓We_and, ↓We_or, ↓We_ite, ↓We_cmp, ↓We_chain, ↓We_tup, ↓We_lst, ↓We_ix, ↓We_sl, ↓We_nopart, ↓We_rvs, ↓We_call, ↓We_callK, ↓We_bi, ↓We_mth, ↓We_isi, ↓We_lc, ↓We_yes, ↓We_val, ↓We_tru, ↓Wes_nil, ↓Wes_cons, ↓Wei_seq, ↓Wei_range1, ↓Wei_range2, ↓Wei_enum, ↓Wei_zip, ↓Ws_pass, ↓Ws_brk, ↓Ws_cont, ↓Ws_nil, ↓Ws_cons, ↓Ws_asg, ↓Ws_par, ↓Ws_unp, ↓Ws_drop, ↓Ws_aug, ↓Ws_setI, ↓Ws_app, ↓Ws_ext, ↓Ws_ret, ↓Ws_retN, ↓Ws_if, ↓Ws_for, ↓Ws_never, ↓Ws_fga, psq_rt, psq_bk, psq_ct, psq_ex, pfg_nx, pfg_ct, pfg_rt, pfg_bk, pfg_ex, Rw_ok, Rw_ex, ↓Rw_bind, ↓Rw_opt, Ow_some, Ow_none, ↓Ow_bind, ↓Ow_map, ↓Ow_ite, Cw_true, Cw_false, Cw_not, callW_G, callG_none, callG_io, callKW_none', okIo_own, okIo_bor, outW_none, outW_some, ↓we_nil, ↓we_cons, ↓we_dt, ↓we_fr, ↓we_slot, ↓wk_nil, ↓wk_cons, ↓wk_dt, ↓wk_fr, ↓wk_slot, ↓wg_dt, ↓wg_fr, ↓wg_slot, ↓wr_nil, ↓wr_cons, wo_own, wc_F, wc_T, ↓wp_nil, ↓wp_cons, wput, wcell, wcl0, wclf, wclo, wmf, wmo, wmb, wwr, wwo, wwb, wfree, wfree0, wfreef, wd_add, wd_adds, wd_addl, wd_addt, wd_sub, wd_mul, wd_repl, wd_rept, wd_div, wd_mod, wd_pow, wd_eq, wd_ne, wd_lt, wd_le, wd_gt, wd_ge, wd_inl, wd_int, wd_nil, wd_nit, wd_is, wd_isn, wd_tn, wd_tb, wd_ti, wd_tl, wd_tt, wd_ixl, wd_ixt, wd_sll, wd_slt, wd_i, wd_b, wd_lenl, wd_lent, wd_sum, wd_min2, wd_max2, wd_all, wd_any, wd_abs, wd_repr, wd_inti, wd_intb, wd_list1, wd_list2, wd_tup1, wd_tup2, wd_asn, wd_ast, wd_as0, wd_as1, wd_itl, wd_itt, wd_dt, wd_fr, wd_slot, wd_bvT, wd_bvF, wd_rv, wd_pn, wd_pvar, wd_pint, wd_pbin, wd_pneg, wd_pbi, wd_pcall, wd_pix, wd_ls, wd_aa, wd_as, wd_frl, wd_fzi, isTyD, isT, D.dt, isNon, permL, initE, wipeE, restE, List.getElem?_cons_zero, List.getElem?_cons_succ, List.getElem?_nil, List.set_cons_zero, List.set_cons_succ, List.length_cons, List.length_nil, List.cons_append, List.nil_append, List.append_nil, List.replicate, List.all_cons, List.all_nil, List.any_cons, List.any_nil, List.filterMap_cons, List.filterMap_nil, Option.join_some, Option.join_none, Option.bind_some, Option.map_some, Option.map_none, Bool.and_true, Bool.and_self, Bool.or_false, Bool.false_or, Bool.true_or, Bool.or_true, Bool.not_true, Bool.not_false, true_and, and_true, and_self, or_true, true_or, or_false, false_or, if_true, if_false, Bool.false_eq_true, Bool.true_eq_false, reduceCtorEq, Nat.reduceAdd, Nat.reduceSub, Nat.reduceLT, Int.reduceNeg, Nat.reduceLeDiff, not_true_eq_false, not_false_eq_true, reduceIte, decide_true, decide_false, beq_self_eq_true, ne_eq, atI_0, atI_1, atI_2, atI_3, ↓wd_p9, ↓wd_p12, ↓wd_p15, ↓wd_p18, ↓wd_p20, ↓wd_p30, ixN_30, ixN_31, ixN_32, g, a1, b1, ↓e, p1, p2, d1]; subst hQ'; try rw [psq_nx])); (try simp only [↓Ws_nil, psq_rt, psq_ex, outW_none, outW_some, wcell, List.getElem?_cons_zero, List.getElem?_cons_succ, Option.join_some, Ow_some, true_and, and_true, and_self]))
  simp
end Lw


set_option Elab.async false
set_option linter.all false
set_option maxRecDepth 100000
namespace Lw
open PySem PySem.Spec PyProof.Rows L2 T
def c_climbers_needed (i_rounded_up : Nat) (i_unit_of : Nat) (i_products : Nat) (i_scaled_weight : Nat) (i_require_number : Nat) (i_require_distance : Nat) (i_require_counts : Nat) (i_require_schedule : Nat) : S := .cons (.drop (.call i_require_schedule (.cons (.var 0) (.nil)))) (.cons (.drop (.call i_require_counts (.cons (.var 1) (.nil)))) (.cons (.drop (.call i_require_distance (.cons (.var 0) (.cons (.var 2) (.nil))))) (.cons (.drop (.call i_require_number (.cons (.var 3) (.nil)))) (.cons (.asg 4 (.bin .sub (.bin .mul (.var 3) (.ix (.call i_products (.cons (.var 0) (.nil))) (.neg (.int 1)))) (.call i_scaled_weight (.cons (.var 0) (.cons (.var 1) (.nil)))))) (.cons (.ret (.bi .max2 (.cons (.int 0) (.cons (.call i_rounded_up (.cons (.var 4) (.cons (.call i_unit_of (.cons (.var 0) (.cons (.var 2) (.nil)))) (.nil)))) (.nil))))) (.nil))))))
def c_climbers_allowed (i_unit_of : Nat) (i_products : Nat) (i_scaled_weight : Nat) (i_require_number : Nat) (i_require_distance : Nat) (i_require_counts : Nat) (i_require_schedule : Nat) : S := .cons (.drop (.call i_require_schedule (.cons (.var 0) (.nil)))) (.cons (.drop (.call i_require_counts (.cons (.var 1) (.nil)))) (.cons (.drop (.call i_require_distance (.cons (.var 0) (.cons (.var 2) (.nil))))) (.cons (.drop (.call i_require_number (.cons (.var 3) (.nil)))) (.cons (.asg 4 (.bin .sub (.bin .mul (.var 3) (.ix (.call i_products (.cons (.var 0) (.nil))) (.neg (.int 1)))) (.call i_scaled_weight (.cons (.var 0) (.cons (.var 1) (.nil)))))) (.cons (.ret (.ite (.cmp .lt (.var 4) (.int 0)) (.non) (.bin .div (.var 4) (.call i_unit_of (.cons (.var 0) (.cons (.var 2) (.nil))))))) (.nil))))))
def c_climbers_to_spare (i_unit_of : Nat) (i_scaled_weight : Nat) (i_products : Nat) (i_require_distance : Nat) (i_require_counts : Nat) (i_require_schedule : Nat) : S := .cons (.drop (.call i_require_schedule (.cons (.var 0) (.nil)))) (.cons (.drop (.call i_require_counts (.cons (.var 1) (.nil)))) (.cons (.drop (.call i_require_distance (.cons (.var 0) (.cons (.var 2) (.nil))))) (.cons (.asg 3 (.ite (.cmp .le (.var 2) (.bi .len (.cons (.var 1) (.nil)))) (.ix (.var 1) (.bin .sub (.var 2) (.int 1))) (.int 0))) (.cons (.asg 4 (.bin .mod (.call i_scaled_weight (.cons (.var 0) (.cons (.var 1) (.nil)))) (.ix (.call i_products (.cons (.var 0) (.nil))) (.neg (.int 1))))) (.cons (.ret (.bi .min2 (.cons (.var 3) (.cons (.bin .div (.var 4) (.call i_unit_of (.cons (.var 0) (.cons (.var 2) (.nil))))) (.nil))))) (.nil))))))
end Lw

set_option Elab.async false
set_option linter.all false
set_option maxRecDepth 100000
set_option maxHeartbeats 1000000
namespace Lw
open PySem PySem.Spec PyProof.Rows L2 T
theorem UN_pos {es : List Nat} (g : Good1 es) {d : Nat} (hd : d ≤ es.length) : 0 < UN es d := Nat.div_pos (by rw [PD_eq]; exact pp_le g.ge hd) (pp_pos g.ge d)
theorem UN_le (es : List Nat) (d : Nat) : UN es d ≤ PD es := Nat.div_le_self _ _
theorem UN_lt {es : List Nat} (g : Good1 es) (d : Nat) : UN es d < 2 ^ 8900 := Nat.lt_of_le_of_lt (UN_le es d) (pd_lt g)
theorem p9000 {x : Nat} (h : x < 2 ^ 8900) : x < 2 ^ 9000 := Nat.lt_of_lt_of_le h (Nat.pow_le_pow_right (by decide) (by decide))
def ndI (es cs : List Nat) (d N : Nat) : Int := if -(-((N : Int) * (PD es : Nat) - (SW es cs : Nat)) / (UN es d : Nat)) > 0 then -(-((N : Int) * (PD es : Nat) - (SW es cs : Nat)) / (UN es d : Nat)) else 0
def NeededOk (F : Fn) : Prop := F.ar = 4 ∧ F.io = none ∧ ∀ (q : Bool) (es cs : List Nat) (d N : Nat), Good1 es → Good2 cs → 1 ≤ d → d ≤ es.length → N < 2 ^ 1000000 → F.run [sqD q es, .tup (nD cs), .int d, .int N] = .ret false (.int (ndI es cs d N)) .non
theorem mulNP {es : List Nat} (g : Good1 es) {N : Nat} (h : N < 2 ^ 1000000) : mulOk (N : Int) (PD es : Nat) = true := mulOk_wide 1000000 8900 (by rw [Int.natAbs_natCast]; exact h) (by rw [Int.natAbs_natCast]; exact pd_lt g) (by decide) (by decide) (by decide)
theorem ok_needed {Γ : Nat → Option Fn} {i1 i2 i3 i4 i5 i6 i7 i8 : Nat} {F1 F2 F3 F4 F5 F6 F7 F8 : Fn} (g1 : Γ i1 = some F1) (g2 : Γ i2 = some F2) (g3 : Γ i3 = some F3) (g4 : Γ i4 = some F4) (g5 : Γ i5 = some F5) (g6 : Γ i6 = some F6) (g7 : Γ i7 = some F7) (g8 : Γ i8 = some F8)
    (h1 : RUpOk F1) (h2 : UnitOk F2) (h3 : ProdOk F3) (h4 : ScaledOk F4) (h5 : ReqNumOk F5) (h6 : ReqDistOk F6) (h7 : ReqCountsOk F7) (h8 : ReqSchedOk F8) : NeededOk (mkFn Γ 4 5 none (c_climbers_needed i1 i2 i3 i4 i5 i6 i7 i8)) := by
  obtain ⟨a1, b1, r1⟩ := h1
  obtain ⟨a2, b2, r2⟩ := h2
  obtain ⟨a3, b3, r3⟩ := h3
  obtain ⟨a4, b4, r4⟩ := h4
  obtain ⟨a5, b5, r5⟩ := h5
  obtain ⟨a6, b6, r6⟩ := h6
  obtain ⟨a7, b7, r7⟩ := h7
  obtain ⟨a8, b8, r8⟩ := h8
  refine ⟨rfl, rfl, fun q es cs d N g hc d1 d2 hN => Wk_run (Wf_mk rfl ?_)⟩
  have e8 := Wf_ret (r8 q es g.ge g.len)
  have e7 := Wf_ret (r7 cs hc.len)
  have e6 := Wf_ret (r6 q es d d1 d2)
  have e5 := Wf_ret (r5 N (by omega))
  have e4 := Wf_ret (r4 q es cs g hc.lt hc.len)
  have e3 := Wf_ret (r3 q es g)
  have e2 := Wf_ret (r2 q es d g d2)
  have e1 := Wf_ret (r1 ((N : Int) * (PD es : Nat) - (SW es cs : Nat)) (UN es d) (UN_pos g d2) (p9000 (UN_lt g d)))
  have hl := pref_lastI es
  have m := mulNP g hN
  unfold ndI
  generalize sqD q es = S0 at *
  generalize D.tup (nD cs) = C0 at *
  generalize nD (pref es es.length) = L at *
  unfold c_climbers_needed
  ((try rw [psq_nx]); (repeat (refine Ws_step fun Q' hQ' => ?_; simp (maxSteps := 1000000) only [cf, co, cb, ↓We_var, ↓We_non, ↓We_bl, ↓We_int, ↓We_str, ↓We_gl, ↓We_bin, ↓We_neg, ↓We_nt, ↓We_and, ↓We_or, ↓We_ite, ↓We_cmp, ↓We_chain, ↓We_tup, ↓We_lst, ↓We_ix, ↓We_sl, ↓We_nopart, ↓We_rvs, ↓We_call, ↓We_callK, ↓We_bi, ↓We_mth, ↓We_isi, ↓We_lc, ↓We_yes, ↓We_val, ↓We_tru, ↓Wes_nil, ↓Wes_cons, ↓Wei_seq, ↓Wei_range1, ↓Wei_range2, ↓Wei_enum, ↓Wei_zip, ↓Ws_pass, ↓Ws_brk, ↓Ws_cont, ↓Ws_nil, ↓Ws_cons, ↓Ws_asg, ↓Ws_par, ↓Ws_unp, ↓Ws_drop, ↓Ws_aug, ↓Ws_setI, ↓Ws_app, ↓Ws_ext, ↓Ws_ret, ↓Ws_retN, ↓Ws_if, ↓Ws_for, ↓Ws_never, ↓Ws_fga, psq_rt, psq_bk, psq_ct, psq_ex, pfg_nx, pfg_ct, pfg_rt, pfg_bk, pfg_ex, Rw_ok, Rw_ex, ↓Rw_bind, ↓Rw_opt, Ow_some, Ow_none, ↓Ow_bind, ↓Ow_map, ↓Ow_ite, Cw_true, Cw_false, Cw_not, callW_G, callG_none, callG_io, callKW_none', okIo_own, okIo_bor, outW_none, outW_some, ↓we_nil, ↓we_cons, ↓we_dt, ↓we_fr, ↓we_slot, ↓wk_nil, ↓wk_cons, ↓wk_dt, ↓wk_fr, ↓wk_slot, ↓wg_dt, ↓wg_fr, ↓wg_slot, ↓wr_nil, ↓wr_cons, wo_own, wc_F, wc_T, ↓wp_nil, ↓wp_cons, wput, wcell, wcl0, wclf, wclo, wmf, wmo, wmb, wwr, wwo, wwb, wfree, wfree0, wfreef, wd_add, wd_adds, wd_addl, wd_addt, wd_sub, wd_mul, wd_repl, wd_rept, wd_div, wd_mod, wd_pow, wd_eq, wd_ne, wd_lt, wd_le, wd_gt, wd_ge, wd_inl, wd_int, wd_nil, wd_nit, wd_is, wd_isn, wd_tn, wd_tb, wd_ti, wd_tl, wd_tt, wd_ixl, wd_ixt, wd_sll, wd_slt, wd_i, wd_b, wd_lenl, wd_lent, wd_sum, wd_min2, wd_max2, wd_all, wd_any, wd_abs, wd_repr, wd_inti, wd_intb, wd_list1, wd_list2, wd_tup1, wd_tup2, wd_asn, wd_ast, wd_as0, wd_as1, wd_itl, wd_itt, wd_dt, wd_fr, wd_slot, wd_bvT, wd_bvF, wd_rv, wd_pn, wd_pvar, wd_pint, wd_pbin, wd_pneg, wd_pbi, wd_pcall, wd_pix, wd_ls, wd_aa, wd_as, wd_frl, wd_fzi, isTyD, isT, D.dt, isNon, permL, initE, wipeE, restE, List.getElem?_cons_zero, List.getElem?_cons_succ, List.getElem?_nil, List.set_cons_zero, List.set_cons_succ, List.length_cons, List.length_nil, List.cons_append, List.nil_append, List.append_nil, List.replicate, List.all_cons, List.all_nil, List.any_cons, List.any_nil, List.filterMap_cons, List.filterMap_nil, Option.join_some, Option.join_none, Option.bind_some, Option.map_some, Option.map_none, Bool.and_true, Bool.and_self, Bool.or_false, Bool.false_or, Bool.true_or, Bool.or_true, Bool.not_true, Bool.not_false, true_and, and_true, and_self, or_true, true_or, or_false, false_or, if_true, if_false, Bool.false_eq_true, Bool.true_eq_false, reduceCtorEq, Nat.reduceAdd, Nat.reduceSub, Nat.reduceLT, Int.reduceNeg, Nat.reduceLeDiff, not_true_eq_false, not_false_eq_true, reduceIte, decide_true, decide_false, beq_self_eq_true, ne_eq, atI_0, atI_1, atI_2, atI_3, ↓wd_p9, ↓wd_p12, ↓wd_p15, ↓wd_p18, ↓wd_p20, ↓wd_p30, ixN_30, ixN_31, ixN_32, ↓e1, ↓e2, ↓e3, ↓e4, ↓e5, ↓e6, ↓e7, ↓e8, g1, g2, g3, g4, g5, g6, g7, g8, a1, a2, a3, a4, a5, a6, a7, a8, b1, b2, b3, b4, b5, b6, b7, b8, hl, m]; subst hQ'; try rw [psq_nx])); (try simp only [↓Ws_nil, psq_rt, psq_ex, outW_none, outW_some, wcell, List.getElem?_cons_zero, List.getElem?_cons_succ, Option.join_some, Ow_some, true_and, and_true, and_self]))
def alD (es cs : List Nat) (d N : Nat) : D := if (N : Int) * (PD es : Nat) - (SW es cs : Nat) < 0 then .non else .int (((N : Int) * (PD es : Nat) - (SW es cs : Nat)) / (UN es d : Nat))
def AllowedOk (F : Fn) : Prop := F.ar = 4 ∧ F.io = none ∧ ∀ (q : Bool) (es cs : List Nat) (d N : Nat), Good1 es → Good2 cs → 1 ≤ d → d ≤ es.length → N < 2 ^ 1000000 → F.run [sqD q es, .tup (nD cs), .int d, .int N] = .ret false (alD es cs d N) .non
theorem ok_allowed {Γ : Nat → Option Fn} {i2 i3 i4 i5 i6 i7 i8 : Nat} {F2 F3 F4 F5 F6 F7 F8 : Fn} (g2 : Γ i2 = some F2) (g3 : Γ i3 = some F3) (g4 : Γ i4 = some F4) (g5 : Γ i5 = some F5) (g6 : Γ i6 = some F6) (g7 : Γ i7 = some F7) (g8 : Γ i8 = some F8)
    (h2 : UnitOk F2) (h3 : ProdOk F3) (h4 : ScaledOk F4) (h5 : ReqNumOk F5) (h6 : ReqDistOk F6) (h7 : ReqCountsOk F7) (h8 : ReqSchedOk F8) : AllowedOk (mkFn Γ 4 5 none (c_climbers_allowed i2 i3 i4 i5 i6 i7 i8)) := by
  obtain ⟨a2, b2, r2⟩ := h2
  obtain ⟨a3, b3, r3⟩ := h3
  obtain ⟨a4, b4, r4⟩ := h4
  obtain ⟨a5, b5, r5⟩ := h5
  obtain ⟨a6, b6, r6⟩ := h6
  obtain ⟨a7, b7, r7⟩ := h7
  obtain ⟨a8, b8, r8⟩ := h8
  refine ⟨rfl, rfl, fun q es cs d N g hc d1 d2 hN => Wk_run (Wf_mk rfl ?_)⟩
  have e8 := Wf_ret (r8 q es g.ge g.len)
  have e7 := Wf_ret (r7 cs hc.len)
  have e6 := Wf_ret (r6 q es d d1 d2)
  have e5 := Wf_ret (r5 N (by omega))
  have e4 := Wf_ret (r4 q es cs g hc.lt hc.len)
  have e3 := Wf_ret (r3 q es g)
  have e2 := Wf_ret (r2 q es d g d2)
  have hl := pref_lastI es
  have m := mulNP g hN
  have dv := divOk_nat (UN_pos g d2) (p9000 (UN_lt g d))
  unfold alD
  generalize sqD q es = S0 at *
  generalize D.tup (nD cs) = C0 at *
  generalize nD (pref es es.length) = L at *
  unfold c_climbers_allowed
  by_cases hr : (N : Int) * (PD es : Nat) - (SW es cs : Nat) < 0
  · ((try rw [psq_nx]); (repeat (refine Ws_step fun Q' hQ' => ?_; simp (maxSteps := 1000000) only [cf, co, cb, ↓We_var, ↓We_non, ↓We_bl, ↓We_int, ↓We_str, ↓We_gl, ↓We_bin, ↓We_neg, ↓We_nt, ↓We_and, ↓We_or, ↓We_ite, ↓We_cmp, ↓We_chain, ↓We_tup, ↓We_lst, ↓We_ix, ↓We_sl, ↓We_nopart, ↓We_rvs, ↓We_call, ↓We_callK, ↓We_bi, ↓We_mth, ↓We_isi, ↓We_lc, ↓We_yes, ↓We_val, ↓We_tru, ↓Wes_nil, ↓Wes_cons, ↓Wei_seq, ↓Wei_range1, ↓Wei_range2, ↓Wei_enum, ↓Wei_zip, ↓Ws_pass, ↓Ws_brk, ↓Ws_cont, ↓Ws_nil, ↓Ws_cons, ↓Ws_asg, ↓Ws_par, ↓Ws_unp, ↓Ws_drop, ↓Ws_aug, ↓Ws_setI, ↓Ws_app, ↓Ws_ext, ↓Ws_ret, ↓Ws_retN, ↓Ws_if, ↓Ws_for, ↓Ws_never, ↓Ws_fga, psq_rt, psq_bk, psq_ct, psq_ex, pfg_nx, pfg_ct, pfg_rt, pfg_bk, pfg_ex, Rw_ok, Rw_ex, ↓Rw_bind, ↓Rw_opt, Ow_some, Ow_none, ↓Ow_bind, ↓Ow_map, ↓Ow_ite, Cw_true, Cw_false, Cw_not, callW_G, callG_none, callG_io, callKW_none', okIo_own, okIo_bor, outW_none, outW_some, ↓we_nil, ↓we_cons, ↓we_dt, ↓we_fr, ↓we_slot, ↓wk_nil, ↓wk_cons, ↓wk_dt, ↓wk_fr, ↓wk_slot, ↓wg_dt, ↓wg_fr, ↓wg_slot, ↓wr_nil, ↓wr_cons, wo_own, wc_F, wc_T, ↓wp_nil, ↓wp_cons, wput, wcell, wcl0, wclf, wclo, wmf, wmo, wmb, wwr, wwo, wwb, wfree, wfree0, wfreef, wd_add, wd_adds, wd_addl, wd_addt, wd_sub, wd_mul, wd_repl, wd_rept, wd_div, wd_mod, wd_pow, wd_eq, wd_ne, wd_lt, wd_le, wd_gt, wd_ge, wd_inl, wd_int, wd_nil, wd_nit, wd_is, wd_isn, wd_tn, wd_tb, wd_ti, wd_tl, wd_tt, wd_ixl, wd_ixt, wd_sll, wd_slt, wd_i, wd_b, wd_lenl, wd_lent, wd_sum, wd_min2, wd_max2, wd_all, wd_any, wd_abs, wd_repr, wd_inti, wd_intb, wd_list1, wd_list2, wd_tup1, wd_tup2, wd_asn, wd_ast, wd_as0, wd_as1, wd_itl, wd_itt, wd_dt, wd_fr, wd_slot, wd_bvT, wd_bvF, wd_rv, wd_pn, wd_pvar, wd_pint, wd_pbin, wd_pneg, wd_pbi, wd_pcall, wd_pix, wd_ls, wd_aa, wd_as, wd_frl, wd_fzi, isTyD, isT, D.dt, isNon, permL, initE, wipeE, restE, List.getElem?_cons_zero, List.getElem?_cons_succ, List.getElem?_nil, List.set_cons_zero, List.set_cons_succ, List.length_cons, List.length_nil, List.cons_append, List.nil_append, List.append_nil, List.replicate, List.all_cons, List.all_nil, List.any_cons, List.any_nil, List.filterMap_cons, List.filterMap_nil, Option.join_some, Option.join_none, Option.bind_some, Option.map_some, Option.map_none, Bool.and_true, Bool.and_self, Bool.or_false, Bool.false_or, Bool.true_or, Bool.or_true, Bool.not_true, Bool.not_false, true_and, and_true, and_self, or_true, true_or, or_false, false_or, if_true, if_false, Bool.false_eq_true, Bool.true_eq_false, reduceCtorEq, Nat.reduceAdd, Nat.reduceSub, Nat.reduceLT, Int.reduceNeg, Nat.reduceLeDiff, not_true_eq_false, not_false_eq_true, reduceIte, decide_true, decide_false, beq_self_eq_true, ne_eq, atI_0, atI_1, atI_2, atI_3, ↓wd_p9, ↓wd_p12, ↓wd_p15, ↓wd_p18, ↓wd_p20, ↓wd_p30, ixN_30, ixN_31, ixN_32, ↓e2, ↓e3, ↓e4, ↓e5, ↓e6, ↓e7, ↓e8, g2, g3, g4, g5, g6, g7, g8, a2, a3, a4, a5, a6, a7, a8, b2, b3, b4, b5, b6, b7, b8, hl, m, hr]; subst hQ'; try rw [psq_nx])); (try simp only [↓Ws_nil, psq_rt, psq_ex, outW_none, outW_some, wcell, List.getElem?_cons_zero, List.getElem?_cons_succ, Option.join_some, Ow_some, true_and, and_true, and_self]))
    simp [hr]
  · ((try rw [psq_nx]); (repeat (refine Ws_step fun Q' hQ' => ?_; simp (maxSteps := 1000000) only [cf, co, cb, ↓We_var, ↓We_non, ↓We_bl, ↓We_int, ↓We_str, ↓We_gl, ↓We_bin, ↓We_neg, ↓We_nt, ↓We_and, ↓We_or, ↓We_ite, ↓We_cmp, ↓We_chain, ↓We_tup, ↓We_lst, ↓We_ix, ↓We_sl, ↓We_nopart, ↓We_rvs, ↓We_call, ↓We_callK, ↓We_bi, ↓We_mth, ↓We_isi, ↓We_lc, ↓We_yes, ↓We_val, ↓We_tru, ↓Wes_nil, ↓Wes_cons, ↓Wei_seq, ↓Wei_range1, ↓Wei_range2, ↓Wei_enum, ↓Wei_zip, ↓Ws_pass, ↓Ws_brk, ↓Ws_cont, ↓Ws_nil, ↓Ws_cons, ↓Ws_asg, ↓Ws_par, ↓Ws_unp, ↓Ws_drop, ↓Ws_aug, ↓Ws_setI, ↓Ws_app, ↓Ws_ext, ↓Ws_ret, ↓Ws_retN, ↓Ws_if, ↓Ws_for, ↓Ws_never, ↓Ws_fga, psq_rt, psq_bk, psq_ct, psq_ex, pfg_nx, pfg_ct, pfg_rt, pfg_bk, pfg_ex, Rw_ok, Rw_ex, ↓Rw_bind, ↓Rw_opt, Ow_some, Ow_none, ↓Ow_bind, ↓Ow_map, ↓Ow_ite, Cw_true, Cw_false, Cw_not, callW_G, callG_none, callG_io, callKW_none', okIo_own, okIo_bor, outW_none, outW_some, ↓we_nil, ↓we_cons, ↓we_dt, ↓we_fr, ↓we_slot, ↓wk_nil, ↓wk_cons, ↓wk_dt, ↓wk_fr, ↓wk_slot, ↓wg_dt, ↓wg_fr, ↓wg_slot, ↓wr_nil, ↓wr_cons, wo_own, wc_F, wc_T, ↓wp_nil, ↓wp_cons, wput, wcell, wcl0, wclf, wclo, wmf, wmo, wmb, wwr, wwo, wwb, wfree, wfree0, wfreef, wd_add, wd_adds, wd_addl, wd_addt, wd_sub, wd_mul, wd_repl, wd_rept, wd_div, wd_mod, wd_pow, wd_eq, wd_ne, wd_lt, wd_le, wd_gt, wd_ge, wd_inl, wd_int, wd_nil, wd_nit, wd_is, wd_isn, wd_tn, wd_tb, wd_ti, wd_tl, wd_tt, wd_ixl, wd_ixt, wd_sll, wd_slt, wd_i, wd_b, wd_lenl, wd_lent, wd_sum, wd_min2, wd_max2, wd_all, wd_any, wd_abs, wd_repr, wd_inti, wd_intb, wd_list1, wd_list2, wd_tup1, wd_tup2, wd_asn, wd_ast, wd_as0, wd_as1, wd_itl, wd_itt, wd_dt, wd_fr, wd_slot, wd_bvT, wd_bvF, wd_rv, wd_pn, wd_pvar, wd_pint, wd_pbin, wd_pneg, wd_pbi, wd_pcall, wd_pix, wd_ls, wd_aa, wd_as, wd_frl, wd_fzi, isTyD, isT, D.dt, isNon, permL, initE, wipeE, restE, List.getElem?_cons_zero, List.getElem?_cons_succ, List.getElem?_nil, List.set_cons_zero, List.set_cons_succ, List.length_cons, List.length_nil, List.cons_append, List.nil_append, List.append_nil, List.replicate, List.all_cons, List.all_nil, List.any_cons, List.any_nil, List.filterMap_cons, List.filterMap_nil, Option.join_some, Option.join_none, Option.bind_some, Option.map_some, Option.map_none, Bool.and_true, Bool.and_self, Bool.or_false, Bool.false_or, Bool.true_or, Bool.or_true, Bool.not_true, Bool.not_false, true_and, and_true, and_self, or_true, true_or, or_false, false_or, if_true, if_false, Bool.false_eq_true, Bool.true_eq_false, reduceCtorEq, Nat.reduceAdd, Nat.reduceSub, Nat.reduceLT, Int.reduceNeg, Nat.reduceLeDiff, not_true_eq_false, not_false_eq_true, reduceIte, decide_true, decide_false, beq_self_eq_true, ne_eq, atI_0, atI_1, atI_2, atI_3, ↓wd_p9, ↓wd_p12, ↓wd_p15, ↓wd_p18, ↓wd_p20, ↓wd_p30, ixN_30, ixN_31, ixN_32, ↓e2, ↓e3, ↓e4, ↓e5, ↓e6, ↓e7, ↓e8, g2, g3, g4, g5, g6, g7, g8, a2, a3, a4, a5, a6, a7, a8, b2, b3, b4, b5, b6, b7, b8, hl, m, hr, dv]; subst hQ'; try rw [psq_nx])); (try simp only [↓Ws_nil, psq_rt, psq_ex, outW_none, outW_some, wcell, List.getElem?_cons_zero, List.getElem?_cons_succ, Option.join_some, Ow_some, true_and, and_true, and_self]))
    simp [hr]
def spI (es cs : List Nat) (d : Nat) : Int := if ((SW es cs : Nat) : Int) % (PD es : Nat) / (UN es d : Nat) < ((cs[d - 1]?).getD 0 : Nat) then ((SW es cs : Nat) : Int) % (PD es : Nat) / (UN es d : Nat) else ((cs[d - 1]?).getD 0 : Nat)
def SpareOk (F : Fn) : Prop := F.ar = 3 ∧ F.io = none ∧ ∀ (q : Bool) (es cs : List Nat) (d : Nat), Good1 es → Good2 cs → 1 ≤ d → d ≤ es.length → F.run [sqD q es, .tup (nD cs), .int d] = .ret false (.int (spI es cs d)) .non
theorem nD_at (cs : List Nat) (j : Nat) (h : j < cs.length) : L2.atI (nD cs) (j : Int) = some (.int ((cs[j]?).getD 0 : Nat)) := by
  apply atI_natS
  unfold nD
  rw [List.getElem?_map, List.getElem?_eq_getElem h]
  rfl
theorem ok_spare {Γ : Nat → Option Fn} {i2 i3 i4 i6 i7 i8 : Nat} {F2 F3 F4 F6 F7 F8 : Fn} (g2 : Γ i2 = some F2) (g4 : Γ i4 = some F4) (g3 : Γ i3 = some F3) (g6 : Γ i6 = some F6) (g7 : Γ i7 = some F7) (g8 : Γ i8 = some F8)
    (h2 : UnitOk F2) (h4 : ScaledOk F4) (h3 : ProdOk F3) (h6 : ReqDistOk F6) (h7 : ReqCountsOk F7) (h8 : ReqSchedOk F8) : SpareOk (mkFn Γ 3 5 none (c_climbers_to_spare i2 i4 i3 i6 i7 i8)) := by
  obtain ⟨a2, b2, r2⟩ := h2
  obtain ⟨a3, b3, r3⟩ := h3
  obtain ⟨a4, b4, r4⟩ := h4
  obtain ⟨a6, b6, r6⟩ := h6
  obtain ⟨a7, b7, r7⟩ := h7
  obtain ⟨a8, b8, r8⟩ := h8
  refine ⟨rfl, rfl, fun q es cs d g hc d1 d2 => Wk_run (Wf_mk rfl ?_)⟩
  have e8 := Wf_ret (r8 q es g.ge g.len)
  have e7 := Wf_ret (r7 cs hc.len)
  have e6 := Wf_ret (r6 q es d d1 d2)
  have e4 := Wf_ret (r4 q es cs g hc.lt hc.len)
  have e3 := Wf_ret (r3 q es g)
  have e2 := Wf_ret (r2 q es d g d2)
  have hl := pref_lastI es
  have dv := divOk_nat (UN_pos g d2) (p9000 (UN_lt g d))
  have dp : (0 : Int) < (PD es : Nat) := Int.natCast_pos.mpr (pd_pos g)
  have hd : ((d : Int) - 1) = ((d - 1 : Nat) : Int) := by omega
  unfold spI
  generalize hS : sqD q es = S0 at *
  generalize nD (pref es es.length) = L at *
  unfold c_climbers_to_spare
  by_cases hr : d ≤ cs.length
  · have hr' : (d : Int) ≤ cs.length := by omega
    have hat := nD_at cs (d - 1) (by omega)
    ((try rw [psq_nx]); (repeat (refine Ws_step fun Q' hQ' => ?_; simp (maxSteps := 1000000) only [cf, co, cb, ↓We_var, ↓We_non, ↓We_bl, ↓We_int, ↓We_str, ↓We_gl, ↓We_bin, ↓We_neg, ↓We_nt, ↓We_and, ↓We_or, ↓We_ite, ↓We_cmp, ↓We_chain, ↓We_tup, ↓We_lst, ↓We_ix, ↓We_sl, ↓We_nopart, ↓We_rvs, ↓We_call, ↓We_callK, ↓We_bi, ↓We_mth, ↓We_isi, ↓We_lc, ↓We_yes, ↓We_val, ↓We_tru, ↓Wes_nil, ↓Wes_cons, ↓Wei_seq, ↓Wei_range1, ↓Wei_range2, ↓Wei_enum, ↓Wei_zip, ↓Ws_pass, ↓Ws_brk, ↓Ws_cont, ↓Ws_nil, ↓Ws_cons, ↓Ws_asg, ↓Ws_par, ↓Ws_unp, ↓Ws_drop, ↓Ws_aug, ↓Ws_setI, ↓Ws_app, ↓Ws_ext, ↓Ws_ret, ↓Ws_retN, ↓Ws_if, ↓Ws_for, ↓Ws_never, ↓Ws_fga, psq_rt, psq_bk, psq_ct, psq_ex, pfg_nx, pfg_ct, pfg_rt, pfg_bk, pfg_ex, Rw_ok, Rw_ex, ↓Rw_bind, ↓Rw_opt, Ow_some, Ow_none, ↓Ow_bind, ↓Ow_map, ↓Ow_ite, Cw_true, Cw_false, Cw_not, callW_G, callG_none, callG_io, callKW_none', okIo_own, okIo_bor, outW_none, outW_some, ↓we_nil, ↓we_cons, ↓we_dt, ↓we_fr, ↓we_slot, ↓wk_nil, ↓wk_cons, ↓wk_dt, ↓wk_fr, ↓wk_slot, ↓wg_dt, ↓wg_fr, ↓wg_slot, ↓wr_nil, ↓wr_cons, wo_own, wc_F, wc_T, ↓wp_nil, ↓wp_cons, wput, wcell, wcl0, wclf, wclo, wmf, wmo, wmb, wwr, wwo, wwb, wfree, wfree0, wfreef, wd_add, wd_adds, wd_addl, wd_addt, wd_sub, wd_mul, wd_repl, wd_rept, wd_div, wd_mod, wd_pow, wd_eq, wd_ne, wd_lt, wd_le, wd_gt, wd_ge, wd_inl, wd_int, wd_nil, wd_nit, wd_is, wd_isn, wd_tn, wd_tb, wd_ti, wd_tl, wd_tt, wd_ixl, wd_ixt, wd_sll, wd_slt, wd_i, wd_b, wd_lenl, wd_lent, wd_sum, wd_min2, wd_max2, wd_all, wd_any, wd_abs, wd_repr, wd_inti, wd_intb, wd_list1, wd_list2, wd_tup1, wd_tup2, wd_asn, wd_ast, wd_as0, wd_as1, wd_itl, wd_itt, wd_dt, wd_fr, wd_slot, wd_bvT, wd_bvF, wd_rv, wd_pn, wd_pvar, wd_pint, wd_pbin, wd_pneg, wd_pbi, wd_pcall, wd_pix, wd_ls, wd_aa, wd_as, wd_frl, wd_fzi, isTyD, isT, D.dt, isNon, permL, initE, wipeE, restE, List.getElem?_cons_zero, List.getElem?_cons_succ, List.getElem?_nil, List.set_cons_zero, List.set_cons_succ, List.length_cons, List.length_nil, List.cons_append, List.nil_append, List.append_nil, List.replicate, List.all_cons, List.all_nil, List.any_cons, List.any_nil, List.filterMap_cons, List.filterMap_nil, Option.join_some, Option.join_none, Option.bind_some, Option.map_some, Option.map_none, Bool.and_true, Bool.and_self, Bool.or_false, Bool.false_or, Bool.true_or, Bool.or_true, Bool.not_true, Bool.not_false, true_and, and_true, and_self, or_true, true_or, or_false, false_or, if_true, if_false, Bool.false_eq_true, Bool.true_eq_false, reduceCtorEq, Nat.reduceAdd, Nat.reduceSub, Nat.reduceLT, Int.reduceNeg, Nat.reduceLeDiff, not_true_eq_false, not_false_eq_true, reduceIte, decide_true, decide_false, beq_self_eq_true, ne_eq, atI_0, atI_1, atI_2, atI_3, ↓wd_p9, ↓wd_p12, ↓wd_p15, ↓wd_p18, ↓wd_p20, ↓wd_p30, ixN_30, ixN_31, ixN_32, ↓e2, ↓e3, ↓e4, ↓e6, ↓e7, ↓e8, g2, g3, g4, g6, g7, g8, a2, a3, a4, a6, a7, a8, b2, b3, b4, b6, b7, b8, hl, nD_length, hr', hd, hat, dv, dp]; subst hQ'; try rw [psq_nx])); (try simp only [↓Ws_nil, psq_rt, psq_ex, outW_none, outW_some, wcell, List.getElem?_cons_zero, List.getElem?_cons_succ, Option.join_some, Ow_some, true_and, and_true, and_self]))
  · have hr' : ¬ (d : Int) ≤ cs.length := by omega
    have h0 : cs[d - 1]? = none := List.getElem?_eq_none (by omega)
    rw [h0]
    ((try rw [psq_nx]); (repeat (refine Ws_step fun Q' hQ' => ?_; simp (maxSteps := 1000000) only [cf, co, cb, ↓We_var, ↓We_non, ↓We_bl, ↓We_int, ↓We_str, ↓We_gl, ↓We_bin, ↓We_neg, ↓We_nt, ↓We_and, ↓We_or, ↓We_ite, ↓We_cmp, ↓We_chain, ↓We_tup, ↓We_lst, ↓We_ix, ↓We_sl, ↓We_nopart, ↓We_rvs, ↓We_call, ↓We_callK, ↓We_bi, ↓We_mth, ↓We_isi, ↓We_lc, ↓We_yes, ↓We_val, ↓We_tru, ↓Wes_nil, ↓Wes_cons, ↓Wei_seq, ↓Wei_range1, ↓Wei_range2, ↓Wei_enum, ↓Wei_zip, ↓Ws_pass, ↓Ws_brk, ↓Ws_cont, ↓Ws_nil, ↓Ws_cons, ↓Ws_asg, ↓Ws_par, ↓Ws_unp, ↓Ws_drop, ↓Ws_aug, ↓Ws_setI, ↓Ws_app, ↓Ws_ext, ↓Ws_ret, ↓Ws_retN, ↓Ws_if, ↓Ws_for, ↓Ws_never, ↓Ws_fga, psq_rt, psq_bk, psq_ct, psq_ex, pfg_nx, pfg_ct, pfg_rt, pfg_bk, pfg_ex, Rw_ok, Rw_ex, ↓Rw_bind, ↓Rw_opt, Ow_some, Ow_none, ↓Ow_bind, ↓Ow_map, ↓Ow_ite, Cw_true, Cw_false, Cw_not, callW_G, callG_none, callG_io, callKW_none', okIo_own, okIo_bor, outW_none, outW_some, ↓we_nil, ↓we_cons, ↓we_dt, ↓we_fr, ↓we_slot, ↓wk_nil, ↓wk_cons, ↓wk_dt, ↓wk_fr, ↓wk_slot, ↓wg_dt, ↓wg_fr, ↓wg_slot, ↓wr_nil, ↓wr_cons, wo_own, wc_F, wc_T, ↓wp_nil, ↓wp_cons, wput, wcell, wcl0, wclf, wclo, wmf, wmo, wmb, wwr, wwo, wwb, wfree, wfree0, wfreef, wd_add, wd_adds, wd_addl, wd_addt, wd_sub, wd_mul, wd_repl, wd_rept, wd_div, wd_mod, wd_pow, wd_eq, wd_ne, wd_lt, wd_le, wd_gt, wd_ge, wd_inl, wd_int, wd_nil, wd_nit, wd_is, wd_isn, wd_tn, wd_tb, wd_ti, wd_tl, wd_tt, wd_ixl, wd_ixt, wd_sll, wd_slt, wd_i, wd_b, wd_lenl, wd_lent, wd_sum, wd_min2, wd_max2, wd_all, wd_any, wd_abs, wd_repr, wd_inti, wd_intb, wd_list1, wd_list2, wd_tup1, wd_tup2, wd_asn, wd_ast, wd_as0, wd_as1, wd_itl, wd_itt, wd_dt, wd_fr, wd_slot, wd_bvT, wd_bvF, wd_rv, wd_pn, wd_pvar, wd_pint, wd_pbin, wd_pneg, wd_pbi, wd_pcall, wd_pix, wd_ls, wd_aa, wd_as, wd_frl, wd_fzi, isTyD, isT, D.dt, isNon, permL, initE, wipeE, restE, List.getElem?_cons_zero, List.getElem?_cons_succ, List.getElem?_nil, List.set_cons_zero, List.set_cons_succ, List.length_cons, List.length_nil, List.cons_append, List.nil_append, List.append_nil, List.replicate, List.all_cons, List.all_nil, List.any_cons, List.any_nil, List.filterMap_cons, List.filterMap_nil, Option.join_some, Option.join_none, Option.bind_some, Option.map_some, Option.map_none, Bool.and_true, Bool.and_self, Bool.or_false, Bool.false_or, Bool.true_or, Bool.or_true, Bool.not_true, Bool.not_false, true_and, and_true, and_self, or_true, true_or, or_false, false_or, if_true, if_false, Bool.false_eq_true, Bool.true_eq_false, reduceCtorEq, Nat.reduceAdd, Nat.reduceSub, Nat.reduceLT, Int.reduceNeg, Nat.reduceLeDiff, not_true_eq_false, not_false_eq_true, reduceIte, decide_true, decide_false, beq_self_eq_true, ne_eq, atI_0, atI_1, atI_2, atI_3, ↓wd_p9, ↓wd_p12, ↓wd_p15, ↓wd_p18, ↓wd_p20, ↓wd_p30, ixN_30, ixN_31, ixN_32, ↓e2, ↓e3, ↓e4, ↓e6, ↓e7, ↓e8, g2, g3, g4, g6, g7, g8, a2, a3, a4, a6, a7, a8, b2, b3, b4, b6, b7, b8, hl, nD_length, hr', dv, dp]; subst hQ'; try rw [psq_nx])); (try simp only [↓Ws_nil, psq_rt, psq_ex, outW_none, outW_some, wcell, List.getElem?_cons_zero, List.getElem?_cons_succ, Option.join_some, Ow_some, true_and, and_true, and_self]))
    rfl
end Lw


set_option Elab.async false
set_option linter.all false
set_option maxRecDepth 100000
set_option maxHeartbeats 1000000
namespace Lw
open PySem PySem.Spec PyProof.Rows L2 T
theorem sw_set (P : Nat) : ∀ (l : List Nat) (j v a p : Nat) (ps : List Nat), l[j]? = some a → ps[j]? = some p → sw P (l.set j v) ps + a * (P / p) = sw P l ps + v * (P / p)
  | [], j, v, a, p, ps, h, _ => by simp at h
  | c :: l, 0, v, a, p, q :: ps, h, h2 => by
    simp at h h2
    subst h h2
    simp only [List.set_cons_zero, sw]
    omega
  | c :: l, j + 1, v, a, p, q :: ps, h, h2 => by
    have ih := sw_set P l j v a p ps (by simpa using h) (by simpa using h2)
    simp only [List.set_cons_succ, sw]
    omega
  | c :: l, j, v, a, p, [], h, h2 => by simp at h2
theorem sw_zero (P : Nat) : ∀ (k : Nat) (ps : List Nat), sw P (List.replicate k 0) ps = 0
  | 0, ps => by simp [sw]
  | k + 1, [] => by simp [sw, List.replicate_succ]
  | k + 1, p :: ps => by rw [List.replicate_succ, sw, sw_zero P k ps]; simp
theorem sw_pad (P : Nat) : ∀ (cs : List Nat) (k : Nat) (ps : List Nat), sw P (cs ++ List.replicate k 0) ps = sw P cs ps
  | [], k, ps => by rw [List.nil_append, sw_zero]; cases ps <;> simp [sw]
  | c :: cs, k, [] => by simp [sw]
  | c :: cs, k, p :: ps => by rw [List.cons_append, sw, sw, sw_pad P cs k ps]
theorem pl_at {es : List Nat} {d : Nat} (h1 : 1 ≤ d) (h2 : d ≤ es.length) : (pl 1 es)[d - 1]? = some (pp es d) := by
  rw [pl_eq, List.getElem?_map, List.getElem?_range (by omega)]
  show some (1 * pp es (d - 1 + 1)) = _
  rw [Nat.one_mul, show d - 1 + 1 = d by omega]
theorem rep0 (k : Nat) : (List.replicate k [D.int 0]).flatten = nD (List.replicate k 0) := by
  induction k with
  | zero => rfl
  | succ k ih => rw [List.replicate_succ, List.flatten_cons, ih, List.replicate_succ]; rfl
theorem nD_app (a b : List Nat) : nD a ++ nD b = nD (a ++ b) := by simp [nD]
theorem nD_set (l : List Nat) (j v : Nat) : (nD l).set j (.int v) = nD (l.set j v) := by unfold nD; rw [List.map_set]
theorem sw_le (P B : Nat) : ∀ (cs ps : List Nat), (∀ c ∈ cs, c ≤ B) → sw P cs ps ≤ cs.length * (B * P)
  | [], ps, _ => by simp [sw]
  | c :: cs, [], _ => by simp [sw]
  | c :: cs, p :: ps, h => by
    have ih := sw_le P B cs ps fun x hx => h x (List.mem_cons_of_mem _ hx)
    have h1 : c * (P / p) ≤ B * P := Nat.mul_le_mul (h c List.mem_cons_self) (Nat.div_le_self _ _)
    rw [sw, List.length_cons, Nat.succ_mul]
    omega
theorem bits_lt {z : Int} (h : Builtin.Int.intBits z ≤ 1048576) : z.natAbs < 2 ^ 1048576 := by
  by_cases h0 : z.natAbs = 0
  · rw [h0]; exact Nat.two_pow_pos _
  · refine (Nat.log2_lt h0).mp ?_
    unfold Builtin.Int.intBits at h
    rw [if_neg (by simp; omega)] at h
    omega
theorem ceil_mul (m u : Int) (h : 0 < u) : m ≤ -(-m / u) * u ∧ -(-m / u) * u < m + u := by
  have h1 := Int.ediv_mul_le (-m) (b := u) (by omega)
  have h2 := Int.lt_ediv_add_one_mul_self (-m) h
  rw [Int.add_mul] at h2
  rw [Int.neg_mul]
  constructor <;> omega
def PeopleB (F : Fn) : Prop := F.ar = 2 ∧ F.io = some 0 ∧ ∀ (s c n h : Int) (X : Exn → D → Prop) (K : Bool → D → D → Prop), 0 ≤ n → n < 80000000 → 0 ≤ h → h ≤ 100 →
  (∀ (cs : List Nat) (s' n' : Int), (∀ c ∈ cs, c < 2 ^ 120) → (cs.length : Int) ≤ h → n ≤ n' → n' ≤ n + 1000 → K false (.tup (nD cs)) (src s' c n')) → @Wf F [src s c n, .int h] X K
theorem peopleB {F : Fn} (h : PeopleOk F) : PeopleB F := by
  obtain ⟨a, b, r⟩ := h
  refine ⟨a, b, fun s c n h X K h0 h1 h2 h3 q => ?_⟩
  obtain ⟨es, s', n', e, hl, he, g1, g2⟩ := r s c n h h0 h1 h2 (by omega)
  rw [toNat_nD (fun x hx => (he x hx).1)] at e
  refine Wf_run e (q _ s' n' (fun x hx => ?_) (by rw [List.length_map]; exact hl) g1 (by omega))
  obtain ⟨y, hy, rfl⟩ := List.mem_map.mp hx
  have := he y hy
  omega
theorem beq_dec (a m : Int) : (a == m) = decide (m = a) := by
  by_cases h : m = a
  · subst h; simp
  · have : ¬ a = m := fun z => h z.symm
    simp [h, this]
theorem inD_2 (m a b : Int) : inD (.int m) [.int a, .int b] = some (decide (m = a) || decide (m = b)) := by
  unfold inD
  rw [if_pos (by simp [D.flat])]
  simp only [D.toV, inV, eqV, List.map_cons, List.map_nil, List.any_cons, List.any_nil, Bool.or_false, beq_dec]
theorem mul_b {a b : Nat} (x y : Nat) (h1 : a < 2 ^ x) (h2 : b < 2 ^ y) (h : x + y ≤ 1000000) (hx : 0 < x) (hy : 0 < y) : mulOk (a : Int) (b : Int) = true ∧ a * b < 2 ^ (x + y) := by
  refine ⟨mul_nat x y h1 h2 h hx hy, ?_⟩
  rw [Nat.pow_add]
  exact Nat.mul_lt_mul'' h1 h2
theorem lt_pow {a : Nat} {x y : Nat} (h : a < 2 ^ x) (hxy : x ≤ y) : a < 2 ^ y := Nat.lt_of_lt_of_le h (Nat.pow_le_pow_right (by decide) hxy)
def RoundsB (F : Fn) : Prop := F.ar = 2 ∧ F.io = some 0 ∧ ∀ (s c n h : Int) (X : Exn → D → Prop) (K : Bool → D → D → Prop), 0 ≤ n → n < 80000000 → 0 ≤ h → h ≤ 100 →
  (∀ (es : List Nat) (s' n' : Int), (∀ e ∈ es, 2 ≤ e ∧ e < 2 ^ 50) → (es.length : Int) ≤ h → n ≤ n' → n' ≤ n + 200 → K true (.lst (nD es)) (src s' c n')) → @Wf F [src s c n, .int h] X K
theorem roundsB {F : Fn} (h : RoundsOk F) : RoundsB F := by
  obtain ⟨a, b, r⟩ := h
  refine ⟨a, b, fun s c n h X K h0 h1 h2 h3 q => ?_⟩
  obtain ⟨es, s', n', e, hl, he, g1, g2⟩ := r s c n h h0 (by omega) h2 (by omega)
  rw [toNat_nD (fun x hx => by have := he x hx; omega)] at e
  refine Wf_run e (q _ s' n' (fun x hx => ?_) (by rw [List.length_map]; exact hl) g1 (by omega))
  obtain ⟨y, hy, rfl⟩ := List.mem_map.mp hx
  have := he y hy
  omega
end Lw


set_option Elab.async false
set_option linter.all false
set_option maxRecDepth 100000
namespace Lw
open PySem PySem.Spec PyProof.Rows L2 T
def c3__law_source : S := .cons (.ret (.lstE (.cons (.bin .mul (.var 0) (.bi .int (.cons (.cmp .ge (.var 0) (.bin .pow (.int 10) (.int 18))) (.nil)))) (.cons (.bin .mod (.var 0) (.int 2147483647)) (.cons (.int 0) (.nil)))))) (.nil)
def c3__law_take : S := .cons (.ifS (.cmp .gt (.ix (.var 0) (.int 0)) (.int 0)) (.cons (.asg 2 (.bin .mod (.ix (.var 0) (.int 0)) (.var 1))) (.cons (.setI 0 (.int 0) (.bin .div (.ix (.var 0) (.int 0)) (.var 1))) (.cons (.ret (.var 2)) (.nil)))) (.nil)) (.cons (.setI 0 (.int 2) (.bin .add (.ix (.var 0) (.int 2)) (.int 1))) (.cons (.asg 3 (.ix (.lstE (.cons (.int 2147483629) (.cons (.int 2147483587) (.cons (.int 2147483579) (.cons (.int 2147483563) (.nil)))))) (.bin .mod (.ix (.var 0) (.int 2)) (.int 4)))) (.cons (.asg 4 (.bin .mod (.bin .pow (.bin .add (.bin .add (.ix (.var 0) (.int 1)) (.bin .mul (.int 6007) (.ix (.var 0) (.int 2)))) (.int 29)) (.int 3)) (.var 3))) (.cons (.asg 4 (.bin .mod (.bin .mul (.bin .add (.var 4) (.ix (.var 0) (.int 2))) (.bin .add (.bin .div (.var 4) (.int 1021)) (.int 50021))) (.var 3))) (.cons (.asg 4 (.bin .mod (.bin .mul (.var 4) (.bin .add (.bin .add (.bin .div (.var 4) (.int 887)) (.bin .mul (.int 31) (.ix (.var 0) (.int 2)))) (.int 3))) (.var 3))) (.cons (.ret (.bin .mod (.bin .div (.var 4) (.int 13)) (.var 1))) (.nil)))))))
def c_rounds_needed (i_products : Nat) (i_require_number : Nat) (i_require_counts : Nat) (i_require_schedule : Nat) : S := .cons (.drop (.call i_require_schedule (.cons (.var 0) (.nil)))) (.cons (.drop (.call i_require_counts (.cons (.var 1) (.nil)))) (.cons (.drop (.call i_require_number (.cons (.var 2) (.nil)))) (.cons (.asg 3 (.int 0)) (.cons (.forS (.tp (.cons (.nm 4) (.cons (.nm 5) (.nil)))) (.enum (.call i_products (.cons (.var 0) (.nil)))) (.cons (.ifS (.cmp .gt (.var 4) (.int 0)) (.cons (.asg 3 (.bin .add (.bin .mul (.var 3) (.ix (.var 0) (.bin .sub (.var 4) (.int 1)))) (.ite (.cmp .le (.var 4) (.bi .len (.cons (.var 1) (.nil)))) (.ix (.var 1) (.bin .sub (.var 4) (.int 1))) (.int 0)))) (.nil)) (.nil)) (.cons (.fga [4, 5] (.ifS (.cmp .ge (.bin .div (.var 3) (.var 5)) (.var 2)) (.cons (.ret (.var 4)) (.nil)) (.nil))) (.nil)))) (.cons (.ret (.non)) (.nil))))))
end Lw

set_option Elab.async false
set_option linter.all false
set_option maxRecDepth 100000
set_option maxHeartbeats 1000000
/-! displays of rows of numbers -/
namespace Lw
open PySem PySem.Spec PyProof.Rows L2 T
theorem sok_of (s : String) : PyData.strOk (Str.ofString s) = true := by
  rw [Str.ofString_eq_toList]
  unfold PyData.strOk
  rw [List.all_toArray, List.all_eq_true]
  intro n hn
  obtain ⟨c, _, rfl⟩ := List.mem_map.mp hn
  refine decide_eq_true ?_
  have := c.valid
  unfold UInt32.isValidChar Nat.isValidChar at this
  show c.val.toNat < _
  omega
theorem sok_app {a b : Str} (ha : PyData.strOk a = true) (hb : PyData.strOk b = true) : PyData.strOk (a ++ b) = true := by
  unfold PyData.strOk at *
  show (a.cps ++ b.cps).all _ = true
  rw [Array.all_append, ha, hb]; rfl
theorem sok_text : ∀ (ts : List Str) (k : Nat) (acc : Str), PyData.strOk acc = true → (∀ t ∈ ts, PyData.strOk t = true) → PyData.strOk (textFrom k acc ts) = true
  | [], _, _, h, _ => h
  | t :: ts, k, acc, h, ht => by
    unfold textFrom
    exact sok_text ts _ _ (sok_app (sok_app h (sok_of _)) (ht t List.mem_cons_self)) fun x hx => ht x (List.mem_cons_of_mem _ hx)
theorem sok_join : ∀ (ts : List Str), (∀ t ∈ ts, PyData.strOk t = true) → PyData.strOk (Str.join ", " ts) = true
  | [], _ => sok_of ""
  | [x], h => h x List.mem_cons_self
  | x :: y :: r, h => sok_app (sok_app (h x List.mem_cons_self) (sok_of ", ")) (sok_join (y :: r) fun z hz => h z (List.mem_cons_of_mem _ hz))
theorem sok_list {ts : List Str} (h : ∀ t ∈ ts, PyData.strOk t = true) : PyData.strOk (listText ts) = true := sok_app (sok_text ts 0 _ (sok_of "[") h) (sok_of "]")
theorem sok_tuple {ts : List Str} (h : ∀ t ∈ ts, PyData.strOk t = true) : PyData.strOk (tupleText ts) = true := sok_app (sok_app (sok_of "(") (sok_join ts h)) (sok_of _)
theorem shownAll_map : ∀ xs : List PyData, PyData.shownAll xs = xs.map PyData.shown
  | [] => rfl
  | x :: xs => by simp only [PyData.shownAll, List.map_cons, shownAll_map xs]
theorem toPys_nD (l : List Nat) : D.toPys (nD l) = l.map fun n : Nat => PyData.int n := by
  rw [toPys_eq]
  unfold nD
  rw [List.map_map]
  rfl
/-- a row of numbers -/
structure Rw1 (l : List Nat) : Prop where
  lt : ∀ c ∈ l, c < 2 ^ 62
  len : l.length ≤ 1000
theorem shown_nat {n : Nat} (h : n < 2 ^ 62) : (PyData.shown (.int n)).length ≤ 20 := by
  have e := int_text_length_le10 (a := (n : Int)) (k := 19) (by decide) (by rw [Int.natAbs_natCast]; exact Nat.lt_of_lt_of_le h (by decide))
  show (Str.ofString (toString (n : Int))).length ≤ 20
  rw [PySem.ofString_length]; exact e
theorem bulkAll_nD : ∀ l : List Nat, PyData.bulkAll (l.map fun n : Nat => PyData.int n) = l.length
  | [] => rfl
  | x :: l => by simp only [List.map_cons, PyData.bulkAll, PyData.bulk, bulkAll_nD l, List.length_cons]; omega
theorem leaves_nD : ∀ l : List Nat, (∀ c ∈ l, c < 2 ^ 62) → PyData.leavesShortAll 20 (l.map fun n : Nat => PyData.int n) = true
  | [], _ => rfl
  | x :: l, h => by
    simp only [List.map_cons, PyData.leavesShortAll, PyData.leavesShort, leaves_nD l fun c hc => h c (List.mem_cons_of_mem _ hc), Bool.and_true]
    exact decide_eq_true (shown_nat (h x List.mem_cons_self))
theorem showable_nD : ∀ l : List Nat, (∀ c ∈ l, c < 2 ^ 62) → PyData.showableAll (l.map fun n : Nat => PyData.int n) = true
  | [], _ => rfl
  | x :: l, h => by
    simp only [List.map_cons, PyData.showableAll, PyData.showable, showable_nD l fun c hc => h c (List.mem_cons_of_mem _ hc), Bool.and_true, Int.natAbs_natCast]
    have hx := h x List.mem_cons_self
    by_cases h0 : x = 0
    · subst h0; decide
    · have := (Nat.log2_lt (k := 62) h0).mpr hx
      exact decide_eq_true (by omega)
theorem depth_nD : ∀ l : List Nat, PyData.depthAll (l.map fun n : Nat => PyData.int n) = 0
  | [] => rfl
  | x :: l => by simp only [List.map_cons, PyData.depthAll, PyData.depth, depth_nD l]; rfl
theorem row_facts (q : Bool) {l : List Nat} (h : Rw1 l) : (sqD q l).noDic = true ∧ (sqD q l).toPy.showable = true ∧ (sqD q l).toPy.depth ≤ 1 ∧ (sqD q l).toPy.leavesShort 20 = true ∧ (sqD q l).toPy.bulk ≤ 1000 ∧ PyData.strOk (sqD q l).toPy.shown = true := by
  have n : D.noDics (nD l) = true := by
    clear h
    induction l with
    | nil => rfl
    | cons x l ih => show (true && D.noDics (nD l)) = true; rw [ih]; rfl
  have s : ∀ t ∈ PyData.shownAll (l.map fun n : Nat => PyData.int n), PyData.strOk t = true := fun t ht => by
    rw [shownAll_map, List.map_map] at ht
    obtain ⟨x, _, rfl⟩ := List.mem_map.mp ht
    exact sok_of _
  cases q
  all_goals
    simp only [sqD, D.toPy, toPys_nD, PyData.showable, PyData.depth, PyData.leavesShort, PyData.bulk, PyData.shown, bulkAll_nD, leaves_nD l h.lt, showable_nD l h.lt, depth_nD, if_true, if_false, Bool.false_eq_true]
    refine ⟨n, trivial, by omega, trivial, h.len, ?_⟩
    first | exact sok_list s | exact sok_tuple s
/-- rows of numbers, in a tuple -/
def IsRow (d : D) : Prop := ∃ q l, d = sqD q l ∧ Rw1 l
theorem rows_facts : ∀ ds : List D, (∀ d ∈ ds, IsRow d) → D.noDics ds = true ∧ PyData.showableAll (D.toPys ds) = true ∧ PyData.depthAll (D.toPys ds) ≤ 1 ∧ PyData.leavesShortAll 20 (D.toPys ds) = true ∧ PyData.bulkAll (D.toPys ds) ≤ 1001 * ds.length ∧ ∀ t ∈ PyData.shownAll (D.toPys ds), PyData.strOk t = true
  | [], _ => by
    refine ⟨rfl, rfl, Nat.zero_le _, rfl, Nat.zero_le _, fun t ht => ?_⟩
    cases ht
  | d :: ds, h => by
    obtain ⟨i1, i2, i3, i4, i5, i6⟩ := rows_facts ds fun x hx => h x (List.mem_cons_of_mem _ hx)
    obtain ⟨q, l, rfl, hl⟩ := h d List.mem_cons_self
    obtain ⟨j1, j2, j3, j4, j5, j6⟩ := row_facts q hl
    simp only [D.noDics, D.toPys, PyData.showableAll, PyData.depthAll, PyData.leavesShortAll, PyData.bulkAll, PyData.shownAll, i1, i2, i4, j1, j2, j4, Bool.and_self, true_and]
    refine ⟨by omega, by rw [List.length_cons]; omega, fun t ht => ?_⟩
    rcases List.mem_cons.mp ht with e | ht
    · rw [e]; exact j6
    · exact i6 t ht
theorem repr_rows {ds : List D} (h : ∀ d ∈ ds, IsRow d) (hl : ds.length ≤ 10) : reprOk (.tup ds) = true ∧ PyData.strOk (D.toPy (.tup ds)).shown = true := by
  obtain ⟨i1, i2, i3, i4, i5, i6⟩ := rows_facts ds h
  have b := PyData.shown_le_bulk 20 (by decide) (D.toPy (.tup ds)) (by simp only [D.toPy, PyData.leavesShort, i4])
  have e : (D.toPy (.tup ds)).bulk = PyData.bulkAll (D.toPys ds) := by simp only [D.toPy, PyData.bulk]
  rw [e] at b
  refine ⟨?_, ?_⟩
  · unfold reprOk
    have h1 : D.noDic (.tup ds) = true := i1
    have h2 : (D.toPy (.tup ds)).showable = true := by simp only [D.toPy, PyData.showable, i2]
    have h3 : (D.toPy (.tup ds)).depth ≤ 32 := by simp only [D.toPy, PyData.depth]; omega
    have h4 : (D.toPy (.tup ds)).shown.length ≤ sizeLine := by rw [sizeLine_eq]; omega
    rw [h1, h2, decide_eq_true h3, decide_eq_true h4]; rfl
  · simp only [D.toPy, PyData.shown]
    exact sok_tuple i6
theorem eqD_str {x : Str} (h : PyData.strOk x = true) : eqD (.str x) (.str x) = some true := eqD_self (show okD 9 (.str x) from h)
end Lw


set_option Elab.async false
set_option linter.all false
set_option maxRecDepth 100000
set_option maxHeartbeats 1000000
namespace Lw
open PySem PySem.Spec PyProof.Rows L2 T
theorem ok_source3 (Γ : Nat → Option Fn) : Src5Ok (mkFn Γ 1 1 none c3__law_source) := by
  refine ⟨rfl, rfl, fun c hc => ?_⟩
  refine ⟨c * (if decide (c ≥ 1000000000000000000) = true then 1 else 0), Wk_run (Wf_mk rfl ?_)⟩
  have m : mulOk c (if decide (1000000000000000000 ≤ c) = true then 1 else 0) = true := mulOk_wide 1048576 2 hc (by split <;> omega) (by decide) (by decide) (by decide)
  have h3 : 3 ≤ sizeLine := by decide
  have hp : (0 : Int) < 2147483647 := by decide
  unfold c3__law_source
  ((try rw [psq_nx]); (repeat (refine Ws_step fun Q' hQ' => ?_; simp (maxSteps := 1000000) only [cf, co, cb, ↓We_var, ↓We_non, ↓We_bl, ↓We_int, ↓We_str, ↓We_gl, ↓We_bin, ↓We_neg, ↓We_nt, ↓We_and, ↓We_or, ↓We_ite, ↓We_cmp, ↓We_chain, ↓We_tup, ↓We_lst, ↓We_ix, ↓We_sl, ↓We_nopart, ↓We_rvs, ↓We_call, ↓We_callK, ↓We_bi, ↓We_mth, ↓We_isi, ↓We_lc, ↓We_yes, ↓We_val, ↓We_tru, ↓Wes_nil, ↓Wes_cons, ↓Wei_seq, ↓Wei_range1, ↓Wei_range2, ↓Wei_enum, ↓Wei_zip, ↓Ws_pass, ↓Ws_brk, ↓Ws_cont, ↓Ws_nil, ↓Ws_cons, ↓Ws_asg, ↓Ws_par, ↓Ws_unp, ↓Ws_drop, ↓Ws_aug, ↓Ws_setI, ↓Ws_app, ↓Ws_ext, ↓Ws_ret, ↓Ws_retN, ↓Ws_if, ↓Ws_for, ↓Ws_never, ↓Ws_fga, psq_rt, psq_bk, psq_ct, psq_ex, pfg_nx, pfg_ct, pfg_rt, pfg_bk, pfg_ex, Rw_ok, Rw_ex, ↓Rw_bind, ↓Rw_opt, Ow_some, Ow_none, ↓Ow_bind, ↓Ow_map, ↓Ow_ite, Cw_true, Cw_false, Cw_not, callW_G, callG_none, callG_io, callKW_none', okIo_own, okIo_bor, outW_none, outW_some, ↓we_nil, ↓we_cons, ↓we_dt, ↓we_fr, ↓we_slot, ↓wk_nil, ↓wk_cons, ↓wk_dt, ↓wk_fr, ↓wk_slot, ↓wg_dt, ↓wg_fr, ↓wg_slot, ↓wr_nil, ↓wr_cons, wo_own, wc_F, wc_T, ↓wp_nil, ↓wp_cons, wput, wcell, wcl0, wclf, wclo, wmf, wmo, wmb, wwr, wwo, wwb, wfree, wfree0, wfreef, wd_add, wd_adds, wd_addl, wd_addt, wd_sub, wd_mul, wd_repl, wd_rept, wd_div, wd_mod, wd_pow, wd_eq, wd_ne, wd_lt, wd_le, wd_gt, wd_ge, wd_inl, wd_int, wd_nil, wd_nit, wd_is, wd_isn, wd_tn, wd_tb, wd_ti, wd_tl, wd_tt, wd_ixl, wd_ixt, wd_sll, wd_slt, wd_i, wd_b, wd_lenl, wd_lent, wd_sum, wd_min2, wd_max2, wd_all, wd_any, wd_abs, wd_repr, wd_inti, wd_intb, wd_list1, wd_list2, wd_tup1, wd_tup2, wd_asn, wd_ast, wd_as0, wd_as1, wd_itl, wd_itt, wd_dt, wd_fr, wd_slot, wd_bvT, wd_bvF, wd_rv, wd_pn, wd_pvar, wd_pint, wd_pbin, wd_pneg, wd_pbi, wd_pcall, wd_pix, wd_ls, wd_aa, wd_as, wd_frl, wd_fzi, isTyD, isT, D.dt, isNon, permL, initE, wipeE, restE, List.getElem?_cons_zero, List.getElem?_cons_succ, List.getElem?_nil, List.set_cons_zero, List.set_cons_succ, List.length_cons, List.length_nil, List.cons_append, List.nil_append, List.append_nil, List.replicate, List.all_cons, List.all_nil, List.any_cons, List.any_nil, List.filterMap_cons, List.filterMap_nil, Option.join_some, Option.join_none, Option.bind_some, Option.map_some, Option.map_none, Bool.and_true, Bool.and_self, Bool.or_false, Bool.false_or, Bool.true_or, Bool.or_true, Bool.not_true, Bool.not_false, true_and, and_true, and_self, or_true, true_or, or_false, false_or, if_true, if_false, Bool.false_eq_true, Bool.true_eq_false, reduceCtorEq, Nat.reduceAdd, Nat.reduceSub, Nat.reduceLT, Int.reduceNeg, Nat.reduceLeDiff, not_true_eq_false, not_false_eq_true, reduceIte, decide_true, decide_false, beq_self_eq_true, ne_eq, atI_0, atI_1, atI_2, atI_3, ↓wd_p9, ↓wd_p12, ↓wd_p15, ↓wd_p18, ↓wd_p20, ↓wd_p30, ixN_30, ixN_31, ixN_32, m, h3, hp]; subst hQ'; try rw [psq_nx])); (try simp only [↓Ws_nil, psq_rt, psq_ex, outW_none, outW_some, wcell, List.getElem?_cons_zero, List.getElem?_cons_succ, Option.join_some, Ow_some, true_and, and_true, and_self]))
  rfl
theorem ok_take3 (Γ : Nat → Option Fn) : Take5Ok (mkFn Γ 2 5 (some 0) c3__law_take) := by
  refine ⟨rfl, rfl, fun s c n k c0 c1 n0 n1 k0 k1 => ?_⟩
  have dk : divOk k = true := divOk_si k0 (by omega)
  have h4 : 4 ≤ sizeLine := by decide
  by_cases hs : 0 < s
  · refine ⟨s % k, s / k, n, Wk_run (Wf_mk rfl ?_), Int.emod_nonneg _ (by omega), Int.emod_lt_of_pos _ k0, by omega, by omega⟩
    unfold c3__law_take src
    ((try rw [psq_nx]); (repeat (refine Ws_step fun Q' hQ' => ?_; simp (maxSteps := 1000000) only [cf, co, cb, ↓We_var, ↓We_non, ↓We_bl, ↓We_int, ↓We_str, ↓We_gl, ↓We_bin, ↓We_neg, ↓We_nt, ↓We_and, ↓We_or, ↓We_ite, ↓We_cmp, ↓We_chain, ↓We_tup, ↓We_lst, ↓We_ix, ↓We_sl, ↓We_nopart, ↓We_rvs, ↓We_call, ↓We_callK, ↓We_bi, ↓We_mth, ↓We_isi, ↓We_lc, ↓We_yes, ↓We_val, ↓We_tru, ↓Wes_nil, ↓Wes_cons, ↓Wei_seq, ↓Wei_range1, ↓Wei_range2, ↓Wei_enum, ↓Wei_zip, ↓Ws_pass, ↓Ws_brk, ↓Ws_cont, ↓Ws_nil, ↓Ws_cons, ↓Ws_asg, ↓Ws_par, ↓Ws_unp, ↓Ws_drop, ↓Ws_aug, ↓Ws_setI, ↓Ws_app, ↓Ws_ext, ↓Ws_ret, ↓Ws_retN, ↓Ws_if, ↓Ws_for, ↓Ws_never, ↓Ws_fga, psq_rt, psq_bk, psq_ct, psq_ex, pfg_nx, pfg_ct, pfg_rt, pfg_bk, pfg_ex, Rw_ok, Rw_ex, ↓Rw_bind, ↓Rw_opt, Ow_some, Ow_none, ↓Ow_bind, ↓Ow_map, ↓Ow_ite, Cw_true, Cw_false, Cw_not, callW_G, callG_none, callG_io, callKW_none', okIo_own, okIo_bor, outW_none, outW_some, ↓we_nil, ↓we_cons, ↓we_dt, ↓we_fr, ↓we_slot, ↓wk_nil, ↓wk_cons, ↓wk_dt, ↓wk_fr, ↓wk_slot, ↓wg_dt, ↓wg_fr, ↓wg_slot, ↓wr_nil, ↓wr_cons, wo_own, wc_F, wc_T, ↓wp_nil, ↓wp_cons, wput, wcell, wcl0, wclf, wclo, wmf, wmo, wmb, wwr, wwo, wwb, wfree, wfree0, wfreef, wd_add, wd_adds, wd_addl, wd_addt, wd_sub, wd_mul, wd_repl, wd_rept, wd_div, wd_mod, wd_pow, wd_eq, wd_ne, wd_lt, wd_le, wd_gt, wd_ge, wd_inl, wd_int, wd_nil, wd_nit, wd_is, wd_isn, wd_tn, wd_tb, wd_ti, wd_tl, wd_tt, wd_ixl, wd_ixt, wd_sll, wd_slt, wd_i, wd_b, wd_lenl, wd_lent, wd_sum, wd_min2, wd_max2, wd_all, wd_any, wd_abs, wd_repr, wd_inti, wd_intb, wd_list1, wd_list2, wd_tup1, wd_tup2, wd_asn, wd_ast, wd_as0, wd_as1, wd_itl, wd_itt, wd_dt, wd_fr, wd_slot, wd_bvT, wd_bvF, wd_rv, wd_pn, wd_pvar, wd_pint, wd_pbin, wd_pneg, wd_pbi, wd_pcall, wd_pix, wd_ls, wd_aa, wd_as, wd_frl, wd_fzi, isTyD, isT, D.dt, isNon, permL, initE, wipeE, restE, List.getElem?_cons_zero, List.getElem?_cons_succ, List.getElem?_nil, List.set_cons_zero, List.set_cons_succ, List.length_cons, List.length_nil, List.cons_append, List.nil_append, List.append_nil, List.replicate, List.all_cons, List.all_nil, List.any_cons, List.any_nil, List.filterMap_cons, List.filterMap_nil, Option.join_some, Option.join_none, Option.bind_some, Option.map_some, Option.map_none, Bool.and_true, Bool.and_self, Bool.or_false, Bool.false_or, Bool.true_or, Bool.or_true, Bool.not_true, Bool.not_false, true_and, and_true, and_self, or_true, true_or, or_false, false_or, if_true, if_false, Bool.false_eq_true, Bool.true_eq_false, reduceCtorEq, Nat.reduceAdd, Nat.reduceSub, Nat.reduceLT, Int.reduceNeg, Nat.reduceLeDiff, not_true_eq_false, not_false_eq_true, reduceIte, decide_true, decide_false, beq_self_eq_true, ne_eq, atI_0, atI_1, atI_2, atI_3, ↓wd_p9, ↓wd_p12, ↓wd_p15, ↓wd_p18, ↓wd_p20, ↓wd_p30, ixN_30, ixN_31, ixN_32, k0, dk, hs]; subst hQ'; try rw [psq_nx])); (try simp only [↓Ws_nil, psq_rt, psq_ex, outW_none, outW_some, wcell, List.getElem?_cons_zero, List.getElem?_cons_succ, Option.join_some, Ow_some, true_and, and_true, and_self]))
  · have hp : ∃ p : Int, L2.atI [D.int 2147483629, .int 2147483587, .int 2147483579, .int 2147483563] ((n + 1) % 4) = some (.int p) ∧ 2147483563 ≤ p ∧ p ≤ 2147483629 := by
      have : (n + 1) % 4 = 0 ∨ (n + 1) % 4 = 1 ∨ (n + 1) % 4 = 2 ∨ (n + 1) % 4 = 3 := by omega
      rcases this with z | z | z | z <;> rw [z]
      · exact ⟨_, atI_0 _ _, by decide, by decide⟩
      · exact ⟨_, atI_1 _ _ _, by decide, by decide⟩
      · exact ⟨_, atI_2 _ _ _ _, by decide, by decide⟩
      · exact ⟨_, atI_3 _ _ _ _ _, by decide, by decide⟩
    obtain ⟨p, hp, p0, p1⟩ := hp
    have pp0 : 0 < p := by omega
    have m1 : mulOk 6007 (n + 1) = true := mulOk_small (by omega) (by omega) (by omega) (by omega)
    have w1 : 0 ≤ (3 : Int) ∧ (3 : Int) ≤ 1000000 ∧ (c + 6007 * (n + 1) + 29).natAbs < 2 ^ 64 := ⟨by omega, by omega, by omega⟩
    generalize hA : (c + 6007 * (n + 1) + 29) ^ Int.toNat 3 % p = A
    have a0 : 0 ≤ A := hA ▸ Int.emod_nonneg _ (by omega)
    have a1 : A < p := hA ▸ Int.emod_lt_of_pos _ pp0
    have d1 : divOk 1021 = true := divOk_si (by omega) (by omega)
    have m2 : mulOk (A + (n + 1)) (A / 1021 + 50021) = true := mulOk_small (by omega) (by omega) (by omega) (by omega)
    generalize hB : (A + (n + 1)) * (A / 1021 + 50021) % p = B
    have b0 : 0 ≤ B := hB ▸ Int.emod_nonneg _ (by omega)
    have b1 : B < p := hB ▸ Int.emod_lt_of_pos _ pp0
    have d2 : divOk 887 = true := divOk_si (by omega) (by omega)
    have m3 : mulOk 31 (n + 1) = true := mulOk_small (by omega) (by omega) (by omega) (by omega)
    have m4 : mulOk B (B / 887 + 31 * (n + 1) + 3) = true := mulOk_small (by omega) (by omega) (by omega) (by omega)
    generalize hE : B * (B / 887 + 31 * (n + 1) + 3) % p = E1
    have d3 : divOk 13 = true := divOk_si (by omega) (by omega)
    have four : (0 : Int) < 4 := by decide
    refine ⟨E1 / 13 % k, s, n + 1, Wk_run (Wf_mk rfl ?_), Int.emod_nonneg _ (by omega), Int.emod_lt_of_pos _ k0, by omega, by omega⟩
    unfold c3__law_take src
    ((try rw [psq_nx]); (repeat (refine Ws_step fun Q' hQ' => ?_; simp (maxSteps := 1000000) only [cf, co, cb, ↓We_var, ↓We_non, ↓We_bl, ↓We_int, ↓We_str, ↓We_gl, ↓We_bin, ↓We_neg, ↓We_nt, ↓We_and, ↓We_or, ↓We_ite, ↓We_cmp, ↓We_chain, ↓We_tup, ↓We_lst, ↓We_ix, ↓We_sl, ↓We_nopart, ↓We_rvs, ↓We_call, ↓We_callK, ↓We_bi, ↓We_mth, ↓We_isi, ↓We_lc, ↓We_yes, ↓We_val, ↓We_tru, ↓Wes_nil, ↓Wes_cons, ↓Wei_seq, ↓Wei_range1, ↓Wei_range2, ↓Wei_enum, ↓Wei_zip, ↓Ws_pass, ↓Ws_brk, ↓Ws_cont, ↓Ws_nil, ↓Ws_cons, ↓Ws_asg, ↓Ws_par, ↓Ws_unp, ↓Ws_drop, ↓Ws_aug, ↓Ws_setI, ↓Ws_app, ↓Ws_ext, ↓Ws_ret, ↓Ws_retN, ↓Ws_if, ↓Ws_for, ↓Ws_never, ↓Ws_fga, psq_rt, psq_bk, psq_ct, psq_ex, pfg_nx, pfg_ct, pfg_rt, pfg_bk, pfg_ex, Rw_ok, Rw_ex, ↓Rw_bind, ↓Rw_opt, Ow_some, Ow_none, ↓Ow_bind, ↓Ow_map, ↓Ow_ite, Cw_true, Cw_false, Cw_not, callW_G, callG_none, callG_io, callKW_none', okIo_own, okIo_bor, outW_none, outW_some, ↓we_nil, ↓we_cons, ↓we_dt, ↓we_fr, ↓we_slot, ↓wk_nil, ↓wk_cons, ↓wk_dt, ↓wk_fr, ↓wk_slot, ↓wg_dt, ↓wg_fr, ↓wg_slot, ↓wr_nil, ↓wr_cons, wo_own, wc_F, wc_T, ↓wp_nil, ↓wp_cons, wput, wcell, wcl0, wclf, wclo, wmf, wmo, wmb, wwr, wwo, wwb, wfree, wfree0, wfreef, wd_add, wd_adds, wd_addl, wd_addt, wd_sub, wd_mul, wd_repl, wd_rept, wd_div, wd_mod, wd_pow, wd_eq, wd_ne, wd_lt, wd_le, wd_gt, wd_ge, wd_inl, wd_int, wd_nil, wd_nit, wd_is, wd_isn, wd_tn, wd_tb, wd_ti, wd_tl, wd_tt, wd_ixl, wd_ixt, wd_sll, wd_slt, wd_i, wd_b, wd_lenl, wd_lent, wd_sum, wd_min2, wd_max2, wd_all, wd_any, wd_abs, wd_repr, wd_inti, wd_intb, wd_list1, wd_list2, wd_tup1, wd_tup2, wd_asn, wd_ast, wd_as0, wd_as1, wd_itl, wd_itt, wd_dt, wd_fr, wd_slot, wd_bvT, wd_bvF, wd_rv, wd_pn, wd_pvar, wd_pint, wd_pbin, wd_pneg, wd_pbi, wd_pcall, wd_pix, wd_ls, wd_aa, wd_as, wd_frl, wd_fzi, isTyD, isT, D.dt, isNon, permL, initE, wipeE, restE, List.getElem?_cons_zero, List.getElem?_cons_succ, List.getElem?_nil, List.set_cons_zero, List.set_cons_succ, List.length_cons, List.length_nil, List.cons_append, List.nil_append, List.append_nil, List.replicate, List.all_cons, List.all_nil, List.any_cons, List.any_nil, List.filterMap_cons, List.filterMap_nil, Option.join_some, Option.join_none, Option.bind_some, Option.map_some, Option.map_none, Bool.and_true, Bool.and_self, Bool.or_false, Bool.false_or, Bool.true_or, Bool.or_true, Bool.not_true, Bool.not_false, true_and, and_true, and_self, or_true, true_or, or_false, false_or, if_true, if_false, Bool.false_eq_true, Bool.true_eq_false, reduceCtorEq, Nat.reduceAdd, Nat.reduceSub, Nat.reduceLT, Int.reduceNeg, Nat.reduceLeDiff, not_true_eq_false, not_false_eq_true, reduceIte, decide_true, decide_false, beq_self_eq_true, ne_eq, atI_0, atI_1, atI_2, atI_3, ↓wd_p9, ↓wd_p12, ↓wd_p15, ↓wd_p18, ↓wd_p20, ↓wd_p30, ixN_30, ixN_31, ixN_32, k0, dk, hs, h4, four, hp, pp0, m1, m2, m3, m4, w1, hA, hB, hE, d1, d2, d3]; subst hQ'; try rw [psq_nx])); (try simp only [↓Ws_nil, psq_rt, psq_ex, outW_none, outW_some, wcell, List.getElem?_cons_zero, List.getElem?_cons_succ, Option.join_some, Ow_some, true_and, and_true, and_self]))
/-! ### the first rounds -/
theorem SW_step {es cs : List Nat} (h : ∀ e ∈ es, 0 < e) {j x : Nat} (hx : es[j]? = some x) : SW (es.take (j + 1)) cs = SW (es.take j) cs * x + (cs[j]?).getD 0 := by
  have key : ∀ l : List Nat, (∀ e ∈ l, 0 < e) → (l.zipIdx 0).foldl (wzs cs) (0, 1) = (SW l cs, PD l) := fun l hl => by
    rw [wz_fold l cs cs 0 1 0 rfl]
    obtain ⟨a, b⟩ := wz_eq l cs 0 1 (by decide) hl
    rw [Nat.zero_mul, Nat.zero_add] at a
    exact Prod.ext a b
  have h1 := key (es.take (j + 1)) fun e he => h e (List.mem_of_mem_take he)
  have e : es.take (j + 1) = es.take j ++ [x] := by rw [List.take_add_one, hx]; rfl
  have hl : (es.take j).length = j := by
    have := (List.getElem?_eq_some_iff.mp hx).1
    rw [List.length_take]; omega
  rw [e, List.zipIdx_append, List.foldl_append, key (es.take j) fun e he => h e (List.mem_of_mem_take he), hl] at h1
  have h2 : _ = SW (es.take j ++ [x]) cs := congrArg Prod.fst h1
  rw [e]
  refine h2.symm.trans ?_
  simp [wzs]
theorem PD_take (es : List Nat) (j : Nat) : PD (es.take j) = pp es j := by
  rw [PD_eq]
  unfold pp
  rw [List.take_length]
theorem good_take {es : List Nat} (g : Good1 es) (j : Nat) : Good1 (es.take j) :=
  ⟨fun e h => g.ge e (List.mem_of_mem_take h), fun e h => g.lt e (List.mem_of_mem_take h), by rw [List.length_take]; have := g.len; omega, by
    rw [← PD_eq, PD_take]
    by_cases h : j ≤ es.length
    · exact pp_small g h
    · have : pp es j = pp es es.length := by unfold pp; rw [List.take_of_length_le (by omega), List.take_length]
      rw [this]; exact g.pr⟩
/-- the whole part of the weight of the first rounds -/
def ptN (es cs : List Nat) (j : Nat) : Nat := SW (es.take j) cs / pp es j
def rnD (es cs : List Nat) (N : Nat) : D := match (List.range (es.length + 1)).find? (fun j => decide (N ≤ ptN es cs j)) with
  | some j => .int j
  | none => .non
theorem find_first {n j : Nat} {p : Nat → Bool} (hj : j < n) (h : p j = true) (hn : ∀ i, i < j → p i = false) : (List.range n).find? p = some j := by
  rw [List.find?_range_eq_some]
  exact ⟨h, List.mem_range.mpr hj, fun i hi => by rw [hn i hi]; rfl⟩
theorem zipIdx_range (m : Nat) : (List.range m).zipIdx = (List.range m).map fun j => (j, j) := by
  refine List.ext_getElem? fun i => ?_
  rw [List.getElem?_zipIdx, List.getElem?_map]
  by_cases h : i < m
  · rw [List.getElem?_range h]; simp
  · rw [List.getElem?_eq_none (by simpa using h)]; rfl
theorem enum_range (f : Nat → D) (m : Nat) : enumD 0 ((List.range m).map f) = (List.range m).map fun j : Nat => D.tup [.int j, f j] := by
  rw [enumD_map0, zipIdx_range, List.map_map]; rfl
theorem range_mid {m y : Nat} {pre suf : List Nat} (h : List.range m = pre ++ y :: suf) : y = pre.length ∧ pre.length < m := by
  have e : (List.range m)[pre.length]? = some y := by rw [h, List.getElem?_append_right (Nat.le_refl _), Nat.sub_self]; rfl
  have hl : pre.length < m := by
    have := (List.getElem?_eq_some_iff.mp e).1
    rwa [List.length_range] at this
  rw [List.getElem?_range hl] at e
  exact ⟨(Option.some.inj e).symm, hl⟩
theorem SW_lt2 {es cs : List Nat} (g : Good1 es) (hc : ∀ c ∈ cs, c < 2 ^ 20000) : SW es cs < 2 ^ 28910 := by
  have hl : (pl 1 es).length ≤ 200 := by
    rw [pl_eq, List.length_map, List.length_range]; exact g.len
  have h := SW_lt g hc (pl 1 es) hl
  have h1 : (pl 1 es).length * (2 ^ 20000 * PD es) ≤ 2 ^ 8 * (2 ^ 20000 * 2 ^ 8900) := Nat.mul_le_mul (Nat.le_trans hl (by decide)) (Nat.mul_le_mul_left _ (Nat.le_of_lt (pd_lt g)))
  have h2 : (2 : Nat) ^ 8 * (2 ^ 20000 * 2 ^ 8900) = 2 ^ 28908 := by rw [← Nat.pow_add, ← Nat.pow_add]
  have h3 : (2 : Nat) ^ 28908 < 2 ^ 28910 := Nat.pow_lt_pow_right (by decide) (by decide)
  exact Nat.lt_of_le_of_lt (Nat.le_trans h (h2 ▸ h1)) h3
theorem sq_at (q : Bool) {es : List Nat} {j x : Nat} (h : es[j]? = some x) : ixD (sqD q es) (.int (j : Nat)) = some (.int (x : Nat)) := by
  have e : L2.atI (nD es) (j : Int) = some (.int (x : Nat)) := by
    apply atI_natS
    unfold nD
    rw [List.getElem?_map, h]; rfl
  cases q
  · exact e
  · exact e
def RNeedOk (F : Fn) : Prop := F.ar = 3 ∧ F.io = none ∧ ∀ (q : Bool) (es cs : List Nat) (N : Nat), Good1 es → Good2 cs → F.run [sqD q es, .tup (nD cs), .int N] = .ret false (rnD es cs N) .non
theorem ok_rneed {Γ : Nat → Option Fn} {i1 i2 i3 i4 : Nat} {F1 F2 F3 F4 : Fn} (g1 : Γ i1 = some F1) (g2 : Γ i2 = some F2) (g3 : Γ i3 = some F3) (g4 : Γ i4 = some F4)
    (h1 : ProdOk F1) (h2 : ReqNumOk F2) (h3 : ReqCountsOk F3) (h4 : ReqSchedOk F4) : RNeedOk (mkFn Γ 3 6 none (c_rounds_needed i1 i2 i3 i4)) := by
  obtain ⟨a1, b1, r1⟩ := h1
  obtain ⟨a2, b2, r2⟩ := h2
  obtain ⟨a3, b3, r3⟩ := h3
  obtain ⟨a4, b4, r4⟩ := h4
  refine ⟨rfl, rfl, fun q es cs N g hc => Wk_run (Wf_mk rfl ?_)⟩
  have e4 := Wf_ret (r4 q es g.ge g.len)
  have e3 := Wf_ret (r3 cs hc.len)
  have e2 := Wf_ret (r2 N (by omega))
  have e1 := Wf_ret (r1 q es g)
  have he : enumD 0 (nD (pref es es.length)) = (List.range (es.length + 1)).map fun j : Nat => D.tup [.int j, .int (pp es j : Nat)] := by
    rw [← enum_range]
    unfold nD pref
    rw [List.map_map]; rfl
  have hsq : ∀ j x : Nat, es[j]? = some x → ixD (sqD q es) (.int (j : Nat)) = some (.int (x : Nat)) := fun j x h => sq_at q h
  generalize sqD q es = S0 at *
  unfold c_rounds_needed
  ((try rw [psq_nx]); (repeat (refine Ws_step fun Q' hQ' => ?_; simp (maxSteps := 1000000) only [cf, co, cb, ↓We_var, ↓We_non, ↓We_bl, ↓We_int, ↓We_str, ↓We_gl, ↓We_bin, ↓We_neg, ↓We_nt, ↓We_and, ↓We_or, ↓We_ite, ↓We_cmp, ↓We_chain, ↓We_tup, ↓We_lst, ↓We_ix, ↓We_sl, ↓We_nopart, ↓We_rvs, ↓We_call, ↓We_callK, ↓We_bi, ↓We_mth, ↓We_isi, ↓We_lc, ↓We_yes, ↓We_val, ↓We_tru, ↓Wes_nil, ↓Wes_cons, ↓Wei_seq, ↓Wei_range1, ↓Wei_range2, ↓Wei_enum, ↓Wei_zip, ↓Ws_pass, ↓Ws_brk, ↓Ws_cont, ↓Ws_nil, ↓Ws_cons, ↓Ws_asg, ↓Ws_par, ↓Ws_unp, ↓Ws_drop, ↓Ws_aug, ↓Ws_setI, ↓Ws_app, ↓Ws_ext, ↓Ws_ret, ↓Ws_retN, ↓Ws_if, ↓Ws_for, ↓Ws_never, ↓Ws_fga, psq_rt, psq_bk, psq_ct, psq_ex, pfg_nx, pfg_ct, pfg_rt, pfg_bk, pfg_ex, Rw_ok, Rw_ex, ↓Rw_bind, ↓Rw_opt, Ow_some, Ow_none, ↓Ow_bind, ↓Ow_map, ↓Ow_ite, Cw_true, Cw_false, Cw_not, callW_G, callG_none, callG_io, callKW_none', okIo_own, okIo_bor, outW_none, outW_some, ↓we_nil, ↓we_cons, ↓we_dt, ↓we_fr, ↓we_slot, ↓wk_nil, ↓wk_cons, ↓wk_dt, ↓wk_fr, ↓wk_slot, ↓wg_dt, ↓wg_fr, ↓wg_slot, ↓wr_nil, ↓wr_cons, wo_own, wc_F, wc_T, ↓wp_nil, ↓wp_cons, wput, wcell, wcl0, wclf, wclo, wmf, wmo, wmb, wwr, wwo, wwb, wfree, wfree0, wfreef, wd_add, wd_adds, wd_addl, wd_addt, wd_sub, wd_mul, wd_repl, wd_rept, wd_div, wd_mod, wd_pow, wd_eq, wd_ne, wd_lt, wd_le, wd_gt, wd_ge, wd_inl, wd_int, wd_nil, wd_nit, wd_is, wd_isn, wd_tn, wd_tb, wd_ti, wd_tl, wd_tt, wd_ixl, wd_ixt, wd_sll, wd_slt, wd_i, wd_b, wd_lenl, wd_lent, wd_sum, wd_min2, wd_max2, wd_all, wd_any, wd_abs, wd_repr, wd_inti, wd_intb, wd_list1, wd_list2, wd_tup1, wd_tup2, wd_asn, wd_ast, wd_as0, wd_as1, wd_itl, wd_itt, wd_dt, wd_fr, wd_slot, wd_bvT, wd_bvF, wd_rv, wd_pn, wd_pvar, wd_pint, wd_pbin, wd_pneg, wd_pbi, wd_pcall, wd_pix, wd_ls, wd_aa, wd_as, wd_frl, wd_fzi, isTyD, isT, D.dt, isNon, permL, initE, wipeE, restE, List.getElem?_cons_zero, List.getElem?_cons_succ, List.getElem?_nil, List.set_cons_zero, List.set_cons_succ, List.length_cons, List.length_nil, List.cons_append, List.nil_append, List.append_nil, List.replicate, List.all_cons, List.all_nil, List.any_cons, List.any_nil, List.filterMap_cons, List.filterMap_nil, Option.join_some, Option.join_none, Option.bind_some, Option.map_some, Option.map_none, Bool.and_true, Bool.and_self, Bool.or_false, Bool.false_or, Bool.true_or, Bool.or_true, Bool.not_true, Bool.not_false, true_and, and_true, and_self, or_true, true_or, or_false, false_or, if_true, if_false, Bool.false_eq_true, Bool.true_eq_false, reduceCtorEq, Nat.reduceAdd, Nat.reduceSub, Nat.reduceLT, Int.reduceNeg, Nat.reduceLeDiff, not_true_eq_false, not_false_eq_true, reduceIte, decide_true, decide_false, beq_self_eq_true, ne_eq, atI_0, atI_1, atI_2, atI_3, ↓wd_p9, ↓wd_p12, ↓wd_p15, ↓wd_p18, ↓wd_p20, ↓wd_p30, ixN_30, ixN_31, ixN_32, ↓e1, ↓e2, ↓e3, ↓e4, g1, g2, g3, g4, a1, a2, a3, a4, b1, b2, b3, b4]; subst hQ'; try rw [psq_nx])); (try simp only [↓Ws_nil, psq_rt, psq_ex, outW_none, outW_some, wcell, List.getElem?_cons_zero, List.getElem?_cons_succ, Option.join_some, Ow_some, true_and, and_true, and_self]))
  rw [he]
  refine Wfor_map (fun pre cc => (∀ i < pre.length, ¬ N ≤ ptN es cs i) ∧ cc = [cf S0, cf (.tup (nD cs)), cf (.int N), cf (.int (SW (es.take (pre.length - 1)) cs : Nat)), none, none]) ⟨by simp, by cases cs <;> rfl⟩ (fun pre y suf cc e hI => ?_) fun cc hI => ?_
  · obtain ⟨hn, rfl⟩ := hI
    obtain ⟨rfl, hlt⟩ := range_mid e
    have eI : (pre ++ [pre.length]).length = pre.length + 1 := by simp
    have hd := divOk_nat (pp_pos g.ge pre.length) (p9000 (pp_small g (j := pre.length) (by omega)))
    have hret : N ≤ ptN es cs pre.length → rnD es cs N = .int (pre.length : Nat) := fun h => by
      unfold rnD
      rw [find_first hlt (decide_eq_true h) fun i hi => decide_eq_false (hn i hi)]
    have hnx : ¬ N ≤ ptN es cs pre.length → ∀ i < pre.length + 1, ¬ N ≤ ptN es cs i := fun h i hi => by
      by_cases hi' : i = pre.length
      · rw [hi']; exact h
      · exact hn i (by omega)
    have hcast : ((SW (es.take pre.length) cs : Nat) : Int) / (pp es pre.length : Nat) = (ptN es cs pre.length : Nat) := rfl
    rw [eI]
    generalize pre.length = j at *
    have fin : N ≤ ptN es cs j ∨ ¬ N ≤ ptN es cs j := Decidable.em _
    rcases Nat.eq_zero_or_pos j with rfl | hj
    · have h0 : ¬ (0 : Int) < ((0 : Nat) : Int) := by decide
      rcases fin with hN | hN
      · have hN' : (N : Int) ≤ (ptN es cs 0 : Nat) := by omega
        simp (maxSteps := 1000000) only [cf, co, cb, ↓We_var, ↓We_non, ↓We_bl, ↓We_int, ↓We_str, ↓We_gl, ↓We_bin, ↓We_neg, ↓We_nt, ↓We_and, ↓We_or, ↓We_ite, ↓We_cmp, ↓We_chain, ↓We_tup, ↓We_lst, ↓We_ix, ↓We_sl, ↓We_nopart, ↓We_rvs, ↓We_call, ↓We_callK, ↓We_bi, ↓We_mth, ↓We_isi, ↓We_lc, ↓We_yes, ↓We_val, ↓We_tru, ↓Wes_nil, ↓Wes_cons, ↓Wei_seq, ↓Wei_range1, ↓Wei_range2, ↓Wei_enum, ↓Wei_zip, ↓Ws_pass, ↓Ws_brk, ↓Ws_cont, ↓Ws_nil, ↓Ws_cons, ↓Ws_asg, ↓Ws_par, ↓Ws_unp, ↓Ws_drop, ↓Ws_aug, ↓Ws_setI, ↓Ws_app, ↓Ws_ext, ↓Ws_ret, ↓Ws_retN, ↓Ws_if, ↓Ws_for, ↓Ws_never, ↓Ws_fga, psq_rt, psq_bk, psq_ct, psq_ex, pfg_nx, pfg_ct, pfg_rt, pfg_bk, pfg_ex, Rw_ok, Rw_ex, ↓Rw_bind, ↓Rw_opt, Ow_some, Ow_none, ↓Ow_bind, ↓Ow_map, ↓Ow_ite, Cw_true, Cw_false, Cw_not, callW_G, callG_none, callG_io, callKW_none', okIo_own, okIo_bor, outW_none, outW_some, ↓we_nil, ↓we_cons, ↓we_dt, ↓we_fr, ↓we_slot, ↓wk_nil, ↓wk_cons, ↓wk_dt, ↓wk_fr, ↓wk_slot, ↓wg_dt, ↓wg_fr, ↓wg_slot, ↓wr_nil, ↓wr_cons, wo_own, wc_F, wc_T, ↓wp_nil, ↓wp_cons, wput, wcell, wcl0, wclf, wclo, wmf, wmo, wmb, wwr, wwo, wwb, wfree, wfree0, wfreef, wd_add, wd_adds, wd_addl, wd_addt, wd_sub, wd_mul, wd_repl, wd_rept, wd_div, wd_mod, wd_pow, wd_eq, wd_ne, wd_lt, wd_le, wd_gt, wd_ge, wd_inl, wd_int, wd_nil, wd_nit, wd_is, wd_isn, wd_tn, wd_tb, wd_ti, wd_tl, wd_tt, wd_ixl, wd_ixt, wd_sll, wd_slt, wd_i, wd_b, wd_lenl, wd_lent, wd_sum, wd_min2, wd_max2, wd_all, wd_any, wd_abs, wd_repr, wd_inti, wd_intb, wd_list1, wd_list2, wd_tup1, wd_tup2, wd_asn, wd_ast, wd_as0, wd_as1, wd_itl, wd_itt, wd_dt, wd_fr, wd_slot, wd_bvT, wd_bvF, wd_rv, wd_pn, wd_pvar, wd_pint, wd_pbin, wd_pneg, wd_pbi, wd_pcall, wd_pix, wd_ls, wd_aa, wd_as, wd_frl, wd_fzi, isTyD, isT, D.dt, isNon, permL, initE, wipeE, restE, List.getElem?_cons_zero, List.getElem?_cons_succ, List.getElem?_nil, List.set_cons_zero, List.set_cons_succ, List.length_cons, List.length_nil, List.cons_append, List.nil_append, List.append_nil, List.replicate, List.all_cons, List.all_nil, List.any_cons, List.any_nil, List.filterMap_cons, List.filterMap_nil, Option.join_some, Option.join_none, Option.bind_some, Option.map_some, Option.map_none, Bool.and_true, Bool.and_self, Bool.or_false, Bool.false_or, Bool.true_or, Bool.or_true, Bool.not_true, Bool.not_false, true_and, and_true, and_self, or_true, true_or, or_false, false_or, if_true, if_false, Bool.false_eq_true, Bool.true_eq_false, reduceCtorEq, Nat.reduceAdd, Nat.reduceSub, Nat.reduceLT, Int.reduceNeg, Nat.reduceLeDiff, not_true_eq_false, not_false_eq_true, reduceIte, decide_true, decide_false, beq_self_eq_true, ne_eq, atI_0, atI_1, atI_2, atI_3, ↓wd_p9, ↓wd_p12, ↓wd_p15, ↓wd_p18, ↓wd_p20, ↓wd_p30, ixN_30, ixN_31, ixN_32, psq_nx, h0, hd, hcast, hN', hret hN, Nat.zero_sub]
      · have hN' : ¬ (N : Int) ≤ (ptN es cs 0 : Nat) := by omega
        simp (maxSteps := 1000000) only [cf, co, cb, ↓We_var, ↓We_non, ↓We_bl, ↓We_int, ↓We_str, ↓We_gl, ↓We_bin, ↓We_neg, ↓We_nt, ↓We_and, ↓We_or, ↓We_ite, ↓We_cmp, ↓We_chain, ↓We_tup, ↓We_lst, ↓We_ix, ↓We_sl, ↓We_nopart, ↓We_rvs, ↓We_call, ↓We_callK, ↓We_bi, ↓We_mth, ↓We_isi, ↓We_lc, ↓We_yes, ↓We_val, ↓We_tru, ↓Wes_nil, ↓Wes_cons, ↓Wei_seq, ↓Wei_range1, ↓Wei_range2, ↓Wei_enum, ↓Wei_zip, ↓Ws_pass, ↓Ws_brk, ↓Ws_cont, ↓Ws_nil, ↓Ws_cons, ↓Ws_asg, ↓Ws_par, ↓Ws_unp, ↓Ws_drop, ↓Ws_aug, ↓Ws_setI, ↓Ws_app, ↓Ws_ext, ↓Ws_ret, ↓Ws_retN, ↓Ws_if, ↓Ws_for, ↓Ws_never, ↓Ws_fga, psq_rt, psq_bk, psq_ct, psq_ex, pfg_nx, pfg_ct, pfg_rt, pfg_bk, pfg_ex, Rw_ok, Rw_ex, ↓Rw_bind, ↓Rw_opt, Ow_some, Ow_none, ↓Ow_bind, ↓Ow_map, ↓Ow_ite, Cw_true, Cw_false, Cw_not, callW_G, callG_none, callG_io, callKW_none', okIo_own, okIo_bor, outW_none, outW_some, ↓we_nil, ↓we_cons, ↓we_dt, ↓we_fr, ↓we_slot, ↓wk_nil, ↓wk_cons, ↓wk_dt, ↓wk_fr, ↓wk_slot, ↓wg_dt, ↓wg_fr, ↓wg_slot, ↓wr_nil, ↓wr_cons, wo_own, wc_F, wc_T, ↓wp_nil, ↓wp_cons, wput, wcell, wcl0, wclf, wclo, wmf, wmo, wmb, wwr, wwo, wwb, wfree, wfree0, wfreef, wd_add, wd_adds, wd_addl, wd_addt, wd_sub, wd_mul, wd_repl, wd_rept, wd_div, wd_mod, wd_pow, wd_eq, wd_ne, wd_lt, wd_le, wd_gt, wd_ge, wd_inl, wd_int, wd_nil, wd_nit, wd_is, wd_isn, wd_tn, wd_tb, wd_ti, wd_tl, wd_tt, wd_ixl, wd_ixt, wd_sll, wd_slt, wd_i, wd_b, wd_lenl, wd_lent, wd_sum, wd_min2, wd_max2, wd_all, wd_any, wd_abs, wd_repr, wd_inti, wd_intb, wd_list1, wd_list2, wd_tup1, wd_tup2, wd_asn, wd_ast, wd_as0, wd_as1, wd_itl, wd_itt, wd_dt, wd_fr, wd_slot, wd_bvT, wd_bvF, wd_rv, wd_pn, wd_pvar, wd_pint, wd_pbin, wd_pneg, wd_pbi, wd_pcall, wd_pix, wd_ls, wd_aa, wd_as, wd_frl, wd_fzi, isTyD, isT, D.dt, isNon, permL, initE, wipeE, restE, List.getElem?_cons_zero, List.getElem?_cons_succ, List.getElem?_nil, List.set_cons_zero, List.set_cons_succ, List.length_cons, List.length_nil, List.cons_append, List.nil_append, List.append_nil, List.replicate, List.all_cons, List.all_nil, List.any_cons, List.any_nil, List.filterMap_cons, List.filterMap_nil, Option.join_some, Option.join_none, Option.bind_some, Option.map_some, Option.map_none, Bool.and_true, Bool.and_self, Bool.or_false, Bool.false_or, Bool.true_or, Bool.or_true, Bool.not_true, Bool.not_false, true_and, and_true, and_self, or_true, true_or, or_false, false_or, if_true, if_false, Bool.false_eq_true, Bool.true_eq_false, reduceCtorEq, Nat.reduceAdd, Nat.reduceSub, Nat.reduceLT, Int.reduceNeg, Nat.reduceLeDiff, not_true_eq_false, not_false_eq_true, reduceIte, decide_true, decide_false, beq_self_eq_true, ne_eq, atI_0, atI_1, atI_2, atI_3, ↓wd_p9, ↓wd_p12, ↓wd_p15, ↓wd_p18, ↓wd_p20, ↓wd_p30, ixN_30, ixN_31, ixN_32, psq_nx, h0, hd, hcast, hN', Nat.zero_sub]
        exact hnx hN
    · have h0 : (0 : Int) < (j : Int) := by omega
      have hj1 : (j : Int) - 1 = ((j - 1 : Nat) : Int) := by omega
      obtain ⟨x, hx⟩ : ∃ x, es[j - 1]? = some x := ⟨_, List.getElem?_eq_getElem (by omega)⟩
      have hix := hsq _ _ hx
      have hst := SW_step (cs := cs) (fun e he => by have := g.ge e he; omega) hx
      rw [show j - 1 + 1 = j by omega] at hst
      have m : mulOk ((SW (es.take (j - 1)) cs : Nat) : Int) (x : Nat) = true := mul_nat 28910 50 (SW_lt2 (good_take g _) hc.lt) (g.lt x (List.mem_of_getElem? hx)) (by decide) (by decide) (by decide)
      have hj2 : j + 1 - 1 = j := by omega
      by_cases hl : j ≤ cs.length
      · have hl' : (j : Int) ≤ (cs.length : Int) := by omega
        have hat := nD_at cs (j - 1) (by omega)
        have hs : ((SW (es.take (j - 1)) cs : Nat) : Int) * (x : Nat) + ((cs[j - 1]?).getD 0 : Nat) = (SW (es.take j) cs : Nat) := by rw [hst]; simp
        rcases fin with hN | hN
        · have hN' : (N : Int) ≤ (ptN es cs j : Nat) := by omega
          simp (maxSteps := 1000000) only [cf, co, cb, ↓We_var, ↓We_non, ↓We_bl, ↓We_int, ↓We_str, ↓We_gl, ↓We_bin, ↓We_neg, ↓We_nt, ↓We_and, ↓We_or, ↓We_ite, ↓We_cmp, ↓We_chain, ↓We_tup, ↓We_lst, ↓We_ix, ↓We_sl, ↓We_nopart, ↓We_rvs, ↓We_call, ↓We_callK, ↓We_bi, ↓We_mth, ↓We_isi, ↓We_lc, ↓We_yes, ↓We_val, ↓We_tru, ↓Wes_nil, ↓Wes_cons, ↓Wei_seq, ↓Wei_range1, ↓Wei_range2, ↓Wei_enum, ↓Wei_zip, ↓Ws_pass, ↓Ws_brk, ↓Ws_cont, ↓Ws_nil, ↓Ws_cons, ↓Ws_asg, ↓Ws_par, ↓Ws_unp, ↓Ws_drop, ↓Ws_aug, ↓Ws_setI, ↓Ws_app, ↓Ws_ext, ↓Ws_ret, ↓Ws_retN, ↓Ws_if, ↓Ws_for, ↓Ws_never, ↓Ws_fga, psq_rt, psq_bk, psq_ct, psq_ex, pfg_nx, pfg_ct, pfg_rt, pfg_bk, pfg_ex, Rw_ok, Rw_ex, ↓Rw_bind, ↓Rw_opt, Ow_some, Ow_none, ↓Ow_bind, ↓Ow_map, ↓Ow_ite, Cw_true, Cw_false, Cw_not, callW_G, callG_none, callG_io, callKW_none', okIo_own, okIo_bor, outW_none, outW_some, ↓we_nil, ↓we_cons, ↓we_dt, ↓we_fr, ↓we_slot, ↓wk_nil, ↓wk_cons, ↓wk_dt, ↓wk_fr, ↓wk_slot, ↓wg_dt, ↓wg_fr, ↓wg_slot, ↓wr_nil, ↓wr_cons, wo_own, wc_F, wc_T, ↓wp_nil, ↓wp_cons, wput, wcell, wcl0, wclf, wclo, wmf, wmo, wmb, wwr, wwo, wwb, wfree, wfree0, wfreef, wd_add, wd_adds, wd_addl, wd_addt, wd_sub, wd_mul, wd_repl, wd_rept, wd_div, wd_mod, wd_pow, wd_eq, wd_ne, wd_lt, wd_le, wd_gt, wd_ge, wd_inl, wd_int, wd_nil, wd_nit, wd_is, wd_isn, wd_tn, wd_tb, wd_ti, wd_tl, wd_tt, wd_ixl, wd_ixt, wd_sll, wd_slt, wd_i, wd_b, wd_lenl, wd_lent, wd_sum, wd_min2, wd_max2, wd_all, wd_any, wd_abs, wd_repr, wd_inti, wd_intb, wd_list1, wd_list2, wd_tup1, wd_tup2, wd_asn, wd_ast, wd_as0, wd_as1, wd_itl, wd_itt, wd_dt, wd_fr, wd_slot, wd_bvT, wd_bvF, wd_rv, wd_pn, wd_pvar, wd_pint, wd_pbin, wd_pneg, wd_pbi, wd_pcall, wd_pix, wd_ls, wd_aa, wd_as, wd_frl, wd_fzi, isTyD, isT, D.dt, isNon, permL, initE, wipeE, restE, List.getElem?_cons_zero, List.getElem?_cons_succ, List.getElem?_nil, List.set_cons_zero, List.set_cons_succ, List.length_cons, List.length_nil, List.cons_append, List.nil_append, List.append_nil, List.replicate, List.all_cons, List.all_nil, List.any_cons, List.any_nil, List.filterMap_cons, List.filterMap_nil, Option.join_some, Option.join_none, Option.bind_some, Option.map_some, Option.map_none, Bool.and_true, Bool.and_self, Bool.or_false, Bool.false_or, Bool.true_or, Bool.or_true, Bool.not_true, Bool.not_false, true_and, and_true, and_self, or_true, true_or, or_false, false_or, if_true, if_false, Bool.false_eq_true, Bool.true_eq_false, reduceCtorEq, Nat.reduceAdd, Nat.reduceSub, Nat.reduceLT, Int.reduceNeg, Nat.reduceLeDiff, not_true_eq_false, not_false_eq_true, reduceIte, decide_true, decide_false, beq_self_eq_true, ne_eq, atI_0, atI_1, atI_2, atI_3, ↓wd_p9, ↓wd_p12, ↓wd_p15, ↓wd_p18, ↓wd_p20, ↓wd_p30, ixN_30, ixN_31, ixN_32, psq_nx, h0, hd, hj1, hix, m, hl', nD_length, hat, hs, hcast, hN', hret hN]
        · have hN' : ¬ (N : Int) ≤ (ptN es cs j : Nat) := by omega
          simp (maxSteps := 1000000) only [cf, co, cb, ↓We_var, ↓We_non, ↓We_bl, ↓We_int, ↓We_str, ↓We_gl, ↓We_bin, ↓We_neg, ↓We_nt, ↓We_and, ↓We_or, ↓We_ite, ↓We_cmp, ↓We_chain, ↓We_tup, ↓We_lst, ↓We_ix, ↓We_sl, ↓We_nopart, ↓We_rvs, ↓We_call, ↓We_callK, ↓We_bi, ↓We_mth, ↓We_isi, ↓We_lc, ↓We_yes, ↓We_val, ↓We_tru, ↓Wes_nil, ↓Wes_cons, ↓Wei_seq, ↓Wei_range1, ↓Wei_range2, ↓Wei_enum, ↓Wei_zip, ↓Ws_pass, ↓Ws_brk, ↓Ws_cont, ↓Ws_nil, ↓Ws_cons, ↓Ws_asg, ↓Ws_par, ↓Ws_unp, ↓Ws_drop, ↓Ws_aug, ↓Ws_setI, ↓Ws_app, ↓Ws_ext, ↓Ws_ret, ↓Ws_retN, ↓Ws_if, ↓Ws_for, ↓Ws_never, ↓Ws_fga, psq_rt, psq_bk, psq_ct, psq_ex, pfg_nx, pfg_ct, pfg_rt, pfg_bk, pfg_ex, Rw_ok, Rw_ex, ↓Rw_bind, ↓Rw_opt, Ow_some, Ow_none, ↓Ow_bind, ↓Ow_map, ↓Ow_ite, Cw_true, Cw_false, Cw_not, callW_G, callG_none, callG_io, callKW_none', okIo_own, okIo_bor, outW_none, outW_some, ↓we_nil, ↓we_cons, ↓we_dt, ↓we_fr, ↓we_slot, ↓wk_nil, ↓wk_cons, ↓wk_dt, ↓wk_fr, ↓wk_slot, ↓wg_dt, ↓wg_fr, ↓wg_slot, ↓wr_nil, ↓wr_cons, wo_own, wc_F, wc_T, ↓wp_nil, ↓wp_cons, wput, wcell, wcl0, wclf, wclo, wmf, wmo, wmb, wwr, wwo, wwb, wfree, wfree0, wfreef, wd_add, wd_adds, wd_addl, wd_addt, wd_sub, wd_mul, wd_repl, wd_rept, wd_div, wd_mod, wd_pow, wd_eq, wd_ne, wd_lt, wd_le, wd_gt, wd_ge, wd_inl, wd_int, wd_nil, wd_nit, wd_is, wd_isn, wd_tn, wd_tb, wd_ti, wd_tl, wd_tt, wd_ixl, wd_ixt, wd_sll, wd_slt, wd_i, wd_b, wd_lenl, wd_lent, wd_sum, wd_min2, wd_max2, wd_all, wd_any, wd_abs, wd_repr, wd_inti, wd_intb, wd_list1, wd_list2, wd_tup1, wd_tup2, wd_asn, wd_ast, wd_as0, wd_as1, wd_itl, wd_itt, wd_dt, wd_fr, wd_slot, wd_bvT, wd_bvF, wd_rv, wd_pn, wd_pvar, wd_pint, wd_pbin, wd_pneg, wd_pbi, wd_pcall, wd_pix, wd_ls, wd_aa, wd_as, wd_frl, wd_fzi, isTyD, isT, D.dt, isNon, permL, initE, wipeE, restE, List.getElem?_cons_zero, List.getElem?_cons_succ, List.getElem?_nil, List.set_cons_zero, List.set_cons_succ, List.length_cons, List.length_nil, List.cons_append, List.nil_append, List.append_nil, List.replicate, List.all_cons, List.all_nil, List.any_cons, List.any_nil, List.filterMap_cons, List.filterMap_nil, Option.join_some, Option.join_none, Option.bind_some, Option.map_some, Option.map_none, Bool.and_true, Bool.and_self, Bool.or_false, Bool.false_or, Bool.true_or, Bool.or_true, Bool.not_true, Bool.not_false, true_and, and_true, and_self, or_true, true_or, or_false, false_or, if_true, if_false, Bool.false_eq_true, Bool.true_eq_false, reduceCtorEq, Nat.reduceAdd, Nat.reduceSub, Nat.reduceLT, Int.reduceNeg, Nat.reduceLeDiff, not_true_eq_false, not_false_eq_true, reduceIte, decide_true, decide_false, beq_self_eq_true, ne_eq, atI_0, atI_1, atI_2, atI_3, ↓wd_p9, ↓wd_p12, ↓wd_p15, ↓wd_p18, ↓wd_p20, ↓wd_p30, ixN_30, ixN_31, ixN_32, psq_nx, h0, hd, hj1, hix, m, hl', nD_length, hat, hs, hcast, hN', hj2]
          exact hnx hN
      · have hl' : ¬ (j : Int) ≤ (cs.length : Int) := by omega
        have hs : ((SW (es.take (j - 1)) cs : Nat) : Int) * (x : Nat) + 0 = (SW (es.take j) cs : Nat) := by
          rw [hst, List.getElem?_eq_none (by omega)]; simp
        rcases fin with hN | hN
        · have hN' : (N : Int) ≤ (ptN es cs j : Nat) := by omega
          simp (maxSteps := 1000000) only [cf, co, cb, ↓We_var, ↓We_non, ↓We_bl, ↓We_int, ↓We_str, ↓We_gl, ↓We_bin, ↓We_neg, ↓We_nt, ↓We_and, ↓We_or, ↓We_ite, ↓We_cmp, ↓We_chain, ↓We_tup, ↓We_lst, ↓We_ix, ↓We_sl, ↓We_nopart, ↓We_rvs, ↓We_call, ↓We_callK, ↓We_bi, ↓We_mth, ↓We_isi, ↓We_lc, ↓We_yes, ↓We_val, ↓We_tru, ↓Wes_nil, ↓Wes_cons, ↓Wei_seq, ↓Wei_range1, ↓Wei_range2, ↓Wei_enum, ↓Wei_zip, ↓Ws_pass, ↓Ws_brk, ↓Ws_cont, ↓Ws_nil, ↓Ws_cons, ↓Ws_asg, ↓Ws_par, ↓Ws_unp, ↓Ws_drop, ↓Ws_aug, ↓Ws_setI, ↓Ws_app, ↓Ws_ext, ↓Ws_ret, ↓Ws_retN, ↓Ws_if, ↓Ws_for, ↓Ws_never, ↓Ws_fga, psq_rt, psq_bk, psq_ct, psq_ex, pfg_nx, pfg_ct, pfg_rt, pfg_bk, pfg_ex, Rw_ok, Rw_ex, ↓Rw_bind, ↓Rw_opt, Ow_some, Ow_none, ↓Ow_bind, ↓Ow_map, ↓Ow_ite, Cw_true, Cw_false, Cw_not, callW_G, callG_none, callG_io, callKW_none', okIo_own, okIo_bor, outW_none, outW_some, ↓we_nil, ↓we_cons, ↓we_dt, ↓we_fr, ↓we_slot, ↓wk_nil, ↓wk_cons, ↓wk_dt, ↓wk_fr, ↓wk_slot, ↓wg_dt, ↓wg_fr, ↓wg_slot, ↓wr_nil, ↓wr_cons, wo_own, wc_F, wc_T, ↓wp_nil, ↓wp_cons, wput, wcell, wcl0, wclf, wclo, wmf, wmo, wmb, wwr, wwo, wwb, wfree, wfree0, wfreef, wd_add, wd_adds, wd_addl, wd_addt, wd_sub, wd_mul, wd_repl, wd_rept, wd_div, wd_mod, wd_pow, wd_eq, wd_ne, wd_lt, wd_le, wd_gt, wd_ge, wd_inl, wd_int, wd_nil, wd_nit, wd_is, wd_isn, wd_tn, wd_tb, wd_ti, wd_tl, wd_tt, wd_ixl, wd_ixt, wd_sll, wd_slt, wd_i, wd_b, wd_lenl, wd_lent, wd_sum, wd_min2, wd_max2, wd_all, wd_any, wd_abs, wd_repr, wd_inti, wd_intb, wd_list1, wd_list2, wd_tup1, wd_tup2, wd_asn, wd_ast, wd_as0, wd_as1, wd_itl, wd_itt, wd_dt, wd_fr, wd_slot, wd_bvT, wd_bvF, wd_rv, wd_pn, wd_pvar, wd_pint, wd_pbin, wd_pneg, wd_pbi, wd_pcall, wd_pix, wd_ls, wd_aa, wd_as, wd_frl, wd_fzi, isTyD, isT, D.dt, isNon, permL, initE, wipeE, restE, List.getElem?_cons_zero, List.getElem?_cons_succ, List.getElem?_nil, List.set_cons_zero, List.set_cons_succ, List.length_cons, List.length_nil, List.cons_append, List.nil_append, List.append_nil, List.replicate, List.all_cons, List.all_nil, List.any_cons, List.any_nil, List.filterMap_cons, List.filterMap_nil, Option.join_some, Option.join_none, Option.bind_some, Option.map_some, Option.map_none, Bool.and_true, Bool.and_self, Bool.or_false, Bool.false_or, Bool.true_or, Bool.or_true, Bool.not_true, Bool.not_false, true_and, and_true, and_self, or_true, true_or, or_false, false_or, if_true, if_false, Bool.false_eq_true, Bool.true_eq_false, reduceCtorEq, Nat.reduceAdd, Nat.reduceSub, Nat.reduceLT, Int.reduceNeg, Nat.reduceLeDiff, not_true_eq_false, not_false_eq_true, reduceIte, decide_true, decide_false, beq_self_eq_true, ne_eq, atI_0, atI_1, atI_2, atI_3, ↓wd_p9, ↓wd_p12, ↓wd_p15, ↓wd_p18, ↓wd_p20, ↓wd_p30, ixN_30, ixN_31, ixN_32, psq_nx, h0, hd, hj1, hix, m, hl', nD_length, hs, hcast, hN', hret hN]
        · have hN' : ¬ (N : Int) ≤ (ptN es cs j : Nat) := by omega
          simp (maxSteps := 1000000) only [cf, co, cb, ↓We_var, ↓We_non, ↓We_bl, ↓We_int, ↓We_str, ↓We_gl, ↓We_bin, ↓We_neg, ↓We_nt, ↓We_and, ↓We_or, ↓We_ite, ↓We_cmp, ↓We_chain, ↓We_tup, ↓We_lst, ↓We_ix, ↓We_sl, ↓We_nopart, ↓We_rvs, ↓We_call, ↓We_callK, ↓We_bi, ↓We_mth, ↓We_isi, ↓We_lc, ↓We_yes, ↓We_val, ↓We_tru, ↓Wes_nil, ↓Wes_cons, ↓Wei_seq, ↓Wei_range1, ↓Wei_range2, ↓Wei_enum, ↓Wei_zip, ↓Ws_pass, ↓Ws_brk, ↓Ws_cont, ↓Ws_nil, ↓Ws_cons, ↓Ws_asg, ↓Ws_par, ↓Ws_unp, ↓Ws_drop, ↓Ws_aug, ↓Ws_setI, ↓Ws_app, ↓Ws_ext, ↓Ws_ret, ↓Ws_retN, ↓Ws_if, ↓Ws_for, ↓Ws_never, ↓Ws_fga, psq_rt, psq_bk, psq_ct, psq_ex, pfg_nx, pfg_ct, pfg_rt, pfg_bk, pfg_ex, Rw_ok, Rw_ex, ↓Rw_bind, ↓Rw_opt, Ow_some, Ow_none, ↓Ow_bind, ↓Ow_map, ↓Ow_ite, Cw_true, Cw_false, Cw_not, callW_G, callG_none, callG_io, callKW_none', okIo_own, okIo_bor, outW_none, outW_some, ↓we_nil, ↓we_cons, ↓we_dt, ↓we_fr, ↓we_slot, ↓wk_nil, ↓wk_cons, ↓wk_dt, ↓wk_fr, ↓wk_slot, ↓wg_dt, ↓wg_fr, ↓wg_slot, ↓wr_nil, ↓wr_cons, wo_own, wc_F, wc_T, ↓wp_nil, ↓wp_cons, wput, wcell, wcl0, wclf, wclo, wmf, wmo, wmb, wwr, wwo, wwb, wfree, wfree0, wfreef, wd_add, wd_adds, wd_addl, wd_addt, wd_sub, wd_mul, wd_repl, wd_rept, wd_div, wd_mod, wd_pow, wd_eq, wd_ne, wd_lt, wd_le, wd_gt, wd_ge, wd_inl, wd_int, wd_nil, wd_nit, wd_is, wd_isn, wd_tn, wd_tb, wd_ti, wd_tl, wd_tt, wd_ixl, wd_ixt, wd_sll, wd_slt, wd_i, wd_b, wd_lenl, wd_lent, wd_sum, wd_min2, wd_max2, wd_all, wd_any, wd_abs, wd_repr, wd_inti, wd_intb, wd_list1, wd_list2, wd_tup1, wd_tup2, wd_asn, wd_ast, wd_as0, wd_as1, wd_itl, wd_itt, wd_dt, wd_fr, wd_slot, wd_bvT, wd_bvF, wd_rv, wd_pn, wd_pvar, wd_pint, wd_pbin, wd_pneg, wd_pbi, wd_pcall, wd_pix, wd_ls, wd_aa, wd_as, wd_frl, wd_fzi, isTyD, isT, D.dt, isNon, permL, initE, wipeE, restE, List.getElem?_cons_zero, List.getElem?_cons_succ, List.getElem?_nil, List.set_cons_zero, List.set_cons_succ, List.length_cons, List.length_nil, List.cons_append, List.nil_append, List.append_nil, List.replicate, List.all_cons, List.all_nil, List.any_cons, List.any_nil, List.filterMap_cons, List.filterMap_nil, Option.join_some, Option.join_none, Option.bind_some, Option.map_some, Option.map_none, Bool.and_true, Bool.and_self, Bool.or_false, Bool.false_or, Bool.true_or, Bool.or_true, Bool.not_true, Bool.not_false, true_and, and_true, and_self, or_true, true_or, or_false, false_or, if_true, if_false, Bool.false_eq_true, Bool.true_eq_false, reduceCtorEq, Nat.reduceAdd, Nat.reduceSub, Nat.reduceLT, Int.reduceNeg, Nat.reduceLeDiff, not_true_eq_false, not_false_eq_true, reduceIte, decide_true, decide_false, beq_self_eq_true, ne_eq, atI_0, atI_1, atI_2, atI_3, ↓wd_p9, ↓wd_p12, ↓wd_p15, ↓wd_p18, ↓wd_p20, ↓wd_p30, ixN_30, ixN_31, ixN_32, psq_nx, h0, hd, hj1, hix, m, hl', nD_length, hs, hcast, hN', hj2]
          exact hnx hN
  · obtain ⟨hn, rfl⟩ := hI
    rw [List.length_range] at hn
    have hr : rnD es cs N = .non := by
      unfold rnD
      rw [List.find?_eq_none.mpr fun i hi => by simpa using hn i (List.mem_range.mp hi)]
    rw [hr]
    ((try rw [psq_nx]); (repeat (refine Ws_step fun Q' hQ' => ?_; simp (maxSteps := 1000000) only [cf, co, cb, ↓We_var, ↓We_non, ↓We_bl, ↓We_int, ↓We_str, ↓We_gl, ↓We_bin, ↓We_neg, ↓We_nt, ↓We_and, ↓We_or, ↓We_ite, ↓We_cmp, ↓We_chain, ↓We_tup, ↓We_lst, ↓We_ix, ↓We_sl, ↓We_nopart, ↓We_rvs, ↓We_call, ↓We_callK, ↓We_bi, ↓We_mth, ↓We_isi, ↓We_lc, ↓We_yes, ↓We_val, ↓We_tru, ↓Wes_nil, ↓Wes_cons, ↓Wei_seq, ↓Wei_range1, ↓Wei_range2, ↓Wei_enum, ↓Wei_zip, ↓Ws_pass, ↓Ws_brk, ↓Ws_cont, ↓Ws_nil, ↓Ws_cons, ↓Ws_asg, ↓Ws_par, ↓Ws_unp, ↓Ws_drop, ↓Ws_aug, ↓Ws_setI, ↓Ws_app, ↓Ws_ext, ↓Ws_ret, ↓Ws_retN, ↓Ws_if, ↓Ws_for, ↓Ws_never, ↓Ws_fga, psq_rt, psq_bk, psq_ct, psq_ex, pfg_nx, pfg_ct, pfg_rt, pfg_bk, pfg_ex, Rw_ok, Rw_ex, ↓Rw_bind, ↓Rw_opt, Ow_some, Ow_none, ↓Ow_bind, ↓Ow_map, ↓Ow_ite, Cw_true, Cw_false, Cw_not, callW_G, callG_none, callG_io, callKW_none', okIo_own, okIo_bor, outW_none, outW_some, ↓we_nil, ↓we_cons, ↓we_dt, ↓we_fr, ↓we_slot, ↓wk_nil, ↓wk_cons, ↓wk_dt, ↓wk_fr, ↓wk_slot, ↓wg_dt, ↓wg_fr, ↓wg_slot, ↓wr_nil, ↓wr_cons, wo_own, wc_F, wc_T, ↓wp_nil, ↓wp_cons, wput, wcell, wcl0, wclf, wclo, wmf, wmo, wmb, wwr, wwo, wwb, wfree, wfree0, wfreef, wd_add, wd_adds, wd_addl, wd_addt, wd_sub, wd_mul, wd_repl, wd_rept, wd_div, wd_mod, wd_pow, wd_eq, wd_ne, wd_lt, wd_le, wd_gt, wd_ge, wd_inl, wd_int, wd_nil, wd_nit, wd_is, wd_isn, wd_tn, wd_tb, wd_ti, wd_tl, wd_tt, wd_ixl, wd_ixt, wd_sll, wd_slt, wd_i, wd_b, wd_lenl, wd_lent, wd_sum, wd_min2, wd_max2, wd_all, wd_any, wd_abs, wd_repr, wd_inti, wd_intb, wd_list1, wd_list2, wd_tup1, wd_tup2, wd_asn, wd_ast, wd_as0, wd_as1, wd_itl, wd_itt, wd_dt, wd_fr, wd_slot, wd_bvT, wd_bvF, wd_rv, wd_pn, wd_pvar, wd_pint, wd_pbin, wd_pneg, wd_pbi, wd_pcall, wd_pix, wd_ls, wd_aa, wd_as, wd_frl, wd_fzi, isTyD, isT, D.dt, isNon, permL, initE, wipeE, restE, List.getElem?_cons_zero, List.getElem?_cons_succ, List.getElem?_nil, List.set_cons_zero, List.set_cons_succ, List.length_cons, List.length_nil, List.cons_append, List.nil_append, List.append_nil, List.replicate, List.all_cons, List.all_nil, List.any_cons, List.any_nil, List.filterMap_cons, List.filterMap_nil, Option.join_some, Option.join_none, Option.bind_some, Option.map_some, Option.map_none, Bool.and_true, Bool.and_self, Bool.or_false, Bool.false_or, Bool.true_or, Bool.or_true, Bool.not_true, Bool.not_false, true_and, and_true, and_self, or_true, true_or, or_false, false_or, if_true, if_false, Bool.false_eq_true, Bool.true_eq_false, reduceCtorEq, Nat.reduceAdd, Nat.reduceSub, Nat.reduceLT, Int.reduceNeg, Nat.reduceLeDiff, not_true_eq_false, not_false_eq_true, reduceIte, decide_true, decide_false, beq_self_eq_true, ne_eq, atI_0, atI_1, atI_2, atI_3, ↓wd_p9, ↓wd_p12, ↓wd_p15, ↓wd_p18, ↓wd_p20, ↓wd_p30, ixN_30, ixN_31, ixN_32]; subst hQ'; try rw [psq_nx])); (try simp only [↓Ws_nil, psq_rt, psq_ex, outW_none, outW_some, wcell, List.getElem?_cons_zero, List.getElem?_cons_succ, Option.join_some, Ow_some, true_and, and_true, and_self]))
end Lw


set_option Elab.async false
set_option linter.all false
set_option maxRecDepth 100000
namespace Lw
open PySem PySem.Spec PyProof.Rows L2 T
def c__law_sum : S := .cons (.asg 2 (.bi .max2 (.cons (.bi .len (.cons (.var 0) (.nil))) (.cons (.bi .len (.cons (.var 1) (.nil))) (.nil))))) (.cons (.asg 3 (.lc [4] (.bin .add (.bi .list (.cons (.var 4) (.nil))) (.bin .rep (.lstE (.cons (.int 0) (.nil))) (.bin .sub (.var 2) (.bi .len (.cons (.var 4) (.nil)))))) (.nm 4) (.seq (.tupE (.cons (.var 0) (.cons (.var 1) (.nil))))) .yes)) (.cons (.ret (.bi .tuple (.cons (.lc [5, 6] (.bin .add (.var 5) (.var 6)) (.tp (.cons (.nm 5) (.cons (.nm 6) (.nil)))) (.zip (.ix (.var 3) (.int 0)) (.ix (.var 3) (.int 1))) .yes) (.nil)))) (.nil)))
def c__law_partner (i__law_take : Nat) (i__law_sum : Nat) (i__law_crowd : Nat) : S := .cons (.asg 3 (.call i__law_take (.cons (.var 0) (.cons (.int 4) (.nil))))) (.cons (.ifS (.orE (.cmp .eq (.var 3) (.int 0)) (.cmp .lt (.bi .len (.cons (.var 1) (.nil))) (.int 2))) (.cons (.ret (.sl (.ix (.lstE (.cons (.call i__law_crowd (.cons (.var 0) (.cons (.bi .len (.cons (.var 1) (.nil))) (.nil)))) (.cons (.var 2) (.cons (.bin .add (.var 2) (.tupE (.cons (.int 0) (.cons (.int 3) (.nil))))) (.nil))))) (.call i__law_take (.cons (.var 0) (.cons (.int 3) (.nil))))) .nopart (.int 200))) (.nil)) (.nil)) (.cons (.asg 4 (.bin .add (.int 1) (.call i__law_take (.cons (.var 0) (.cons (.bin .sub (.bi .len (.cons (.var 1) (.nil))) (.int 1)) (.nil)))))) (.cons (.asg 5 (.bin .rep (.lstE (.cons (.int 0) (.nil))) (.bi .len (.cons (.var 1) (.nil))))) (.cons (.setI 5 (.var 4) (.ix (.var 1) (.var 4))) (.cons (.asg 6 (.bi .list (.cons (.call i__law_sum (.cons (.var 2) (.cons (.bi .tuple (.cons (.var 5) (.nil))) (.nil)))) (.nil)))) (.cons (.ifS (.cmp .gt (.ix (.var 6) (.bin .sub (.var 4) (.int 1))) (.int 0)) (.cons (.setI 6 (.bin .sub (.var 4) (.int 1)) (.bin .sub (.ix (.var 6) (.bin .sub (.var 4) (.int 1))) (.int 1))) (.nil)) (.nil)) (.cons (.ifS (.cmp .eq (.var 3) (.int 3)) (.cons (.asg 7 (.call i__law_take (.cons (.var 0) (.cons (.bi .len (.cons (.var 1) (.nil))) (.nil))))) (.cons (.setI 6 (.var 7) (.bin .add (.ix (.var 6) (.var 7)) (.int 1))) (.nil))) (.nil)) (.cons (.ret (.bi .tuple (.cons (.var 6) (.nil)))) (.nil)))))))))
def c_telling_addition (i_products : Nat) (i_scaled_weight : Nat) (i_require_counts : Nat) (i_require_schedule : Nat) : S := .cons (.drop (.call i_require_schedule (.cons (.var 0) (.nil)))) (.cons (.drop (.call i_require_counts (.cons (.var 1) (.nil)))) (.cons (.drop (.call i_require_counts (.cons (.var 2) (.nil)))) (.cons (.asg 3 (.lstE (.cons (.call i_scaled_weight (.cons (.var 0) (.cons (.var 1) (.nil)))) (.cons (.call i_scaled_weight (.cons (.var 0) (.cons (.var 2) (.nil)))) (.nil))))) (.cons (.ifS (.cmp .eq (.ix (.var 3) (.int 0)) (.ix (.var 3) (.int 1))) (.cons (.ret (.non)) (.nil)) (.nil)) (.cons (.ret (.bin .add (.bin .rep (.tupE (.cons (.int 0) (.nil))) (.bin .sub (.bi .len (.cons (.var 0) (.nil))) (.int 1))) (.tupE (.cons (.bin .mod (.neg (.bi .max (.cons (.var 3) (.nil)))) (.ix (.call i_products (.cons (.var 0) (.nil))) (.neg (.int 1)))) (.nil))))) (.nil))))))
def c__law_additions : S := .cons (.asg 1 (.lstE (.cons (.tupE (.nil)) (.nil)))) (.cons (.forS (.nm 2) (.range1 (.var 0)) (.cons (.asg 3 (.lstE (.nil))) (.cons (.forS (.nm 4) (.seq (.var 1)) (.cons (.fga [4] (.ext 3 (.lc [5] (.bin .add (.var 4) (.tupE (.cons (.var 5) (.nil)))) (.nm 5) (.range1 (.int 3)) .yes))) (.nil))) (.cons (.fga [2, 3, 4] (.asg 1 (.var 3))) (.nil))))) (.cons (.ret (.var 1)) (.nil)))
def c__law_right (i_guaranteed : Nat) (i__law_sum : Nat) (i__law_additions : Nat) (i_telling_addition : Nat) (i__law_scaled : Nat) : S := .cons (.asg 3 (.cmp .eq (.call i__law_scaled (.cons (.var 0) (.cons (.var 1) (.nil)))) (.call i__law_scaled (.cons (.var 0) (.cons (.var 2) (.nil)))))) (.cons (.asg 4 (.call i_telling_addition (.cons (.var 0) (.cons (.var 1) (.cons (.var 2) (.nil)))))) (.cons (.ifS (.cmp .ne (.cmp .isN (.var 4) (.non)) (.var 3)) (.cons (.ret (.bl false)) (.nil)) (.nil)) (.cons (.ifS (.cmp .ne (.callK i_telling_addition (.nil) (.cons (.var 2) (.cons (.var 1) (.cons (.bi .tuple (.cons (.var 0) (.nil))) (.nil)))) ["other", "one", "schedule"] [2, 1, 0]) (.var 4)) (.cons (.ret (.bl false)) (.nil)) (.nil)) (.cons (.ifS (.cmp .isN (.var 4) (.non)) (.cons (.forS (.nm 5) (.seq (.call i__law_additions (.cons (.ix (.lstE (.cons (.int 1) (.cons (.bi .min2 (.cons (.bi .len (.cons (.var 0) (.nil))) (.cons (.int 4) (.nil)))) (.nil)))) (.bi .int (.cons (.cmp .lt (.bi .len (.cons (.var 0) (.nil))) (.int 6)) (.nil)))) (.nil)))) (.cons (.asg 6 (.lstE (.cons (.call i__law_sum (.cons (.var 1) (.cons (.var 5) (.nil)))) (.cons (.call i__law_sum (.cons (.var 2) (.cons (.var 5) (.nil)))) (.nil))))) (.cons (.fga [5, 6] (.ifS (.cmp .ne (.call i_guaranteed (.cons (.var 0) (.cons (.ix (.var 6) (.int 0)) (.cons (.str "many") (.nil))))) (.call i_guaranteed (.cons (.var 0) (.cons (.ix (.var 6) (.int 1)) (.cons (.str "many") (.nil)))))) (.cons (.ret (.bl false)) (.nil)) (.nil))) (.nil)))) (.cons (.ret (.bl true)) (.nil))) (.nil)) (.cons (.ifS (.orE (.nt (.tru (.isi (.var 4) true [.tuple]))) (.cmp .ne (.bi .len (.cons (.var 4) (.nil))) (.bi .len (.cons (.var 0) (.nil))))) (.cons (.ret (.bl false)) (.nil)) (.nil)) (.cons (.ifS (.cmp .ne (.lc [5] (.var 5) (.nm 5) (.seq (.var 4)) (.orE (.nt (.tru (.isi (.var 5) true [.int]))) (.orE (.tru (.isi (.var 5) true [.bool])) (.cmp .lt (.var 5) (.int 0))))) (.lstE (.nil))) (.cons (.ret (.bl false)) (.nil)) (.nil)) (.cons (.asg 6 (.lstE (.cons (.call i__law_sum (.cons (.var 1) (.cons (.var 4) (.nil)))) (.cons (.call i__law_sum (.cons (.var 2) (.cons (.var 4) (.nil)))) (.nil))))) (.cons (.ret (.cmp .ne (.call i_guaranteed (.cons (.var 0) (.cons (.ix (.var 6) (.int 0)) (.cons (.str "many") (.nil))))) (.call i_guaranteed (.cons (.var 0) (.cons (.ix (.var 6) (.int 1)) (.cons (.str "many") (.nil))))))) (.nil)))))))))
def c_law (i__law_cell_at : Nat) (i__law_right : Nat) (i__law_partner : Nat) (i__law_crowd : Nat) (i__law_stages : Nat) (i__law_source : Nat) : S := .cons (.forS (.nm 1) (.seq (.bin .add (.lstE (.cons (.call i__law_cell_at (.cons (.var 0) (.cons (.int 0) (.nil)))) (.nil))) (.sl (.var 0) (.int 1) (.int 6)))) (.cons (.asg 2 (.call i__law_source (.cons (.var 1) (.nil)))) (.cons (.asg 3 (.call i__law_stages (.cons (.var 2) (.nil)))) (.cons (.asg 4 (.call i__law_crowd (.cons (.var 2) (.cons (.bi .len (.cons (.var 3) (.nil))) (.nil))))) (.cons (.asg 5 (.call i__law_partner (.cons (.var 2) (.cons (.var 3) (.cons (.var 4) (.nil)))))) (.cons (.asg 6 (.bi .repr (.cons (.tupE (.cons (.var 3) (.cons (.var 4) (.cons (.var 5) (.nil))))) (.nil)))) (.cons (.ifS (.orE (.nt (.tru (.call i__law_right (.cons (.var 3) (.cons (.var 4) (.cons (.var 5) (.nil))))))) (.nt (.tru (.call i__law_right (.cons (.var 3) (.cons (.var 5) (.cons (.var 4) (.nil)))))))) (.cons (.ret (.bl false)) (.nil)) (.nil)) (.cons (.fga [1, 2, 3, 4, 5, 6] (.ifS (.cmp .ne (.bi .repr (.cons (.tupE (.cons (.var 3) (.cons (.var 4) (.cons (.var 5) (.nil))))) (.nil))) (.var 6)) (.cons (.ret (.bl false)) (.nil)) (.nil))) (.nil))))))))) (.cons (.ret (.bl true)) (.nil))
end Lw

set_option Elab.async false
set_option linter.all false
set_option maxRecDepth 100000
set_option maxHeartbeats 1000000
namespace Lw
open PySem PySem.Spec PyProof.Rows L2 T
theorem sw_add4 (P : Nat) : ∀ (as bs ps : List Nat), as.length = bs.length → sw P ((as.zip bs).map fun p => p.1 + p.2) ps = sw P as ps + sw P bs ps
  | [], [], ps, _ => by simp [sw]
  | a :: as, b :: bs, [], _ => by simp [sw]
  | a :: as, b :: bs, p :: ps, h => by
    have ih := sw_add4 P as bs ps (by simpa using h)
    rw [List.zip_cons_cons, List.map_cons, sw, sw, sw, ih]
    show (a + b) * (P / p) + _ = _
    rw [Nat.add_mul]
    omega
def padN (l : List Nat) (m : Nat) : List Nat := l ++ List.replicate (m - l.length) 0
theorem padN_len {l : List Nat} {m : Nat} (h : l.length ≤ m) : (padN l m).length = m := by
  unfold padN; rw [List.length_append, List.length_replicate]; omega
def sumN (cs xs : List Nat) : List Nat := ((padN cs (max cs.length xs.length)).zip (padN xs (max cs.length xs.length))).map fun p => p.1 + p.2
theorem sumN_len (cs xs : List Nat) : (sumN cs xs).length = max cs.length xs.length := by
  unfold sumN
  rw [List.length_map, List.length_zip, padN_len (by omega), padN_len (by omega)]; simp
theorem SW_sum (es cs xs : List Nat) : SW es (sumN cs xs) = SW es cs + SW es xs := by
  show sw _ (sumN cs xs) _ = _
  unfold sumN
  rw [sw_add4 _ _ _ _ (by rw [padN_len (by omega), padN_len (by omega)])]
  unfold padN
  rw [sw_pad, sw_pad]
theorem padN_mem {l : List Nat} {m x : Nat} (h : x ∈ padN l m) : x ∈ l ∨ x = 0 := by
  rcases List.mem_append.mp h with h | h
  · exact .inl h
  · exact .inr (List.mem_replicate.mp h).2
theorem sumN_lt {cs xs : List Nat} {A B : Nat} (hc : ∀ c ∈ cs, c < A) (hx : ∀ c ∈ xs, c < B) (hA : 0 < A) (hB : 0 < B) : ∀ y ∈ sumN cs xs, y < A + B := fun y hy => by
  obtain ⟨p, hp, rfl⟩ := List.mem_map.mp hy
  obtain ⟨h1, h2⟩ := List.of_mem_zip (show (p.1, p.2) ∈ _ from hp)
  have a : p.1 < A := by
    rcases padN_mem h1 with h | h
    · exact hc _ h
    · omega
  have b : p.2 < B := by
    rcases padN_mem h2 with h | h
    · exact hx _ h
    · omega
  show p.1 + p.2 < _
  omega
def SumOk (F : Fn) : Prop := F.ar = 2 ∧ F.io = none ∧ ∀ cs xs : List Nat, cs.length ≤ 1000 → xs.length ≤ 1000 → F.run [.tup (nD cs), .tup (nD xs)] = .ret false (.tup (nD (sumN cs xs))) .non
theorem ok_sum4 (Γ : Nat → Option Fn) : SumOk (mkFn Γ 2 7 none c__law_sum) := by
  refine ⟨rfl, rfl, fun cs xs hc hx => Wk_run (Wf_mk rfl ?_)⟩
  have h1 : 1 ≤ sizeLine := by decide
  have h2 : 2 ≤ sizeLine := by decide
  have hm : (if (xs.length : Int) > (cs.length : Int) then (xs.length : Int) else (cs.length : Int)) = ((max cs.length xs.length : Nat) : Int) := by split <;> omega
  have hres : (.tup (((padN cs (max cs.length xs.length)).zip (padN xs (max cs.length xs.length))).map fun p => D.int ((p.1 + p.2 : Nat) : Int))) = D.tup (nD (sumN cs xs)) := by
    unfold nD sumN
    rw [List.map_map]; rfl
  have lz : ((padN cs (max cs.length xs.length)).zip (padN xs (max cs.length xs.length))).length ≤ sizeLine := by
    rw [List.length_zip, padN_len (by omega), padN_len (by omega), sizeLine_eq]; omega
  have hle1 : cs.length ≤ max cs.length xs.length := by omega
  have hle2 : xs.length ≤ max cs.length xs.length := by omega
  have hm1 : max cs.length xs.length ≤ 1000 := by omega
  generalize max cs.length xs.length = m at *
  unfold c__law_sum
  refine Ws_step fun Q' hQ' => ?_
  simp (maxSteps := 1000000) only [cf, co, cb, ↓We_var, ↓We_non, ↓We_bl, ↓We_int, ↓We_str, ↓We_gl, ↓We_bin, ↓We_neg, ↓We_nt, ↓We_and, ↓We_or, ↓We_ite, ↓We_cmp, ↓We_chain, ↓We_tup, ↓We_lst, ↓We_ix, ↓We_sl, ↓We_nopart, ↓We_rvs, ↓We_call, ↓We_callK, ↓We_bi, ↓We_mth, ↓We_isi, ↓We_lc, ↓We_yes, ↓We_val, ↓We_tru, ↓Wes_nil, ↓Wes_cons, ↓Wei_seq, ↓Wei_range1, ↓Wei_range2, ↓Wei_enum, ↓Wei_zip, ↓Ws_pass, ↓Ws_brk, ↓Ws_cont, ↓Ws_nil, ↓Ws_cons, ↓Ws_asg, ↓Ws_par, ↓Ws_unp, ↓Ws_drop, ↓Ws_aug, ↓Ws_setI, ↓Ws_app, ↓Ws_ext, ↓Ws_ret, ↓Ws_retN, ↓Ws_if, ↓Ws_for, ↓Ws_never, ↓Ws_fga, psq_rt, psq_bk, psq_ct, psq_ex, pfg_nx, pfg_ct, pfg_rt, pfg_bk, pfg_ex, Rw_ok, Rw_ex, ↓Rw_bind, ↓Rw_opt, Ow_some, Ow_none, ↓Ow_bind, ↓Ow_map, ↓Ow_ite, Cw_true, Cw_false, Cw_not, callW_G, callG_none, callG_io, callKW_none', okIo_own, okIo_bor, outW_none, outW_some, ↓we_nil, ↓we_cons, ↓we_dt, ↓we_fr, ↓we_slot, ↓wk_nil, ↓wk_cons, ↓wk_dt, ↓wk_fr, ↓wk_slot, ↓wg_dt, ↓wg_fr, ↓wg_slot, ↓wr_nil, ↓wr_cons, wo_own, wc_F, wc_T, ↓wp_nil, ↓wp_cons, wput, wcell, wcl0, wclf, wclo, wmf, wmo, wmb, wwr, wwo, wwb, wfree, wfree0, wfreef, wd_add, wd_adds, wd_addl, wd_addt, wd_sub, wd_mul, wd_repl, wd_rept, wd_div, wd_mod, wd_pow, wd_eq, wd_ne, wd_lt, wd_le, wd_gt, wd_ge, wd_inl, wd_int, wd_nil, wd_nit, wd_is, wd_isn, wd_tn, wd_tb, wd_ti, wd_tl, wd_tt, wd_ixl, wd_ixt, wd_sll, wd_slt, wd_i, wd_b, wd_lenl, wd_lent, wd_sum, wd_min2, wd_max2, wd_all, wd_any, wd_abs, wd_repr, wd_inti, wd_intb, wd_list1, wd_list2, wd_tup1, wd_tup2, wd_asn, wd_ast, wd_as0, wd_as1, wd_itl, wd_itt, wd_dt, wd_fr, wd_slot, wd_bvT, wd_bvF, wd_rv, wd_pn, wd_pvar, wd_pint, wd_pbin, wd_pneg, wd_pbi, wd_pcall, wd_pix, wd_ls, wd_aa, wd_as, wd_frl, wd_fzi, isTyD, isT, D.dt, isNon, permL, initE, wipeE, restE, List.getElem?_cons_zero, List.getElem?_cons_succ, List.getElem?_nil, List.set_cons_zero, List.set_cons_succ, List.length_cons, List.length_nil, List.cons_append, List.nil_append, List.append_nil, List.replicate, List.all_cons, List.all_nil, List.any_cons, List.any_nil, List.filterMap_cons, List.filterMap_nil, Option.join_some, Option.join_none, Option.bind_some, Option.map_some, Option.map_none, Bool.and_true, Bool.and_self, Bool.or_false, Bool.false_or, Bool.true_or, Bool.or_true, Bool.not_true, Bool.not_false, true_and, and_true, and_self, or_true, true_or, or_false, false_or, if_true, if_false, Bool.false_eq_true, Bool.true_eq_false, reduceCtorEq, Nat.reduceAdd, Nat.reduceSub, Nat.reduceLT, Int.reduceNeg, Nat.reduceLeDiff, not_true_eq_false, not_false_eq_true, reduceIte, decide_true, decide_false, beq_self_eq_true, ne_eq, atI_0, atI_1, atI_2, atI_3, ↓wd_p9, ↓wd_p12, ↓wd_p15, ↓wd_p18, ↓wd_p20, ↓wd_p30, ixN_30, ixN_31, ixN_32, nD_length, hm]
  subst hQ'
  rw [psq_nx]
  refine Ws_step fun Q' hQ' => ?_
  simp (maxSteps := 1000000) only [cf, co, cb, ↓We_var, ↓We_non, ↓We_bl, ↓We_int, ↓We_str, ↓We_gl, ↓We_bin, ↓We_neg, ↓We_nt, ↓We_and, ↓We_or, ↓We_ite, ↓We_cmp, ↓We_chain, ↓We_tup, ↓We_lst, ↓We_ix, ↓We_sl, ↓We_nopart, ↓We_rvs, ↓We_call, ↓We_callK, ↓We_bi, ↓We_mth, ↓We_isi, ↓We_lc, ↓We_yes, ↓We_val, ↓We_tru, ↓Wes_nil, ↓Wes_cons, ↓Wei_seq, ↓Wei_range1, ↓Wei_range2, ↓Wei_enum, ↓Wei_zip, ↓Ws_pass, ↓Ws_brk, ↓Ws_cont, ↓Ws_nil, ↓Ws_cons, ↓Ws_asg, ↓Ws_par, ↓Ws_unp, ↓Ws_drop, ↓Ws_aug, ↓Ws_setI, ↓Ws_app, ↓Ws_ext, ↓Ws_ret, ↓Ws_retN, ↓Ws_if, ↓Ws_for, ↓Ws_never, ↓Ws_fga, psq_rt, psq_bk, psq_ct, psq_ex, pfg_nx, pfg_ct, pfg_rt, pfg_bk, pfg_ex, Rw_ok, Rw_ex, ↓Rw_bind, ↓Rw_opt, Ow_some, Ow_none, ↓Ow_bind, ↓Ow_map, ↓Ow_ite, Cw_true, Cw_false, Cw_not, callW_G, callG_none, callG_io, callKW_none', okIo_own, okIo_bor, outW_none, outW_some, ↓we_nil, ↓we_cons, ↓we_dt, ↓we_fr, ↓we_slot, ↓wk_nil, ↓wk_cons, ↓wk_dt, ↓wk_fr, ↓wk_slot, ↓wg_dt, ↓wg_fr, ↓wg_slot, ↓wr_nil, ↓wr_cons, wo_own, wc_F, wc_T, ↓wp_nil, ↓wp_cons, wput, wcell, wcl0, wclf, wclo, wmf, wmo, wmb, wwr, wwo, wwb, wfree, wfree0, wfreef, wd_add, wd_adds, wd_addl, wd_addt, wd_sub, wd_mul, wd_repl, wd_rept, wd_div, wd_mod, wd_pow, wd_eq, wd_ne, wd_lt, wd_le, wd_gt, wd_ge, wd_inl, wd_int, wd_nil, wd_nit, wd_is, wd_isn, wd_tn, wd_tb, wd_ti, wd_tl, wd_tt, wd_ixl, wd_ixt, wd_sll, wd_slt, wd_i, wd_b, wd_lenl, wd_lent, wd_sum, wd_min2, wd_max2, wd_all, wd_any, wd_abs, wd_repr, wd_inti, wd_intb, wd_list1, wd_list2, wd_tup1, wd_tup2, wd_asn, wd_ast, wd_as0, wd_as1, wd_itl, wd_itt, wd_dt, wd_fr, wd_slot, wd_bvT, wd_bvF, wd_rv, wd_pn, wd_pvar, wd_pint, wd_pbin, wd_pneg, wd_pbi, wd_pcall, wd_pix, wd_ls, wd_aa, wd_as, wd_frl, wd_fzi, isTyD, isT, D.dt, isNon, permL, initE, wipeE, restE, List.getElem?_cons_zero, List.getElem?_cons_succ, List.getElem?_nil, List.set_cons_zero, List.set_cons_succ, List.length_cons, List.length_nil, List.cons_append, List.nil_append, List.append_nil, List.replicate, List.all_cons, List.all_nil, List.any_cons, List.any_nil, List.filterMap_cons, List.filterMap_nil, Option.join_some, Option.join_none, Option.bind_some, Option.map_some, Option.map_none, Bool.and_true, Bool.and_self, Bool.or_false, Bool.false_or, Bool.true_or, Bool.or_true, Bool.not_true, Bool.not_false, true_and, and_true, and_self, or_true, true_or, or_false, false_or, if_true, if_false, Bool.false_eq_true, Bool.true_eq_false, reduceCtorEq, Nat.reduceAdd, Nat.reduceSub, Nat.reduceLT, Int.reduceNeg, Nat.reduceLeDiff, not_true_eq_false, not_false_eq_true, reduceIte, decide_true, decide_false, beq_self_eq_true, ne_eq, atI_0, atI_1, atI_2, atI_3, ↓wd_p9, ↓wd_p12, ↓wd_p15, ↓wd_p18, ↓wd_p20, ↓wd_p30, ixN_30, ixN_31, ixN_32, h2]
  refine Wlc_map (ys := [cs, xs]) (f := fun l : List Nat => D.tup (nD l)) (fun l : List Nat => D.lst (nD (padN l m))) h2 (fun y hy => ?_) ?_
  · have hyl : y.length ≤ m := by
      simp at hy
      rcases hy with rfl | rfl
      · exact hle1
      · exact hle2
    have hd : ((m : Int) - (y.length : Int)) = ((m - y.length : Nat) : Int) := by omega
    have z1 : -(2 ^ 63) ≤ ((m - y.length : Nat) : Int) ∧ ((m - y.length : Nat) : Int) < 2 ^ 63 ∧ 1 * (m - y.length) ≤ sizeLine := by
      rw [sizeLine_eq]
      refine ⟨by omega, by omega, by omega⟩
    have z2 : y.length + (List.replicate (m - y.length) 0).length ≤ sizeLine := by
      rw [sizeLine_eq, List.length_replicate]; omega
    simp (maxSteps := 1000000) only [cf, co, cb, ↓We_var, ↓We_non, ↓We_bl, ↓We_int, ↓We_str, ↓We_gl, ↓We_bin, ↓We_neg, ↓We_nt, ↓We_and, ↓We_or, ↓We_ite, ↓We_cmp, ↓We_chain, ↓We_tup, ↓We_lst, ↓We_ix, ↓We_sl, ↓We_nopart, ↓We_rvs, ↓We_call, ↓We_callK, ↓We_bi, ↓We_mth, ↓We_isi, ↓We_lc, ↓We_yes, ↓We_val, ↓We_tru, ↓Wes_nil, ↓Wes_cons, ↓Wei_seq, ↓Wei_range1, ↓Wei_range2, ↓Wei_enum, ↓Wei_zip, ↓Ws_pass, ↓Ws_brk, ↓Ws_cont, ↓Ws_nil, ↓Ws_cons, ↓Ws_asg, ↓Ws_par, ↓Ws_unp, ↓Ws_drop, ↓Ws_aug, ↓Ws_setI, ↓Ws_app, ↓Ws_ext, ↓Ws_ret, ↓Ws_retN, ↓Ws_if, ↓Ws_for, ↓Ws_never, ↓Ws_fga, psq_rt, psq_bk, psq_ct, psq_ex, pfg_nx, pfg_ct, pfg_rt, pfg_bk, pfg_ex, Rw_ok, Rw_ex, ↓Rw_bind, ↓Rw_opt, Ow_some, Ow_none, ↓Ow_bind, ↓Ow_map, ↓Ow_ite, Cw_true, Cw_false, Cw_not, callW_G, callG_none, callG_io, callKW_none', okIo_own, okIo_bor, outW_none, outW_some, ↓we_nil, ↓we_cons, ↓we_dt, ↓we_fr, ↓we_slot, ↓wk_nil, ↓wk_cons, ↓wk_dt, ↓wk_fr, ↓wk_slot, ↓wg_dt, ↓wg_fr, ↓wg_slot, ↓wr_nil, ↓wr_cons, wo_own, wc_F, wc_T, ↓wp_nil, ↓wp_cons, wput, wcell, wcl0, wclf, wclo, wmf, wmo, wmb, wwr, wwo, wwb, wfree, wfree0, wfreef, wd_add, wd_adds, wd_addl, wd_addt, wd_sub, wd_mul, wd_repl, wd_rept, wd_div, wd_mod, wd_pow, wd_eq, wd_ne, wd_lt, wd_le, wd_gt, wd_ge, wd_inl, wd_int, wd_nil, wd_nit, wd_is, wd_isn, wd_tn, wd_tb, wd_ti, wd_tl, wd_tt, wd_ixl, wd_ixt, wd_sll, wd_slt, wd_i, wd_b, wd_lenl, wd_lent, wd_sum, wd_min2, wd_max2, wd_all, wd_any, wd_abs, wd_repr, wd_inti, wd_intb, wd_list1, wd_list2, wd_tup1, wd_tup2, wd_asn, wd_ast, wd_as0, wd_as1, wd_itl, wd_itt, wd_dt, wd_fr, wd_slot, wd_bvT, wd_bvF, wd_rv, wd_pn, wd_pvar, wd_pint, wd_pbin, wd_pneg, wd_pbi, wd_pcall, wd_pix, wd_ls, wd_aa, wd_as, wd_frl, wd_fzi, isTyD, isT, D.dt, isNon, permL, initE, wipeE, restE, List.getElem?_cons_zero, List.getElem?_cons_succ, List.getElem?_nil, List.set_cons_zero, List.set_cons_succ, List.length_cons, List.length_nil, List.cons_append, List.nil_append, List.append_nil, List.replicate, List.all_cons, List.all_nil, List.any_cons, List.any_nil, List.filterMap_cons, List.filterMap_nil, Option.join_some, Option.join_none, Option.bind_some, Option.map_some, Option.map_none, Bool.and_true, Bool.and_self, Bool.or_false, Bool.false_or, Bool.true_or, Bool.or_true, Bool.not_true, Bool.not_false, true_and, and_true, and_self, or_true, true_or, or_false, false_or, if_true, if_false, Bool.false_eq_true, Bool.true_eq_false, reduceCtorEq, Nat.reduceAdd, Nat.reduceSub, Nat.reduceLT, Int.reduceNeg, Nat.reduceLeDiff, not_true_eq_false, not_false_eq_true, reduceIte, decide_true, decide_false, beq_self_eq_true, ne_eq, atI_0, atI_1, atI_2, atI_3, ↓wd_p9, ↓wd_p12, ↓wd_p15, ↓wd_p18, ↓wd_p20, ↓wd_p30, ixN_30, ixN_31, ixN_32, psq_nx, nD_length, hd, z1, h1, rep0, Int.toNat_natCast, z2, nD_app]
    rfl
  · subst hQ'
    have hmap : [cs, xs].map (fun l : List Nat => D.lst (nD (padN l m))) = [D.lst (nD (padN cs m)), D.lst (nD (padN xs m))] := rfl
    rw [hmap]
    simp (maxSteps := 1000000) only [cf, co, cb, ↓We_var, ↓We_non, ↓We_bl, ↓We_int, ↓We_str, ↓We_gl, ↓We_bin, ↓We_neg, ↓We_nt, ↓We_and, ↓We_or, ↓We_ite, ↓We_cmp, ↓We_chain, ↓We_tup, ↓We_lst, ↓We_ix, ↓We_sl, ↓We_nopart, ↓We_rvs, ↓We_call, ↓We_callK, ↓We_bi, ↓We_mth, ↓We_isi, ↓We_lc, ↓We_yes, ↓We_val, ↓We_tru, ↓Wes_nil, ↓Wes_cons, ↓Wei_seq, ↓Wei_range1, ↓Wei_range2, ↓Wei_enum, ↓Wei_zip, ↓Ws_pass, ↓Ws_brk, ↓Ws_cont, ↓Ws_nil, ↓Ws_cons, ↓Ws_asg, ↓Ws_par, ↓Ws_unp, ↓Ws_drop, ↓Ws_aug, ↓Ws_setI, ↓Ws_app, ↓Ws_ext, ↓Ws_ret, ↓Ws_retN, ↓Ws_if, ↓Ws_for, ↓Ws_never, ↓Ws_fga, psq_rt, psq_bk, psq_ct, psq_ex, pfg_nx, pfg_ct, pfg_rt, pfg_bk, pfg_ex, Rw_ok, Rw_ex, ↓Rw_bind, ↓Rw_opt, Ow_some, Ow_none, ↓Ow_bind, ↓Ow_map, ↓Ow_ite, Cw_true, Cw_false, Cw_not, callW_G, callG_none, callG_io, callKW_none', okIo_own, okIo_bor, outW_none, outW_some, ↓we_nil, ↓we_cons, ↓we_dt, ↓we_fr, ↓we_slot, ↓wk_nil, ↓wk_cons, ↓wk_dt, ↓wk_fr, ↓wk_slot, ↓wg_dt, ↓wg_fr, ↓wg_slot, ↓wr_nil, ↓wr_cons, wo_own, wc_F, wc_T, ↓wp_nil, ↓wp_cons, wput, wcell, wcl0, wclf, wclo, wmf, wmo, wmb, wwr, wwo, wwb, wfree, wfree0, wfreef, wd_add, wd_adds, wd_addl, wd_addt, wd_sub, wd_mul, wd_repl, wd_rept, wd_div, wd_mod, wd_pow, wd_eq, wd_ne, wd_lt, wd_le, wd_gt, wd_ge, wd_inl, wd_int, wd_nil, wd_nit, wd_is, wd_isn, wd_tn, wd_tb, wd_ti, wd_tl, wd_tt, wd_ixl, wd_ixt, wd_sll, wd_slt, wd_i, wd_b, wd_lenl, wd_lent, wd_sum, wd_min2, wd_max2, wd_all, wd_any, wd_abs, wd_repr, wd_inti, wd_intb, wd_list1, wd_list2, wd_tup1, wd_tup2, wd_asn, wd_ast, wd_as0, wd_as1, wd_itl, wd_itt, wd_dt, wd_fr, wd_slot, wd_bvT, wd_bvF, wd_rv, wd_pn, wd_pvar, wd_pint, wd_pbin, wd_pneg, wd_pbi, wd_pcall, wd_pix, wd_ls, wd_aa, wd_as, wd_frl, wd_fzi, isTyD, isT, D.dt, isNon, permL, initE, wipeE, restE, List.getElem?_cons_zero, List.getElem?_cons_succ, List.getElem?_nil, List.set_cons_zero, List.set_cons_succ, List.length_cons, List.length_nil, List.cons_append, List.nil_append, List.append_nil, List.replicate, List.all_cons, List.all_nil, List.any_cons, List.any_nil, List.filterMap_cons, List.filterMap_nil, Option.join_some, Option.join_none, Option.bind_some, Option.map_some, Option.map_none, Bool.and_true, Bool.and_self, Bool.or_false, Bool.false_or, Bool.true_or, Bool.or_true, Bool.not_true, Bool.not_false, true_and, and_true, and_self, or_true, true_or, or_false, false_or, if_true, if_false, Bool.false_eq_true, Bool.true_eq_false, reduceCtorEq, Nat.reduceAdd, Nat.reduceSub, Nat.reduceLT, Int.reduceNeg, Nat.reduceLeDiff, not_true_eq_false, not_false_eq_true, reduceIte, decide_true, decide_false, beq_self_eq_true, ne_eq, atI_0, atI_1, atI_2, atI_3, ↓wd_p9, ↓wd_p12, ↓wd_p15, ↓wd_p18, ↓wd_p20, ↓wd_p30, ixN_30, ixN_31, ixN_32]
    have hz : zipD (nD (padN cs m)) (nD (padN xs m)) = ((padN cs m).zip (padN xs m)).map fun p => D.tup [.int (p.1 : Nat), .int (p.2 : Nat)] := zipD_map _ _ _ _
    rw [psq_nx]
    refine Ws_step fun Q' hQ' => ?_
    simp (maxSteps := 1000000) only [cf, co, cb, ↓We_var, ↓We_non, ↓We_bl, ↓We_int, ↓We_str, ↓We_gl, ↓We_bin, ↓We_neg, ↓We_nt, ↓We_and, ↓We_or, ↓We_ite, ↓We_cmp, ↓We_chain, ↓We_tup, ↓We_lst, ↓We_ix, ↓We_sl, ↓We_nopart, ↓We_rvs, ↓We_call, ↓We_callK, ↓We_bi, ↓We_mth, ↓We_isi, ↓We_lc, ↓We_yes, ↓We_val, ↓We_tru, ↓Wes_nil, ↓Wes_cons, ↓Wei_seq, ↓Wei_range1, ↓Wei_range2, ↓Wei_enum, ↓Wei_zip, ↓Ws_pass, ↓Ws_brk, ↓Ws_cont, ↓Ws_nil, ↓Ws_cons, ↓Ws_asg, ↓Ws_par, ↓Ws_unp, ↓Ws_drop, ↓Ws_aug, ↓Ws_setI, ↓Ws_app, ↓Ws_ext, ↓Ws_ret, ↓Ws_retN, ↓Ws_if, ↓Ws_for, ↓Ws_never, ↓Ws_fga, psq_rt, psq_bk, psq_ct, psq_ex, pfg_nx, pfg_ct, pfg_rt, pfg_bk, pfg_ex, Rw_ok, Rw_ex, ↓Rw_bind, ↓Rw_opt, Ow_some, Ow_none, ↓Ow_bind, ↓Ow_map, ↓Ow_ite, Cw_true, Cw_false, Cw_not, callW_G, callG_none, callG_io, callKW_none', okIo_own, okIo_bor, outW_none, outW_some, ↓we_nil, ↓we_cons, ↓we_dt, ↓we_fr, ↓we_slot, ↓wk_nil, ↓wk_cons, ↓wk_dt, ↓wk_fr, ↓wk_slot, ↓wg_dt, ↓wg_fr, ↓wg_slot, ↓wr_nil, ↓wr_cons, wo_own, wc_F, wc_T, ↓wp_nil, ↓wp_cons, wput, wcell, wcl0, wclf, wclo, wmf, wmo, wmb, wwr, wwo, wwb, wfree, wfree0, wfreef, wd_add, wd_adds, wd_addl, wd_addt, wd_sub, wd_mul, wd_repl, wd_rept, wd_div, wd_mod, wd_pow, wd_eq, wd_ne, wd_lt, wd_le, wd_gt, wd_ge, wd_inl, wd_int, wd_nil, wd_nit, wd_is, wd_isn, wd_tn, wd_tb, wd_ti, wd_tl, wd_tt, wd_ixl, wd_ixt, wd_sll, wd_slt, wd_i, wd_b, wd_lenl, wd_lent, wd_sum, wd_min2, wd_max2, wd_all, wd_any, wd_abs, wd_repr, wd_inti, wd_intb, wd_list1, wd_list2, wd_tup1, wd_tup2, wd_asn, wd_ast, wd_as0, wd_as1, wd_itl, wd_itt, wd_dt, wd_fr, wd_slot, wd_bvT, wd_bvF, wd_rv, wd_pn, wd_pvar, wd_pint, wd_pbin, wd_pneg, wd_pbi, wd_pcall, wd_pix, wd_ls, wd_aa, wd_as, wd_frl, wd_fzi, isTyD, isT, D.dt, isNon, permL, initE, wipeE, restE, List.getElem?_cons_zero, List.getElem?_cons_succ, List.getElem?_nil, List.set_cons_zero, List.set_cons_succ, List.length_cons, List.length_nil, List.cons_append, List.nil_append, List.append_nil, List.replicate, List.all_cons, List.all_nil, List.any_cons, List.any_nil, List.filterMap_cons, List.filterMap_nil, Option.join_some, Option.join_none, Option.bind_some, Option.map_some, Option.map_none, Bool.and_true, Bool.and_self, Bool.or_false, Bool.false_or, Bool.true_or, Bool.or_true, Bool.not_true, Bool.not_false, true_and, and_true, and_self, or_true, true_or, or_false, false_or, if_true, if_false, Bool.false_eq_true, Bool.true_eq_false, reduceCtorEq, Nat.reduceAdd, Nat.reduceSub, Nat.reduceLT, Int.reduceNeg, Nat.reduceLeDiff, not_true_eq_false, not_false_eq_true, reduceIte, decide_true, decide_false, beq_self_eq_true, ne_eq, atI_0, atI_1, atI_2, atI_3, ↓wd_p9, ↓wd_p12, ↓wd_p15, ↓wd_p18, ↓wd_p20, ↓wd_p30, ixN_30, ixN_31, ixN_32]
    rw [hz]
    refine Wlc_map (fun p : Nat × Nat => D.int ((p.1 + p.2 : Nat) : Int)) lz (fun y hy => ?_) ?_
    · simp (maxSteps := 1000000) only [cf, co, cb, ↓We_var, ↓We_non, ↓We_bl, ↓We_int, ↓We_str, ↓We_gl, ↓We_bin, ↓We_neg, ↓We_nt, ↓We_and, ↓We_or, ↓We_ite, ↓We_cmp, ↓We_chain, ↓We_tup, ↓We_lst, ↓We_ix, ↓We_sl, ↓We_nopart, ↓We_rvs, ↓We_call, ↓We_callK, ↓We_bi, ↓We_mth, ↓We_isi, ↓We_lc, ↓We_yes, ↓We_val, ↓We_tru, ↓Wes_nil, ↓Wes_cons, ↓Wei_seq, ↓Wei_range1, ↓Wei_range2, ↓Wei_enum, ↓Wei_zip, ↓Ws_pass, ↓Ws_brk, ↓Ws_cont, ↓Ws_nil, ↓Ws_cons, ↓Ws_asg, ↓Ws_par, ↓Ws_unp, ↓Ws_drop, ↓Ws_aug, ↓Ws_setI, ↓Ws_app, ↓Ws_ext, ↓Ws_ret, ↓Ws_retN, ↓Ws_if, ↓Ws_for, ↓Ws_never, ↓Ws_fga, psq_rt, psq_bk, psq_ct, psq_ex, pfg_nx, pfg_ct, pfg_rt, pfg_bk, pfg_ex, Rw_ok, Rw_ex, ↓Rw_bind, ↓Rw_opt, Ow_some, Ow_none, ↓Ow_bind, ↓Ow_map, ↓Ow_ite, Cw_true, Cw_false, Cw_not, callW_G, callG_none, callG_io, callKW_none', okIo_own, okIo_bor, outW_none, outW_some, ↓we_nil, ↓we_cons, ↓we_dt, ↓we_fr, ↓we_slot, ↓wk_nil, ↓wk_cons, ↓wk_dt, ↓wk_fr, ↓wk_slot, ↓wg_dt, ↓wg_fr, ↓wg_slot, ↓wr_nil, ↓wr_cons, wo_own, wc_F, wc_T, ↓wp_nil, ↓wp_cons, wput, wcell, wcl0, wclf, wclo, wmf, wmo, wmb, wwr, wwo, wwb, wfree, wfree0, wfreef, wd_add, wd_adds, wd_addl, wd_addt, wd_sub, wd_mul, wd_repl, wd_rept, wd_div, wd_mod, wd_pow, wd_eq, wd_ne, wd_lt, wd_le, wd_gt, wd_ge, wd_inl, wd_int, wd_nil, wd_nit, wd_is, wd_isn, wd_tn, wd_tb, wd_ti, wd_tl, wd_tt, wd_ixl, wd_ixt, wd_sll, wd_slt, wd_i, wd_b, wd_lenl, wd_lent, wd_sum, wd_min2, wd_max2, wd_all, wd_any, wd_abs, wd_repr, wd_inti, wd_intb, wd_list1, wd_list2, wd_tup1, wd_tup2, wd_asn, wd_ast, wd_as0, wd_as1, wd_itl, wd_itt, wd_dt, wd_fr, wd_slot, wd_bvT, wd_bvF, wd_rv, wd_pn, wd_pvar, wd_pint, wd_pbin, wd_pneg, wd_pbi, wd_pcall, wd_pix, wd_ls, wd_aa, wd_as, wd_frl, wd_fzi, isTyD, isT, D.dt, isNon, permL, initE, wipeE, restE, List.getElem?_cons_zero, List.getElem?_cons_succ, List.getElem?_nil, List.set_cons_zero, List.set_cons_succ, List.length_cons, List.length_nil, List.cons_append, List.nil_append, List.append_nil, List.replicate, List.all_cons, List.all_nil, List.any_cons, List.any_nil, List.filterMap_cons, List.filterMap_nil, Option.join_some, Option.join_none, Option.bind_some, Option.map_some, Option.map_none, Bool.and_true, Bool.and_self, Bool.or_false, Bool.false_or, Bool.true_or, Bool.or_true, Bool.not_true, Bool.not_false, true_and, and_true, and_self, or_true, true_or, or_false, false_or, if_true, if_false, Bool.false_eq_true, Bool.true_eq_false, reduceCtorEq, Nat.reduceAdd, Nat.reduceSub, Nat.reduceLT, Int.reduceNeg, Nat.reduceLeDiff, not_true_eq_false, not_false_eq_true, reduceIte, decide_true, decide_false, beq_self_eq_true, ne_eq, atI_0, atI_1, atI_2, atI_3, ↓wd_p9, ↓wd_p12, ↓wd_p15, ↓wd_p18, ↓wd_p20, ↓wd_p30, ixN_30, ixN_31, ixN_32, psq_nx, Int.natCast_add]
    · subst hQ'
      simp (maxSteps := 1000000) only [cf, co, cb, ↓We_var, ↓We_non, ↓We_bl, ↓We_int, ↓We_str, ↓We_gl, ↓We_bin, ↓We_neg, ↓We_nt, ↓We_and, ↓We_or, ↓We_ite, ↓We_cmp, ↓We_chain, ↓We_tup, ↓We_lst, ↓We_ix, ↓We_sl, ↓We_nopart, ↓We_rvs, ↓We_call, ↓We_callK, ↓We_bi, ↓We_mth, ↓We_isi, ↓We_lc, ↓We_yes, ↓We_val, ↓We_tru, ↓Wes_nil, ↓Wes_cons, ↓Wei_seq, ↓Wei_range1, ↓Wei_range2, ↓Wei_enum, ↓Wei_zip, ↓Ws_pass, ↓Ws_brk, ↓Ws_cont, ↓Ws_nil, ↓Ws_cons, ↓Ws_asg, ↓Ws_par, ↓Ws_unp, ↓Ws_drop, ↓Ws_aug, ↓Ws_setI, ↓Ws_app, ↓Ws_ext, ↓Ws_ret, ↓Ws_retN, ↓Ws_if, ↓Ws_for, ↓Ws_never, ↓Ws_fga, psq_rt, psq_bk, psq_ct, psq_ex, pfg_nx, pfg_ct, pfg_rt, pfg_bk, pfg_ex, Rw_ok, Rw_ex, ↓Rw_bind, ↓Rw_opt, Ow_some, Ow_none, ↓Ow_bind, ↓Ow_map, ↓Ow_ite, Cw_true, Cw_false, Cw_not, callW_G, callG_none, callG_io, callKW_none', okIo_own, okIo_bor, outW_none, outW_some, ↓we_nil, ↓we_cons, ↓we_dt, ↓we_fr, ↓we_slot, ↓wk_nil, ↓wk_cons, ↓wk_dt, ↓wk_fr, ↓wk_slot, ↓wg_dt, ↓wg_fr, ↓wg_slot, ↓wr_nil, ↓wr_cons, wo_own, wc_F, wc_T, ↓wp_nil, ↓wp_cons, wput, wcell, wcl0, wclf, wclo, wmf, wmo, wmb, wwr, wwo, wwb, wfree, wfree0, wfreef, wd_add, wd_adds, wd_addl, wd_addt, wd_sub, wd_mul, wd_repl, wd_rept, wd_div, wd_mod, wd_pow, wd_eq, wd_ne, wd_lt, wd_le, wd_gt, wd_ge, wd_inl, wd_int, wd_nil, wd_nit, wd_is, wd_isn, wd_tn, wd_tb, wd_ti, wd_tl, wd_tt, wd_ixl, wd_ixt, wd_sll, wd_slt, wd_i, wd_b, wd_lenl, wd_lent, wd_sum, wd_min2, wd_max2, wd_all, wd_any, wd_abs, wd_repr, wd_inti, wd_intb, wd_list1, wd_list2, wd_tup1, wd_tup2, wd_asn, wd_ast, wd_as0, wd_as1, wd_itl, wd_itt, wd_dt, wd_fr, wd_slot, wd_bvT, wd_bvF, wd_rv, wd_pn, wd_pvar, wd_pint, wd_pbin, wd_pneg, wd_pbi, wd_pcall, wd_pix, wd_ls, wd_aa, wd_as, wd_frl, wd_fzi, isTyD, isT, D.dt, isNon, permL, initE, wipeE, restE, List.getElem?_cons_zero, List.getElem?_cons_succ, List.getElem?_nil, List.set_cons_zero, List.set_cons_succ, List.length_cons, List.length_nil, List.cons_append, List.nil_append, List.append_nil, List.replicate, List.all_cons, List.all_nil, List.any_cons, List.any_nil, List.filterMap_cons, List.filterMap_nil, Option.join_some, Option.join_none, Option.bind_some, Option.map_some, Option.map_none, Bool.and_true, Bool.and_self, Bool.or_false, Bool.false_or, Bool.true_or, Bool.or_true, Bool.not_true, Bool.not_false, true_and, and_true, and_self, or_true, true_or, or_false, false_or, if_true, if_false, Bool.false_eq_true, Bool.true_eq_false, reduceCtorEq, Nat.reduceAdd, Nat.reduceSub, Nat.reduceLT, Int.reduceNeg, Nat.reduceLeDiff, not_true_eq_false, not_false_eq_true, reduceIte, decide_true, decide_false, beq_self_eq_true, ne_eq, atI_0, atI_1, atI_2, atI_3, ↓wd_p9, ↓wd_p12, ↓wd_p15, ↓wd_p18, ↓wd_p20, ↓wd_p30, ixN_30, ixN_31, ixN_32, hres]

/-! ### an addition that tells -/
def tlN (es c1 c2 : List Nat) : Nat := (-((max (SW es c1) (SW es c2) : Nat) : Int) % (PD es : Nat)).toNat
def tlD (es c1 c2 : List Nat) : D := if SW es c1 = SW es c2 then .non else .tup (nD (List.replicate (es.length - 1) 0 ++ [tlN es c1 c2]))
def TellOk (F : Fn) : Prop := F.ar = 3 ∧ F.io = none ∧ ∀ (q : Bool) (es c1 c2 : List Nat), Good1 es → Good2 c1 → Good2 c2 → F.run [sqD q es, .tup (nD c1), .tup (nD c2)] = .ret false (tlD es c1 c2) .non
theorem SW_nil (cs : List Nat) : SW [] cs = 0 := by cases cs <;> rfl
theorem rep0' (k : Nat) : (List.replicate k [D.int 0]).flatten ++ [.int (x : Nat)] = nD (List.replicate k 0 ++ [x]) := by
  rw [rep0, nD_snoc]
theorem len_sq (q : Bool) (es : List Nat) : biD .len [sqD q es] = some (false, .int (es.length : Nat)) := by
  cases q
  · show some (false, D.int ((nD es).length : Nat)) = _
    rw [nD_length]
  · show some (false, D.int ((nD es).length : Nat)) = _
    rw [nD_length]
theorem max_2 (a b : Int) : biD .max [.lst [.int a, .int b]] = some (false, .int (max a b)) := id rfl
theorem ok_tell {Γ : Nat → Option Fn} {i1 i2 i3 i4 : Nat} {F1 F2 F3 F4 : Fn} (g1 : Γ i1 = some F1) (g2 : Γ i2 = some F2) (g3 : Γ i3 = some F3) (g4 : Γ i4 = some F4)
    (h1 : ProdOk F1) (h2 : ScaledOk F2) (h3 : ReqCountsOk F3) (h4 : ReqSchedOk F4) : TellOk (mkFn Γ 3 4 none (c_telling_addition i1 i2 i3 i4)) := by
  obtain ⟨a1, b1, r1⟩ := h1
  obtain ⟨a2, b2, r2⟩ := h2
  obtain ⟨a3, b3, r3⟩ := h3
  obtain ⟨a4, b4, r4⟩ := h4
  refine ⟨rfl, rfl, fun q es c1 c2 g hc1 hc2 => Wk_run (Wf_mk rfl ?_)⟩
  have e4 := Wf_ret (r4 q es g.ge g.len)
  have e3 := Wf_ret (r3 c1 hc1.len)
  have e3' := Wf_ret (r3 c2 hc2.len)
  have e2 := Wf_ret (r2 q es c1 g hc1.lt hc1.len)
  have e2' := Wf_ret (r2 q es c2 g hc2.lt hc2.len)
  have e1 := Wf_ret (r1 q es g)
  have hl := pref_lastI es
  have hP : (0 : Int) < (PD es : Nat) := Int.natCast_pos.mpr (pd_pos g)
  have hlen := len_sq q es
  have s2 : 2 ≤ sizeLine := by decide
  have s1 : 1 ≤ sizeLine := by decide
  have hnil : es.length = 0 → SW es c1 = SW es c2 := fun h => by
    rw [List.length_eq_zero_iff.mp h, SW_nil, SW_nil]
  have hr0 := Int.emod_nonneg (-((max (SW es c1) (SW es c2) : Nat) : Int)) (b := (PD es : Nat)) (by omega)
  have hr : -((max (SW es c1) (SW es c2) : Nat) : Int) % (PD es : Nat) = (tlN es c1 c2 : Nat) := (Int.toNat_of_nonneg hr0).symm
  have hmx : max ((SW es c1 : Nat) : Int) (SW es c2 : Nat) = ((max (SW es c1) (SW es c2) : Nat) : Int) := by omega
  have hel := g.len
  unfold tlD
  generalize sqD q es = S0 at *
  generalize nD (pref es es.length) = L at *
  unfold c_telling_addition
  by_cases hw : SW es c1 = SW es c2
  · have hw' : (((SW es c1 : Nat) : Int) = (SW es c2 : Nat)) = True := eq_true (by rw [hw])
    ((try rw [psq_nx]); (repeat (refine Ws_step fun Q' hQ' => ?_; simp (maxSteps := 1000000) only [cf, co, cb, ↓We_var, ↓We_non, ↓We_bl, ↓We_int, ↓We_str, ↓We_gl, ↓We_bin, ↓We_neg, ↓We_nt, ↓We_and, ↓We_or, ↓We_ite, ↓We_cmp, ↓We_chain, ↓We_tup, ↓We_lst, ↓We_ix, ↓We_sl, ↓We_nopart, ↓We_rvs, ↓We_call, ↓We_callK, ↓We_bi, ↓We_mth, ↓We_isi, ↓We_lc, ↓We_yes, ↓We_val, ↓We_tru, ↓Wes_nil, ↓Wes_cons, ↓Wei_seq, ↓Wei_range1, ↓Wei_range2, ↓Wei_enum, ↓Wei_zip, ↓Ws_pass, ↓Ws_brk, ↓Ws_cont, ↓Ws_nil, ↓Ws_cons, ↓Ws_asg, ↓Ws_par, ↓Ws_unp, ↓Ws_drop, ↓Ws_aug, ↓Ws_setI, ↓Ws_app, ↓Ws_ext, ↓Ws_ret, ↓Ws_retN, ↓Ws_if, ↓Ws_for, ↓Ws_never, ↓Ws_fga, psq_rt, psq_bk, psq_ct, psq_ex, pfg_nx, pfg_ct, pfg_rt, pfg_bk, pfg_ex, Rw_ok, Rw_ex, ↓Rw_bind, ↓Rw_opt, Ow_some, Ow_none, ↓Ow_bind, ↓Ow_map, ↓Ow_ite, Cw_true, Cw_false, Cw_not, callW_G, callG_none, callG_io, callKW_none', okIo_own, okIo_bor, outW_none, outW_some, ↓we_nil, ↓we_cons, ↓we_dt, ↓we_fr, ↓we_slot, ↓wk_nil, ↓wk_cons, ↓wk_dt, ↓wk_fr, ↓wk_slot, ↓wg_dt, ↓wg_fr, ↓wg_slot, ↓wr_nil, ↓wr_cons, wo_own, wc_F, wc_T, ↓wp_nil, ↓wp_cons, wput, wcell, wcl0, wclf, wclo, wmf, wmo, wmb, wwr, wwo, wwb, wfree, wfree0, wfreef, wd_add, wd_adds, wd_addl, wd_addt, wd_sub, wd_mul, wd_repl, wd_rept, wd_div, wd_mod, wd_pow, wd_eq, wd_ne, wd_lt, wd_le, wd_gt, wd_ge, wd_inl, wd_int, wd_nil, wd_nit, wd_is, wd_isn, wd_tn, wd_tb, wd_ti, wd_tl, wd_tt, wd_ixl, wd_ixt, wd_sll, wd_slt, wd_i, wd_b, wd_lenl, wd_lent, wd_sum, wd_min2, wd_max2, wd_all, wd_any, wd_abs, wd_repr, wd_inti, wd_intb, wd_list1, wd_list2, wd_tup1, wd_tup2, wd_asn, wd_ast, wd_as0, wd_as1, wd_itl, wd_itt, wd_dt, wd_fr, wd_slot, wd_bvT, wd_bvF, wd_rv, wd_pn, wd_pvar, wd_pint, wd_pbin, wd_pneg, wd_pbi, wd_pcall, wd_pix, wd_ls, wd_aa, wd_as, wd_frl, wd_fzi, isTyD, isT, D.dt, isNon, permL, initE, wipeE, restE, List.getElem?_cons_zero, List.getElem?_cons_succ, List.getElem?_nil, List.set_cons_zero, List.set_cons_succ, List.length_cons, List.length_nil, List.cons_append, List.nil_append, List.append_nil, List.replicate, List.all_cons, List.all_nil, List.any_cons, List.any_nil, List.filterMap_cons, List.filterMap_nil, Option.join_some, Option.join_none, Option.bind_some, Option.map_some, Option.map_none, Bool.and_true, Bool.and_self, Bool.or_false, Bool.false_or, Bool.true_or, Bool.or_true, Bool.not_true, Bool.not_false, true_and, and_true, and_self, or_true, true_or, or_false, false_or, if_true, if_false, Bool.false_eq_true, Bool.true_eq_false, reduceCtorEq, Nat.reduceAdd, Nat.reduceSub, Nat.reduceLT, Int.reduceNeg, Nat.reduceLeDiff, not_true_eq_false, not_false_eq_true, reduceIte, decide_true, decide_false, beq_self_eq_true, ne_eq, atI_0, atI_1, atI_2, atI_3, ↓wd_p9, ↓wd_p12, ↓wd_p15, ↓wd_p18, ↓wd_p20, ↓wd_p30, ixN_30, ixN_31, ixN_32, ↓e1, ↓e2, ↓e2', ↓e3, ↓e3', ↓e4, g1, g2, g3, g4, a1, a2, a3, a4, b1, b2, b3, b4, hl, s2, s1, eqD_intT, hw']; subst hQ'; try rw [psq_nx])); (try simp only [↓Ws_nil, psq_rt, psq_ex, outW_none, outW_some, wcell, List.getElem?_cons_zero, List.getElem?_cons_succ, Option.join_some, Ow_some, true_and, and_true, and_self]))
    simp [hw]
  · have hw' : ¬ (((SW es c1 : Nat) : Int) = (SW es c2 : Nat)) := by omega
    have h1 : 1 ≤ es.length := by
      rcases Nat.eq_zero_or_pos es.length with h | h
      · exact absurd (hnil h) hw
      · exact h
    have hk : ((es.length - 1 : Nat) : Int) ≤ 1000 := by omega
    have hd : ((es.length : Int) - 1) = ((es.length - 1 : Nat) : Int) := by omega
    have z1 : -(2 ^ 63) ≤ ((es.length - 1 : Nat) : Int) ∧ ((es.length - 1 : Nat) : Int) < 2 ^ 63 ∧ 1 * (es.length - 1) ≤ sizeLine := by
      rw [sizeLine_eq]
      refine ⟨by omega, by omega, by omega⟩
    have z2 : (List.replicate (es.length - 1) [D.int 0]).flatten.length + 1 ≤ sizeLine := by
      rw [rep0, nD_length, List.length_replicate, sizeLine_eq]; omega
    ((try rw [psq_nx]); (repeat (refine Ws_step fun Q' hQ' => ?_; simp (maxSteps := 1000000) only [cf, co, cb, ↓We_var, ↓We_non, ↓We_bl, ↓We_int, ↓We_str, ↓We_gl, ↓We_bin, ↓We_neg, ↓We_nt, ↓We_and, ↓We_or, ↓We_ite, ↓We_cmp, ↓We_chain, ↓We_tup, ↓We_lst, ↓We_ix, ↓We_sl, ↓We_nopart, ↓We_rvs, ↓We_call, ↓We_callK, ↓We_bi, ↓We_mth, ↓We_isi, ↓We_lc, ↓We_yes, ↓We_val, ↓We_tru, ↓Wes_nil, ↓Wes_cons, ↓Wei_seq, ↓Wei_range1, ↓Wei_range2, ↓Wei_enum, ↓Wei_zip, ↓Ws_pass, ↓Ws_brk, ↓Ws_cont, ↓Ws_nil, ↓Ws_cons, ↓Ws_asg, ↓Ws_par, ↓Ws_unp, ↓Ws_drop, ↓Ws_aug, ↓Ws_setI, ↓Ws_app, ↓Ws_ext, ↓Ws_ret, ↓Ws_retN, ↓Ws_if, ↓Ws_for, ↓Ws_never, ↓Ws_fga, psq_rt, psq_bk, psq_ct, psq_ex, pfg_nx, pfg_ct, pfg_rt, pfg_bk, pfg_ex, Rw_ok, Rw_ex, ↓Rw_bind, ↓Rw_opt, Ow_some, Ow_none, ↓Ow_bind, ↓Ow_map, ↓Ow_ite, Cw_true, Cw_false, Cw_not, callW_G, callG_none, callG_io, callKW_none', okIo_own, okIo_bor, outW_none, outW_some, ↓we_nil, ↓we_cons, ↓we_dt, ↓we_fr, ↓we_slot, ↓wk_nil, ↓wk_cons, ↓wk_dt, ↓wk_fr, ↓wk_slot, ↓wg_dt, ↓wg_fr, ↓wg_slot, ↓wr_nil, ↓wr_cons, wo_own, wc_F, wc_T, ↓wp_nil, ↓wp_cons, wput, wcell, wcl0, wclf, wclo, wmf, wmo, wmb, wwr, wwo, wwb, wfree, wfree0, wfreef, wd_add, wd_adds, wd_addl, wd_addt, wd_sub, wd_mul, wd_repl, wd_rept, wd_div, wd_mod, wd_pow, wd_eq, wd_ne, wd_lt, wd_le, wd_gt, wd_ge, wd_inl, wd_int, wd_nil, wd_nit, wd_is, wd_isn, wd_tn, wd_tb, wd_ti, wd_tl, wd_tt, wd_ixl, wd_ixt, wd_sll, wd_slt, wd_i, wd_b, wd_lenl, wd_lent, wd_sum, wd_min2, wd_max2, wd_all, wd_any, wd_abs, wd_repr, wd_inti, wd_intb, wd_list1, wd_list2, wd_tup1, wd_tup2, wd_asn, wd_ast, wd_as0, wd_as1, wd_itl, wd_itt, wd_dt, wd_fr, wd_slot, wd_bvT, wd_bvF, wd_rv, wd_pn, wd_pvar, wd_pint, wd_pbin, wd_pneg, wd_pbi, wd_pcall, wd_pix, wd_ls, wd_aa, wd_as, wd_frl, wd_fzi, isTyD, isT, D.dt, isNon, permL, initE, wipeE, restE, List.getElem?_cons_zero, List.getElem?_cons_succ, List.getElem?_nil, List.set_cons_zero, List.set_cons_succ, List.length_cons, List.length_nil, List.cons_append, List.nil_append, List.append_nil, List.replicate, List.all_cons, List.all_nil, List.any_cons, List.any_nil, List.filterMap_cons, List.filterMap_nil, Option.join_some, Option.join_none, Option.bind_some, Option.map_some, Option.map_none, Bool.and_true, Bool.and_self, Bool.or_false, Bool.false_or, Bool.true_or, Bool.or_true, Bool.not_true, Bool.not_false, true_and, and_true, and_self, or_true, true_or, or_false, false_or, if_true, if_false, Bool.false_eq_true, Bool.true_eq_false, reduceCtorEq, Nat.reduceAdd, Nat.reduceSub, Nat.reduceLT, Int.reduceNeg, Nat.reduceLeDiff, not_true_eq_false, not_false_eq_true, reduceIte, decide_true, decide_false, beq_self_eq_true, ne_eq, atI_0, atI_1, atI_2, atI_3, ↓wd_p9, ↓wd_p12, ↓wd_p15, ↓wd_p18, ↓wd_p20, ↓wd_p30, ixN_30, ixN_31, ixN_32, ↓e1, ↓e2, ↓e2', ↓e3, ↓e3', ↓e4, g1, g2, g3, g4, a1, a2, a3, a4, b1, b2, b3, b4, hl, s2, s1, eqD_intT, hw', hlen, hd, z1, Int.toNat_natCast, max_2, hmx, hP, hr, z2, rep0', hk]; subst hQ'; try rw [psq_nx])); (try simp only [↓Ws_nil, psq_rt, psq_ex, outW_none, outW_some, wcell, List.getElem?_cons_zero, List.getElem?_cons_succ, Option.join_some, Ow_some, true_and, and_true, and_self]))
    simp [hw]
end Lw


set_option Elab.async false
set_option linter.all false
set_option maxRecDepth 100000
set_option maxHeartbeats 1000000
namespace Lw
open PySem PySem.Spec PyProof.Rows L2 T
/-- rows of few small numbers -/
structure Sml (L : List (List Nat)) (k : Nat) : Prop where
  n : L.length ≤ 3 ^ k
  l : ∀ x ∈ L, x.length = k
  s : ∀ x ∈ L, ∀ c ∈ x, c < 3
def rowsD (L : List (List Nat)) : List D := L.map fun l => D.tup (nD l)
def AddsOk (F : Fn) : Prop := F.ar = 1 ∧ F.io = none ∧ ∀ (k : Int) (X : Exn → D → Prop) (K : Bool → D → D → Prop), 0 ≤ k → k ≤ 5 → (∀ b L, Sml L k.toNat → K b (.lst (rowsD L)) .non) → @Wf F [.int k] X K
theorem rowsD_app (A B : List (List Nat)) : rowsD A ++ rowsD B = rowsD (A ++ B) := by simp [rowsD]
def grow (p : List Nat) : List (List Nat) := (List.range 3).map fun e => p ++ [e]
theorem ok_adds (Γ : Nat → Option Fn) : AddsOk (mkFn Γ 1 6 none c__law_additions) := by
  refine ⟨rfl, rfl, fun k X K k0 hk hq => ?_⟩
  refine Wf_mk rfl ?_
  have s1 : 1 ≤ sizeLine := by decide
  have s0 : 0 ≤ sizeLine := by decide
  unfold c__law_additions
  ((try rw [psq_nx]); (repeat (refine Ws_step fun Q' hQ' => ?_; simp (maxSteps := 1000000) only [cf, co, cb, ↓We_var, ↓We_non, ↓We_bl, ↓We_int, ↓We_str, ↓We_gl, ↓We_bin, ↓We_neg, ↓We_nt, ↓We_and, ↓We_or, ↓We_ite, ↓We_cmp, ↓We_chain, ↓We_tup, ↓We_lst, ↓We_ix, ↓We_sl, ↓We_nopart, ↓We_rvs, ↓We_call, ↓We_callK, ↓We_bi, ↓We_mth, ↓We_isi, ↓We_lc, ↓We_yes, ↓We_val, ↓We_tru, ↓Wes_nil, ↓Wes_cons, ↓Wei_seq, ↓Wei_range1, ↓Wei_range2, ↓Wei_enum, ↓Wei_zip, ↓Ws_pass, ↓Ws_brk, ↓Ws_cont, ↓Ws_nil, ↓Ws_cons, ↓Ws_asg, ↓Ws_par, ↓Ws_unp, ↓Ws_drop, ↓Ws_aug, ↓Ws_setI, ↓Ws_app, ↓Ws_ext, ↓Ws_ret, ↓Ws_retN, ↓Ws_if, ↓Ws_for, ↓Ws_never, ↓Ws_fga, psq_rt, psq_bk, psq_ct, psq_ex, pfg_nx, pfg_ct, pfg_rt, pfg_bk, pfg_ex, Rw_ok, Rw_ex, ↓Rw_bind, ↓Rw_opt, Ow_some, Ow_none, ↓Ow_bind, ↓Ow_map, ↓Ow_ite, Cw_true, Cw_false, Cw_not, callW_G, callG_none, callG_io, callKW_none', okIo_own, okIo_bor, outW_none, outW_some, ↓we_nil, ↓we_cons, ↓we_dt, ↓we_fr, ↓we_slot, ↓wk_nil, ↓wk_cons, ↓wk_dt, ↓wk_fr, ↓wk_slot, ↓wg_dt, ↓wg_fr, ↓wg_slot, ↓wr_nil, ↓wr_cons, wo_own, wc_F, wc_T, ↓wp_nil, ↓wp_cons, wput, wcell, wcl0, wclf, wclo, wmf, wmo, wmb, wwr, wwo, wwb, wfree, wfree0, wfreef, wd_add, wd_adds, wd_addl, wd_addt, wd_sub, wd_mul, wd_repl, wd_rept, wd_div, wd_mod, wd_pow, wd_eq, wd_ne, wd_lt, wd_le, wd_gt, wd_ge, wd_inl, wd_int, wd_nil, wd_nit, wd_is, wd_isn, wd_tn, wd_tb, wd_ti, wd_tl, wd_tt, wd_ixl, wd_ixt, wd_sll, wd_slt, wd_i, wd_b, wd_lenl, wd_lent, wd_sum, wd_min2, wd_max2, wd_all, wd_any, wd_abs, wd_repr, wd_inti, wd_intb, wd_list1, wd_list2, wd_tup1, wd_tup2, wd_asn, wd_ast, wd_as0, wd_as1, wd_itl, wd_itt, wd_dt, wd_fr, wd_slot, wd_bvT, wd_bvF, wd_rv, wd_pn, wd_pvar, wd_pint, wd_pbin, wd_pneg, wd_pbi, wd_pcall, wd_pix, wd_ls, wd_aa, wd_as, wd_frl, wd_fzi, isTyD, isT, D.dt, isNon, permL, initE, wipeE, restE, List.getElem?_cons_zero, List.getElem?_cons_succ, List.getElem?_nil, List.set_cons_zero, List.set_cons_succ, List.length_cons, List.length_nil, List.cons_append, List.nil_append, List.append_nil, List.replicate, List.all_cons, List.all_nil, List.any_cons, List.any_nil, List.filterMap_cons, List.filterMap_nil, Option.join_some, Option.join_none, Option.bind_some, Option.map_some, Option.map_none, Bool.and_true, Bool.and_self, Bool.or_false, Bool.false_or, Bool.true_or, Bool.or_true, Bool.not_true, Bool.not_false, true_and, and_true, and_self, or_true, true_or, or_false, false_or, if_true, if_false, Bool.false_eq_true, Bool.true_eq_false, reduceCtorEq, Nat.reduceAdd, Nat.reduceSub, Nat.reduceLT, Int.reduceNeg, Nat.reduceLeDiff, not_true_eq_false, not_false_eq_true, reduceIte, decide_true, decide_false, beq_self_eq_true, ne_eq, atI_0, atI_1, atI_2, atI_3, ↓wd_p9, ↓wd_p12, ↓wd_p15, ↓wd_p18, ↓wd_p20, ↓wd_p30, ixN_30, ixN_31, ixN_32, s1, s0]; subst hQ'; try rw [psq_nx])); (try simp only [↓Ws_nil, psq_rt, psq_ex, outW_none, outW_some, wcell, List.getElem?_cons_zero, List.getElem?_cons_succ, Option.join_some, Ow_some, true_and, and_true, and_self]))

  refine ⟨in62_of (by omega) (by omega), ?_⟩
  rw [rangeD_map]
  refine Wfor_map (fun pre cc => ∃ (t : Stt) (L : List (List Nat)), (t = .own ∨ t = .fz) ∧ Sml L pre.length ∧ cc = [cf (.int k), some ⟨t, .lst (rowsD L)⟩, none, none, none, none]) ⟨.own, [[]], .inl rfl, ⟨by simp, by simp, by simp⟩, rfl⟩ (fun pre y suf cc e hI => ?_) fun cc hI => ?_
  · obtain ⟨t, L, ht, hL, rfl⟩ := hI
    have hlt : pre.length < k.toNat := (range_mid e).2
    have eI : (pre ++ [y]).length = pre.length + 1 := by simp
    rw [eI]
    generalize pre.length = j at *
    rcases ht with rfl | rfl
    all_goals
      simp (maxSteps := 1000000) only [cf, co, cb, ↓We_var, ↓We_non, ↓We_bl, ↓We_int, ↓We_str, ↓We_gl, ↓We_bin, ↓We_neg, ↓We_nt, ↓We_and, ↓We_or, ↓We_ite, ↓We_cmp, ↓We_chain, ↓We_tup, ↓We_lst, ↓We_ix, ↓We_sl, ↓We_nopart, ↓We_rvs, ↓We_call, ↓We_callK, ↓We_bi, ↓We_mth, ↓We_isi, ↓We_lc, ↓We_yes, ↓We_val, ↓We_tru, ↓Wes_nil, ↓Wes_cons, ↓Wei_seq, ↓Wei_range1, ↓Wei_range2, ↓Wei_enum, ↓Wei_zip, ↓Ws_pass, ↓Ws_brk, ↓Ws_cont, ↓Ws_nil, ↓Ws_cons, ↓Ws_asg, ↓Ws_par, ↓Ws_unp, ↓Ws_drop, ↓Ws_aug, ↓Ws_setI, ↓Ws_app, ↓Ws_ext, ↓Ws_ret, ↓Ws_retN, ↓Ws_if, ↓Ws_for, ↓Ws_never, ↓Ws_fga, psq_rt, psq_bk, psq_ct, psq_ex, pfg_nx, pfg_ct, pfg_rt, pfg_bk, pfg_ex, Rw_ok, Rw_ex, ↓Rw_bind, ↓Rw_opt, Ow_some, Ow_none, ↓Ow_bind, ↓Ow_map, ↓Ow_ite, Cw_true, Cw_false, Cw_not, callW_G, callG_none, callG_io, callKW_none', okIo_own, okIo_bor, outW_none, outW_some, ↓we_nil, ↓we_cons, ↓we_dt, ↓we_fr, ↓we_slot, ↓wk_nil, ↓wk_cons, ↓wk_dt, ↓wk_fr, ↓wk_slot, ↓wg_dt, ↓wg_fr, ↓wg_slot, ↓wr_nil, ↓wr_cons, wo_own, wc_F, wc_T, ↓wp_nil, ↓wp_cons, wput, wcell, wcl0, wclf, wclo, wmf, wmo, wmb, wwr, wwo, wwb, wfree, wfree0, wfreef, wd_add, wd_adds, wd_addl, wd_addt, wd_sub, wd_mul, wd_repl, wd_rept, wd_div, wd_mod, wd_pow, wd_eq, wd_ne, wd_lt, wd_le, wd_gt, wd_ge, wd_inl, wd_int, wd_nil, wd_nit, wd_is, wd_isn, wd_tn, wd_tb, wd_ti, wd_tl, wd_tt, wd_ixl, wd_ixt, wd_sll, wd_slt, wd_i, wd_b, wd_lenl, wd_lent, wd_sum, wd_min2, wd_max2, wd_all, wd_any, wd_abs, wd_repr, wd_inti, wd_intb, wd_list1, wd_list2, wd_tup1, wd_tup2, wd_asn, wd_ast, wd_as0, wd_as1, wd_itl, wd_itt, wd_dt, wd_fr, wd_slot, wd_bvT, wd_bvF, wd_rv, wd_pn, wd_pvar, wd_pint, wd_pbin, wd_pneg, wd_pbi, wd_pcall, wd_pix, wd_ls, wd_aa, wd_as, wd_frl, wd_fzi, isTyD, isT, D.dt, isNon, permL, initE, wipeE, restE, List.getElem?_cons_zero, List.getElem?_cons_succ, List.getElem?_nil, List.set_cons_zero, List.set_cons_succ, List.length_cons, List.length_nil, List.cons_append, List.nil_append, List.append_nil, List.replicate, List.all_cons, List.all_nil, List.any_cons, List.any_nil, List.filterMap_cons, List.filterMap_nil, Option.join_some, Option.join_none, Option.bind_some, Option.map_some, Option.map_none, Bool.and_true, Bool.and_self, Bool.or_false, Bool.false_or, Bool.true_or, Bool.or_true, Bool.not_true, Bool.not_false, true_and, and_true, and_self, or_true, true_or, or_false, false_or, if_true, if_false, Bool.false_eq_true, Bool.true_eq_false, reduceCtorEq, Nat.reduceAdd, Nat.reduceSub, Nat.reduceLT, Int.reduceNeg, Nat.reduceLeDiff, not_true_eq_false, not_false_eq_true, reduceIte, decide_true, decide_false, beq_self_eq_true, ne_eq, atI_0, atI_1, atI_2, atI_3, ↓wd_p9, ↓wd_p12, ↓wd_p15, ↓wd_p18, ↓wd_p20, ↓wd_p30, ixN_30, ixN_31, ixN_32, psq_nx, s0]
      refine Wfor_map (ys := L) (f := fun l : List Nat => D.tup (nD l)) (fun pre2 cc => cc = [cf (.int k), cf (.lst (rowsD L)), cf (.int (0 + (y : Int))), co (.lst (rowsD (pre2.flatMap grow))), none, none]) rfl (fun pre2 p suf2 cc e2 hI => ?_) fun cc hI => ?_
      · subst hI
        have hpl : p.length = j := hL.l p (by rw [e2]; simp)
        have hL2 : pre2.length < L.length := by rw [e2]; simp
        have h3 : (3 : Nat) ^ j ≤ 3 ^ 5 := Nat.pow_le_pow_right (by decide) (by omega)
        have hn := hL.n
        have hfl : (pre2.flatMap grow).length = pre2.length * 3 := by
          clear e2 hL2
          induction pre2 with
          | nil => rfl
          | cons a pre2 ih => rw [List.flatMap_cons, List.length_append, ih, List.length_cons]; simp [grow]; omega
        have hpp : (nD p).length + 1 ≤ sizeLine := by rw [nD_length, hpl, sizeLine_eq]; omega
        have hlen : (rowsD (pre2.flatMap grow)).length + ((List.range 3).map fun e : Nat => D.tup (nD (p ++ [e]))).length ≤ sizeLine := by
          unfold rowsD
          rw [List.length_map, List.length_map, List.length_range, hfl, sizeLine_eq]
          omega
        have hap : rowsD (pre2.flatMap grow) ++ ((List.range 3).map fun e : Nat => D.tup (nD (p ++ [e]))) = rowsD ((pre2 ++ [p]).flatMap grow) := by
          rw [List.flatMap_append, ← rowsD_app]
          simp [rowsD, grow]
        simp (maxSteps := 1000000) only [cf, co, cb, ↓We_var, ↓We_non, ↓We_bl, ↓We_int, ↓We_str, ↓We_gl, ↓We_bin, ↓We_neg, ↓We_nt, ↓We_and, ↓We_or, ↓We_ite, ↓We_cmp, ↓We_chain, ↓We_tup, ↓We_lst, ↓We_ix, ↓We_sl, ↓We_nopart, ↓We_rvs, ↓We_call, ↓We_callK, ↓We_bi, ↓We_mth, ↓We_isi, ↓We_lc, ↓We_yes, ↓We_val, ↓We_tru, ↓Wes_nil, ↓Wes_cons, ↓Wei_seq, ↓Wei_range1, ↓Wei_range2, ↓Wei_enum, ↓Wei_zip, ↓Ws_pass, ↓Ws_brk, ↓Ws_cont, ↓Ws_nil, ↓Ws_cons, ↓Ws_asg, ↓Ws_par, ↓Ws_unp, ↓Ws_drop, ↓Ws_aug, ↓Ws_setI, ↓Ws_app, ↓Ws_ext, ↓Ws_ret, ↓Ws_retN, ↓Ws_if, ↓Ws_for, ↓Ws_never, ↓Ws_fga, psq_rt, psq_bk, psq_ct, psq_ex, pfg_nx, pfg_ct, pfg_rt, pfg_bk, pfg_ex, Rw_ok, Rw_ex, ↓Rw_bind, ↓Rw_opt, Ow_some, Ow_none, ↓Ow_bind, ↓Ow_map, ↓Ow_ite, Cw_true, Cw_false, Cw_not, callW_G, callG_none, callG_io, callKW_none', okIo_own, okIo_bor, outW_none, outW_some, ↓we_nil, ↓we_cons, ↓we_dt, ↓we_fr, ↓we_slot, ↓wk_nil, ↓wk_cons, ↓wk_dt, ↓wk_fr, ↓wk_slot, ↓wg_dt, ↓wg_fr, ↓wg_slot, ↓wr_nil, ↓wr_cons, wo_own, wc_F, wc_T, ↓wp_nil, ↓wp_cons, wput, wcell, wcl0, wclf, wclo, wmf, wmo, wmb, wwr, wwo, wwb, wfree, wfree0, wfreef, wd_add, wd_adds, wd_addl, wd_addt, wd_sub, wd_mul, wd_repl, wd_rept, wd_div, wd_mod, wd_pow, wd_eq, wd_ne, wd_lt, wd_le, wd_gt, wd_ge, wd_inl, wd_int, wd_nil, wd_nit, wd_is, wd_isn, wd_tn, wd_tb, wd_ti, wd_tl, wd_tt, wd_ixl, wd_ixt, wd_sll, wd_slt, wd_i, wd_b, wd_lenl, wd_lent, wd_sum, wd_min2, wd_max2, wd_all, wd_any, wd_abs, wd_repr, wd_inti, wd_intb, wd_list1, wd_list2, wd_tup1, wd_tup2, wd_asn, wd_ast, wd_as0, wd_as1, wd_itl, wd_itt, wd_dt, wd_fr, wd_slot, wd_bvT, wd_bvF, wd_rv, wd_pn, wd_pvar, wd_pint, wd_pbin, wd_pneg, wd_pbi, wd_pcall, wd_pix, wd_ls, wd_aa, wd_as, wd_frl, wd_fzi, isTyD, isT, D.dt, isNon, permL, initE, wipeE, restE, List.getElem?_cons_zero, List.getElem?_cons_succ, List.getElem?_nil, List.set_cons_zero, List.set_cons_succ, List.length_cons, List.length_nil, List.cons_append, List.nil_append, List.append_nil, List.replicate, List.all_cons, List.all_nil, List.any_cons, List.any_nil, List.filterMap_cons, List.filterMap_nil, Option.join_some, Option.join_none, Option.bind_some, Option.map_some, Option.map_none, Bool.and_true, Bool.and_self, Bool.or_false, Bool.false_or, Bool.true_or, Bool.or_true, Bool.not_true, Bool.not_false, true_and, and_true, and_self, or_true, true_or, or_false, false_or, if_true, if_false, Bool.false_eq_true, Bool.true_eq_false, reduceCtorEq, Nat.reduceAdd, Nat.reduceSub, Nat.reduceLT, Int.reduceNeg, Nat.reduceLeDiff, not_true_eq_false, not_false_eq_true, reduceIte, decide_true, decide_false, beq_self_eq_true, ne_eq, atI_0, atI_1, atI_2, atI_3, ↓wd_p9, ↓wd_p12, ↓wd_p15, ↓wd_p18, ↓wd_p20, ↓wd_p30, ixN_30, ixN_31, ixN_32, psq_nx]
        refine ⟨by decide, ?_⟩
        rw [rangeD_map, show Int.toNat 3 = 3 from rfl]
        refine Wlc_map (fun e : Nat => D.tup (nD (p ++ [e]))) (by rw [sizeLine_eq]; decide) (fun y _ => ?_) ?_
        · simp (maxSteps := 1000000) only [cf, co, cb, ↓We_var, ↓We_non, ↓We_bl, ↓We_int, ↓We_str, ↓We_gl, ↓We_bin, ↓We_neg, ↓We_nt, ↓We_and, ↓We_or, ↓We_ite, ↓We_cmp, ↓We_chain, ↓We_tup, ↓We_lst, ↓We_ix, ↓We_sl, ↓We_nopart, ↓We_rvs, ↓We_call, ↓We_callK, ↓We_bi, ↓We_mth, ↓We_isi, ↓We_lc, ↓We_yes, ↓We_val, ↓We_tru, ↓Wes_nil, ↓Wes_cons, ↓Wei_seq, ↓Wei_range1, ↓Wei_range2, ↓Wei_enum, ↓Wei_zip, ↓Ws_pass, ↓Ws_brk, ↓Ws_cont, ↓Ws_nil, ↓Ws_cons, ↓Ws_asg, ↓Ws_par, ↓Ws_unp, ↓Ws_drop, ↓Ws_aug, ↓Ws_setI, ↓Ws_app, ↓Ws_ext, ↓Ws_ret, ↓Ws_retN, ↓Ws_if, ↓Ws_for, ↓Ws_never, ↓Ws_fga, psq_rt, psq_bk, psq_ct, psq_ex, pfg_nx, pfg_ct, pfg_rt, pfg_bk, pfg_ex, Rw_ok, Rw_ex, ↓Rw_bind, ↓Rw_opt, Ow_some, Ow_none, ↓Ow_bind, ↓Ow_map, ↓Ow_ite, Cw_true, Cw_false, Cw_not, callW_G, callG_none, callG_io, callKW_none', okIo_own, okIo_bor, outW_none, outW_some, ↓we_nil, ↓we_cons, ↓we_dt, ↓we_fr, ↓we_slot, ↓wk_nil, ↓wk_cons, ↓wk_dt, ↓wk_fr, ↓wk_slot, ↓wg_dt, ↓wg_fr, ↓wg_slot, ↓wr_nil, ↓wr_cons, wo_own, wc_F, wc_T, ↓wp_nil, ↓wp_cons, wput, wcell, wcl0, wclf, wclo, wmf, wmo, wmb, wwr, wwo, wwb, wfree, wfree0, wfreef, wd_add, wd_adds, wd_addl, wd_addt, wd_sub, wd_mul, wd_repl, wd_rept, wd_div, wd_mod, wd_pow, wd_eq, wd_ne, wd_lt, wd_le, wd_gt, wd_ge, wd_inl, wd_int, wd_nil, wd_nit, wd_is, wd_isn, wd_tn, wd_tb, wd_ti, wd_tl, wd_tt, wd_ixl, wd_ixt, wd_sll, wd_slt, wd_i, wd_b, wd_lenl, wd_lent, wd_sum, wd_min2, wd_max2, wd_all, wd_any, wd_abs, wd_repr, wd_inti, wd_intb, wd_list1, wd_list2, wd_tup1, wd_tup2, wd_asn, wd_ast, wd_as0, wd_as1, wd_itl, wd_itt, wd_dt, wd_fr, wd_slot, wd_bvT, wd_bvF, wd_rv, wd_pn, wd_pvar, wd_pint, wd_pbin, wd_pneg, wd_pbi, wd_pcall, wd_pix, wd_ls, wd_aa, wd_as, wd_frl, wd_fzi, isTyD, isT, D.dt, isNon, permL, initE, wipeE, restE, List.getElem?_cons_zero, List.getElem?_cons_succ, List.getElem?_nil, List.set_cons_zero, List.set_cons_succ, List.length_cons, List.length_nil, List.cons_append, List.nil_append, List.append_nil, List.replicate, List.all_cons, List.all_nil, List.any_cons, List.any_nil, List.filterMap_cons, List.filterMap_nil, Option.join_some, Option.join_none, Option.bind_some, Option.map_some, Option.map_none, Bool.and_true, Bool.and_self, Bool.or_false, Bool.false_or, Bool.true_or, Bool.or_true, Bool.not_true, Bool.not_false, true_and, and_true, and_self, or_true, true_or, or_false, false_or, if_true, if_false, Bool.false_eq_true, Bool.true_eq_false, reduceCtorEq, Nat.reduceAdd, Nat.reduceSub, Nat.reduceLT, Int.reduceNeg, Nat.reduceLeDiff, not_true_eq_false, not_false_eq_true, reduceIte, decide_true, decide_false, beq_self_eq_true, ne_eq, atI_0, atI_1, atI_2, atI_3, ↓wd_p9, ↓wd_p12, ↓wd_p15, ↓wd_p18, ↓wd_p20, ↓wd_p30, ixN_30, ixN_31, ixN_32, psq_nx, hpp, Int.zero_add, nD_snoc, s1]
        · simp (maxSteps := 1000000) only [cf, co, cb, ↓We_var, ↓We_non, ↓We_bl, ↓We_int, ↓We_str, ↓We_gl, ↓We_bin, ↓We_neg, ↓We_nt, ↓We_and, ↓We_or, ↓We_ite, ↓We_cmp, ↓We_chain, ↓We_tup, ↓We_lst, ↓We_ix, ↓We_sl, ↓We_nopart, ↓We_rvs, ↓We_call, ↓We_callK, ↓We_bi, ↓We_mth, ↓We_isi, ↓We_lc, ↓We_yes, ↓We_val, ↓We_tru, ↓Wes_nil, ↓Wes_cons, ↓Wei_seq, ↓Wei_range1, ↓Wei_range2, ↓Wei_enum, ↓Wei_zip, ↓Ws_pass, ↓Ws_brk, ↓Ws_cont, ↓Ws_nil, ↓Ws_cons, ↓Ws_asg, ↓Ws_par, ↓Ws_unp, ↓Ws_drop, ↓Ws_aug, ↓Ws_setI, ↓Ws_app, ↓Ws_ext, ↓Ws_ret, ↓Ws_retN, ↓Ws_if, ↓Ws_for, ↓Ws_never, ↓Ws_fga, psq_rt, psq_bk, psq_ct, psq_ex, pfg_nx, pfg_ct, pfg_rt, pfg_bk, pfg_ex, Rw_ok, Rw_ex, ↓Rw_bind, ↓Rw_opt, Ow_some, Ow_none, ↓Ow_bind, ↓Ow_map, ↓Ow_ite, Cw_true, Cw_false, Cw_not, callW_G, callG_none, callG_io, callKW_none', okIo_own, okIo_bor, outW_none, outW_some, ↓we_nil, ↓we_cons, ↓we_dt, ↓we_fr, ↓we_slot, ↓wk_nil, ↓wk_cons, ↓wk_dt, ↓wk_fr, ↓wk_slot, ↓wg_dt, ↓wg_fr, ↓wg_slot, ↓wr_nil, ↓wr_cons, wo_own, wc_F, wc_T, ↓wp_nil, ↓wp_cons, wput, wcell, wcl0, wclf, wclo, wmf, wmo, wmb, wwr, wwo, wwb, wfree, wfree0, wfreef, wd_add, wd_adds, wd_addl, wd_addt, wd_sub, wd_mul, wd_repl, wd_rept, wd_div, wd_mod, wd_pow, wd_eq, wd_ne, wd_lt, wd_le, wd_gt, wd_ge, wd_inl, wd_int, wd_nil, wd_nit, wd_is, wd_isn, wd_tn, wd_tb, wd_ti, wd_tl, wd_tt, wd_ixl, wd_ixt, wd_sll, wd_slt, wd_i, wd_b, wd_lenl, wd_lent, wd_sum, wd_min2, wd_max2, wd_all, wd_any, wd_abs, wd_repr, wd_inti, wd_intb, wd_list1, wd_list2, wd_tup1, wd_tup2, wd_asn, wd_ast, wd_as0, wd_as1, wd_itl, wd_itt, wd_dt, wd_fr, wd_slot, wd_bvT, wd_bvF, wd_rv, wd_pn, wd_pvar, wd_pint, wd_pbin, wd_pneg, wd_pbi, wd_pcall, wd_pix, wd_ls, wd_aa, wd_as, wd_frl, wd_fzi, isTyD, isT, D.dt, isNon, permL, initE, wipeE, restE, List.getElem?_cons_zero, List.getElem?_cons_succ, List.getElem?_nil, List.set_cons_zero, List.set_cons_succ, List.length_cons, List.length_nil, List.cons_append, List.nil_append, List.append_nil, List.replicate, List.all_cons, List.all_nil, List.any_cons, List.any_nil, List.filterMap_cons, List.filterMap_nil, Option.join_some, Option.join_none, Option.bind_some, Option.map_some, Option.map_none, Bool.and_true, Bool.and_self, Bool.or_false, Bool.false_or, Bool.true_or, Bool.or_true, Bool.not_true, Bool.not_false, true_and, and_true, and_self, or_true, true_or, or_false, false_or, if_true, if_false, Bool.false_eq_true, Bool.true_eq_false, reduceCtorEq, Nat.reduceAdd, Nat.reduceSub, Nat.reduceLT, Int.reduceNeg, Nat.reduceLeDiff, not_true_eq_false, not_false_eq_true, reduceIte, decide_true, decide_false, beq_self_eq_true, ne_eq, atI_0, atI_1, atI_2, atI_3, ↓wd_p9, ↓wd_p12, ↓wd_p15, ↓wd_p18, ↓wd_p20, ↓wd_p30, ixN_30, ixN_31, ixN_32, psq_nx, hlen, hap]
      · subst hI
        simp (maxSteps := 1000000) only [cf, co, cb, ↓We_var, ↓We_non, ↓We_bl, ↓We_int, ↓We_str, ↓We_gl, ↓We_bin, ↓We_neg, ↓We_nt, ↓We_and, ↓We_or, ↓We_ite, ↓We_cmp, ↓We_chain, ↓We_tup, ↓We_lst, ↓We_ix, ↓We_sl, ↓We_nopart, ↓We_rvs, ↓We_call, ↓We_callK, ↓We_bi, ↓We_mth, ↓We_isi, ↓We_lc, ↓We_yes, ↓We_val, ↓We_tru, ↓Wes_nil, ↓Wes_cons, ↓Wei_seq, ↓Wei_range1, ↓Wei_range2, ↓Wei_enum, ↓Wei_zip, ↓Ws_pass, ↓Ws_brk, ↓Ws_cont, ↓Ws_nil, ↓Ws_cons, ↓Ws_asg, ↓Ws_par, ↓Ws_unp, ↓Ws_drop, ↓Ws_aug, ↓Ws_setI, ↓Ws_app, ↓Ws_ext, ↓Ws_ret, ↓Ws_retN, ↓Ws_if, ↓Ws_for, ↓Ws_never, ↓Ws_fga, psq_rt, psq_bk, psq_ct, psq_ex, pfg_nx, pfg_ct, pfg_rt, pfg_bk, pfg_ex, Rw_ok, Rw_ex, ↓Rw_bind, ↓Rw_opt, Ow_some, Ow_none, ↓Ow_bind, ↓Ow_map, ↓Ow_ite, Cw_true, Cw_false, Cw_not, callW_G, callG_none, callG_io, callKW_none', okIo_own, okIo_bor, outW_none, outW_some, ↓we_nil, ↓we_cons, ↓we_dt, ↓we_fr, ↓we_slot, ↓wk_nil, ↓wk_cons, ↓wk_dt, ↓wk_fr, ↓wk_slot, ↓wg_dt, ↓wg_fr, ↓wg_slot, ↓wr_nil, ↓wr_cons, wo_own, wc_F, wc_T, ↓wp_nil, ↓wp_cons, wput, wcell, wcl0, wclf, wclo, wmf, wmo, wmb, wwr, wwo, wwb, wfree, wfree0, wfreef, wd_add, wd_adds, wd_addl, wd_addt, wd_sub, wd_mul, wd_repl, wd_rept, wd_div, wd_mod, wd_pow, wd_eq, wd_ne, wd_lt, wd_le, wd_gt, wd_ge, wd_inl, wd_int, wd_nil, wd_nit, wd_is, wd_isn, wd_tn, wd_tb, wd_ti, wd_tl, wd_tt, wd_ixl, wd_ixt, wd_sll, wd_slt, wd_i, wd_b, wd_lenl, wd_lent, wd_sum, wd_min2, wd_max2, wd_all, wd_any, wd_abs, wd_repr, wd_inti, wd_intb, wd_list1, wd_list2, wd_tup1, wd_tup2, wd_asn, wd_ast, wd_as0, wd_as1, wd_itl, wd_itt, wd_dt, wd_fr, wd_slot, wd_bvT, wd_bvF, wd_rv, wd_pn, wd_pvar, wd_pint, wd_pbin, wd_pneg, wd_pbi, wd_pcall, wd_pix, wd_ls, wd_aa, wd_as, wd_frl, wd_fzi, isTyD, isT, D.dt, isNon, permL, initE, wipeE, restE, List.getElem?_cons_zero, List.getElem?_cons_succ, List.getElem?_nil, List.set_cons_zero, List.set_cons_succ, List.length_cons, List.length_nil, List.cons_append, List.nil_append, List.append_nil, List.replicate, List.all_cons, List.all_nil, List.any_cons, List.any_nil, List.filterMap_cons, List.filterMap_nil, Option.join_some, Option.join_none, Option.bind_some, Option.map_some, Option.map_none, Bool.and_true, Bool.and_self, Bool.or_false, Bool.false_or, Bool.true_or, Bool.or_true, Bool.not_true, Bool.not_false, true_and, and_true, and_self, or_true, true_or, or_false, false_or, if_true, if_false, Bool.false_eq_true, Bool.true_eq_false, reduceCtorEq, Nat.reduceAdd, Nat.reduceSub, Nat.reduceLT, Int.reduceNeg, Nat.reduceLeDiff, not_true_eq_false, not_false_eq_true, reduceIte, decide_true, decide_false, beq_self_eq_true, ne_eq, atI_0, atI_1, atI_2, atI_3, ↓wd_p9, ↓wd_p12, ↓wd_p15, ↓wd_p18, ↓wd_p20, ↓wd_p30, ixN_30, ixN_31, ixN_32, psq_nx]
        refine ⟨.fz, L.flatMap grow, .inr rfl, ⟨?_, fun x hx => ?_, fun x hx c hc => ?_⟩, rfl⟩
        · have hfl : ∀ M : List (List Nat), (M.flatMap grow).length = M.length * 3 := fun M => by
            induction M with
            | nil => rfl
            | cons a M ih => rw [List.flatMap_cons, List.length_append, ih, List.length_cons]; simp [grow]; omega
          rw [hfl, Nat.pow_succ]
          exact Nat.mul_le_mul_right _ hL.n
        · obtain ⟨a, ha, hx⟩ := List.mem_flatMap.mp hx
          obtain ⟨e, _, rfl⟩ := List.mem_map.mp hx
          rw [List.length_append, hL.l a ha]; rfl
        · obtain ⟨a, ha, hx⟩ := List.mem_flatMap.mp hx
          obtain ⟨e, he, rfl⟩ := List.mem_map.mp hx
          rcases List.mem_append.mp hc with h | h
          · exact hL.s a ha c h
          · rw [List.mem_singleton.mp h]; exact List.mem_range.mp he
  · obtain ⟨t, L, ht, hL, rfl⟩ := hI
    rw [List.length_range] at hL
    rcases ht with rfl | rfl
    · ((try rw [psq_nx]); (repeat (refine Ws_step fun Q' hQ' => ?_; simp (maxSteps := 1000000) only [cf, co, cb, ↓We_var, ↓We_non, ↓We_bl, ↓We_int, ↓We_str, ↓We_gl, ↓We_bin, ↓We_neg, ↓We_nt, ↓We_and, ↓We_or, ↓We_ite, ↓We_cmp, ↓We_chain, ↓We_tup, ↓We_lst, ↓We_ix, ↓We_sl, ↓We_nopart, ↓We_rvs, ↓We_call, ↓We_callK, ↓We_bi, ↓We_mth, ↓We_isi, ↓We_lc, ↓We_yes, ↓We_val, ↓We_tru, ↓Wes_nil, ↓Wes_cons, ↓Wei_seq, ↓Wei_range1, ↓Wei_range2, ↓Wei_enum, ↓Wei_zip, ↓Ws_pass, ↓Ws_brk, ↓Ws_cont, ↓Ws_nil, ↓Ws_cons, ↓Ws_asg, ↓Ws_par, ↓Ws_unp, ↓Ws_drop, ↓Ws_aug, ↓Ws_setI, ↓Ws_app, ↓Ws_ext, ↓Ws_ret, ↓Ws_retN, ↓Ws_if, ↓Ws_for, ↓Ws_never, ↓Ws_fga, psq_rt, psq_bk, psq_ct, psq_ex, pfg_nx, pfg_ct, pfg_rt, pfg_bk, pfg_ex, Rw_ok, Rw_ex, ↓Rw_bind, ↓Rw_opt, Ow_some, Ow_none, ↓Ow_bind, ↓Ow_map, ↓Ow_ite, Cw_true, Cw_false, Cw_not, callW_G, callG_none, callG_io, callKW_none', okIo_own, okIo_bor, outW_none, outW_some, ↓we_nil, ↓we_cons, ↓we_dt, ↓we_fr, ↓we_slot, ↓wk_nil, ↓wk_cons, ↓wk_dt, ↓wk_fr, ↓wk_slot, ↓wg_dt, ↓wg_fr, ↓wg_slot, ↓wr_nil, ↓wr_cons, wo_own, wc_F, wc_T, ↓wp_nil, ↓wp_cons, wput, wcell, wcl0, wclf, wclo, wmf, wmo, wmb, wwr, wwo, wwb, wfree, wfree0, wfreef, wd_add, wd_adds, wd_addl, wd_addt, wd_sub, wd_mul, wd_repl, wd_rept, wd_div, wd_mod, wd_pow, wd_eq, wd_ne, wd_lt, wd_le, wd_gt, wd_ge, wd_inl, wd_int, wd_nil, wd_nit, wd_is, wd_isn, wd_tn, wd_tb, wd_ti, wd_tl, wd_tt, wd_ixl, wd_ixt, wd_sll, wd_slt, wd_i, wd_b, wd_lenl, wd_lent, wd_sum, wd_min2, wd_max2, wd_all, wd_any, wd_abs, wd_repr, wd_inti, wd_intb, wd_list1, wd_list2, wd_tup1, wd_tup2, wd_asn, wd_ast, wd_as0, wd_as1, wd_itl, wd_itt, wd_dt, wd_fr, wd_slot, wd_bvT, wd_bvF, wd_rv, wd_pn, wd_pvar, wd_pint, wd_pbin, wd_pneg, wd_pbi, wd_pcall, wd_pix, wd_ls, wd_aa, wd_as, wd_frl, wd_fzi, isTyD, isT, D.dt, isNon, permL, initE, wipeE, restE, List.getElem?_cons_zero, List.getElem?_cons_succ, List.getElem?_nil, List.set_cons_zero, List.set_cons_succ, List.length_cons, List.length_nil, List.cons_append, List.nil_append, List.append_nil, List.replicate, List.all_cons, List.all_nil, List.any_cons, List.any_nil, List.filterMap_cons, List.filterMap_nil, Option.join_some, Option.join_none, Option.bind_some, Option.map_some, Option.map_none, Bool.and_true, Bool.and_self, Bool.or_false, Bool.false_or, Bool.true_or, Bool.or_true, Bool.not_true, Bool.not_false, true_and, and_true, and_self, or_true, true_or, or_false, false_or, if_true, if_false, Bool.false_eq_true, Bool.true_eq_false, reduceCtorEq, Nat.reduceAdd, Nat.reduceSub, Nat.reduceLT, Int.reduceNeg, Nat.reduceLeDiff, not_true_eq_false, not_false_eq_true, reduceIte, decide_true, decide_false, beq_self_eq_true, ne_eq, atI_0, atI_1, atI_2, atI_3, ↓wd_p9, ↓wd_p12, ↓wd_p15, ↓wd_p18, ↓wd_p20, ↓wd_p30, ixN_30, ixN_31, ixN_32]; subst hQ'; try rw [psq_nx])); (try simp only [↓Ws_nil, psq_rt, psq_ex, outW_none, outW_some, wcell, List.getElem?_cons_zero, List.getElem?_cons_succ, Option.join_some, Ow_some, true_and, and_true, and_self]))
      exact hq _ L hL
    · ((try rw [psq_nx]); (repeat (refine Ws_step fun Q' hQ' => ?_; simp (maxSteps := 1000000) only [cf, co, cb, ↓We_var, ↓We_non, ↓We_bl, ↓We_int, ↓We_str, ↓We_gl, ↓We_bin, ↓We_neg, ↓We_nt, ↓We_and, ↓We_or, ↓We_ite, ↓We_cmp, ↓We_chain, ↓We_tup, ↓We_lst, ↓We_ix, ↓We_sl, ↓We_nopart, ↓We_rvs, ↓We_call, ↓We_callK, ↓We_bi, ↓We_mth, ↓We_isi, ↓We_lc, ↓We_yes, ↓We_val, ↓We_tru, ↓Wes_nil, ↓Wes_cons, ↓Wei_seq, ↓Wei_range1, ↓Wei_range2, ↓Wei_enum, ↓Wei_zip, ↓Ws_pass, ↓Ws_brk, ↓Ws_cont, ↓Ws_nil, ↓Ws_cons, ↓Ws_asg, ↓Ws_par, ↓Ws_unp, ↓Ws_drop, ↓Ws_aug, ↓Ws_setI, ↓Ws_app, ↓Ws_ext, ↓Ws_ret, ↓Ws_retN, ↓Ws_if, ↓Ws_for, ↓Ws_never, ↓Ws_fga, psq_rt, psq_bk, psq_ct, psq_ex, pfg_nx, pfg_ct, pfg_rt, pfg_bk, pfg_ex, Rw_ok, Rw_ex, ↓Rw_bind, ↓Rw_opt, Ow_some, Ow_none, ↓Ow_bind, ↓Ow_map, ↓Ow_ite, Cw_true, Cw_false, Cw_not, callW_G, callG_none, callG_io, callKW_none', okIo_own, okIo_bor, outW_none, outW_some, ↓we_nil, ↓we_cons, ↓we_dt, ↓we_fr, ↓we_slot, ↓wk_nil, ↓wk_cons, ↓wk_dt, ↓wk_fr, ↓wk_slot, ↓wg_dt, ↓wg_fr, ↓wg_slot, ↓wr_nil, ↓wr_cons, wo_own, wc_F, wc_T, ↓wp_nil, ↓wp_cons, wput, wcell, wcl0, wclf, wclo, wmf, wmo, wmb, wwr, wwo, wwb, wfree, wfree0, wfreef, wd_add, wd_adds, wd_addl, wd_addt, wd_sub, wd_mul, wd_repl, wd_rept, wd_div, wd_mod, wd_pow, wd_eq, wd_ne, wd_lt, wd_le, wd_gt, wd_ge, wd_inl, wd_int, wd_nil, wd_nit, wd_is, wd_isn, wd_tn, wd_tb, wd_ti, wd_tl, wd_tt, wd_ixl, wd_ixt, wd_sll, wd_slt, wd_i, wd_b, wd_lenl, wd_lent, wd_sum, wd_min2, wd_max2, wd_all, wd_any, wd_abs, wd_repr, wd_inti, wd_intb, wd_list1, wd_list2, wd_tup1, wd_tup2, wd_asn, wd_ast, wd_as0, wd_as1, wd_itl, wd_itt, wd_dt, wd_fr, wd_slot, wd_bvT, wd_bvF, wd_rv, wd_pn, wd_pvar, wd_pint, wd_pbin, wd_pneg, wd_pbi, wd_pcall, wd_pix, wd_ls, wd_aa, wd_as, wd_frl, wd_fzi, isTyD, isT, D.dt, isNon, permL, initE, wipeE, restE, List.getElem?_cons_zero, List.getElem?_cons_succ, List.getElem?_nil, List.set_cons_zero, List.set_cons_succ, List.length_cons, List.length_nil, List.cons_append, List.nil_append, List.append_nil, List.replicate, List.all_cons, List.all_nil, List.any_cons, List.any_nil, List.filterMap_cons, List.filterMap_nil, Option.join_some, Option.join_none, Option.bind_some, Option.map_some, Option.map_none, Bool.and_true, Bool.and_self, Bool.or_false, Bool.false_or, Bool.true_or, Bool.or_true, Bool.not_true, Bool.not_false, true_and, and_true, and_self, or_true, true_or, or_false, false_or, if_true, if_false, Bool.false_eq_true, Bool.true_eq_false, reduceCtorEq, Nat.reduceAdd, Nat.reduceSub, Nat.reduceLT, Int.reduceNeg, Nat.reduceLeDiff, not_true_eq_false, not_false_eq_true, reduceIte, decide_true, decide_false, beq_self_eq_true, ne_eq, atI_0, atI_1, atI_2, atI_3, ↓wd_p9, ↓wd_p12, ↓wd_p15, ↓wd_p18, ↓wd_p20, ↓wd_p30, ixN_30, ixN_31, ixN_32]; subst hQ'; try rw [psq_nx])); (try simp only [↓Ws_nil, psq_rt, psq_ex, outW_none, outW_some, wcell, List.getElem?_cons_zero, List.getElem?_cons_succ, Option.join_some, Ow_some, true_and, and_true, and_self]))
      exact hq _ L hL

/-! ### the check of one pair -/
theorem good_sum {cs xs : List Nat} (hc : ∀ c ∈ cs, c < 2 ^ 62) (hx : ∀ c ∈ xs, c < 2 ^ 9000) (h1 : cs.length ≤ 200) (h2 : xs.length ≤ 200) : Good2 (sumN cs xs) := by
  refine ⟨fun y hy => ?_, by rw [sumN_len]; omega⟩
  have h := sumN_lt hc hx (Nat.two_pow_pos _) (Nat.two_pow_pos _) y hy
  have e : (2 : Nat) ^ 62 ≤ 2 ^ 9000 := Nat.pow_le_pow_right (by decide) (by decide)
  have e2 : (2 : Nat) ^ 9001 = 2 ^ 9000 + 2 ^ 9000 := by rw [show 9001 = 9000 + 1 from rfl, Nat.pow_succ]; omega
  have e3 : (2 : Nat) ^ 9001 ≤ 2 ^ 20000 := Nat.pow_le_pow_right (by decide) (by decide)
  exact Nat.lt_of_lt_of_le h (Nat.le_trans (Nat.add_le_add_right e _) (e2 ▸ e3))
theorem tl_lt {es c1 c2 : List Nat} (g : Good1 es) : tlN es c1 c2 < PD es := by
  have hP : (0 : Int) < (PD es : Nat) := Int.natCast_pos.mpr (pd_pos g)
  have h1 := Int.emod_lt_of_pos (-((max (SW es c1) (SW es c2) : Nat) : Int)) hP
  have h0 := Int.emod_nonneg (-((max (SW es c1) (SW es c2) : Nat) : Int)) (b := (PD es : Nat)) (by omega)
  unfold tlN
  omega
theorem SW_last {es : List Nat} (g : Good1 es) (h : 1 ≤ es.length) (r : Nat) : SW es (List.replicate (es.length - 1) 0 ++ [r]) = r := by
  have hs := sw_set (PD es) (List.replicate (es.length - 1) 0 ++ [r]) (es.length - 1) 0 r _ (pl 1 es) (by rw [List.getElem?_append_right (by simp), List.length_replicate, Nat.sub_self]; rfl) (pl_at h (Nat.le_refl _))
  have e : (List.replicate (es.length - 1) 0 ++ [r]).set (es.length - 1) 0 = List.replicate (es.length - 1 + 1) 0 := by
    rw [List.set_append_right _ _ (by simp), List.length_replicate, Nat.sub_self, List.replicate_succ']; rfl
  rw [e, sw_zero] at hs
  have hd : PD es / pp es es.length = 1 := by rw [PD_eq]; exact Nat.div_self (pp_pos g.ge _)
  rw [hd] at hs
  show sw (PD es) _ (pl 1 es) = r
  omega
/-- with the addition the whole parts differ -/
theorem tells {es c1 c2 : List Nat} (g : Good1 es) (hw : SW es c1 ≠ SW es c2) :
    (SW es c1 + tlN es c1 c2) / PD es ≠ (SW es c2 + tlN es c1 c2) / PD es := by
  have hP : 0 < PD es := pd_pos g
  have hd : (PD es : Nat) ∣ max (SW es c1) (SW es c2) + tlN es c1 c2 := by
    have hP' : (0 : Int) < (PD es : Nat) := Int.natCast_pos.mpr hP
    have h0 := Int.emod_nonneg (-((max (SW es c1) (SW es c2) : Nat) : Int)) (b := (PD es : Nat)) (by omega)
    have e : ((tlN es c1 c2 : Nat) : Int) = -((max (SW es c1) (SW es c2) : Nat) : Int) % (PD es : Nat) := Int.toNat_of_nonneg h0
    have q := Int.mul_ediv_add_emod (-((max (SW es c1) (SW es c2) : Nat) : Int)) (PD es : Nat)
    have : ((PD es : Nat) : Int) ∣ ((max (SW es c1) (SW es c2) + tlN es c1 c2 : Nat) : Int) := ⟨-(-((max (SW es c1) (SW es c2) : Nat) : Int) / (PD es : Nat)), by rw [Int.mul_neg]; omega⟩
    exact Int.natCast_dvd_natCast.mp this
  obtain ⟨k, hk⟩ := hd
  have key : ∀ a b : Nat, a < b → b + tlN es c1 c2 = PD es * k → (a + tlN es c1 c2) / PD es < k := fun a b hab e => by
    rw [Nat.div_lt_iff_lt_mul hP, Nat.mul_comm]; omega
  have e0 : PD es * k / PD es = k := Nat.mul_div_cancel_left _ hP
  rcases Nat.lt_or_gt_of_ne hw with hlt | hlt
  · have e : SW es c2 + tlN es c1 c2 = PD es * k := by rw [← hk]; congr 1; omega
    have := key _ _ hlt e
    rw [e, e0]; omega
  · have e : SW es c1 + tlN es c1 c2 = PD es * k := by rw [← hk]; congr 1; omega
    have := key _ _ hlt e
    rw [e, e0]; omega
end Lw


set_option Elab.async false
set_option linter.all false
set_option maxRecDepth 100000
set_option maxHeartbeats 1000000
namespace Lw
open PySem PySem.Spec PyProof.Rows L2 T
/-- counts as the partner has them -/
structure Cn (cs : List Nat) : Prop where
  lt : ∀ c ∈ cs, c < 2 ^ 62
  len : cs.length ≤ 200
theorem Cn.good {cs : List Nat} (h : Cn cs) : Good2 cs := ⟨fun c hc => Nat.lt_of_lt_of_le (h.lt c hc) (Nat.pow_le_pow_right (by decide) (by decide)), h.len⟩
theorem eqD_pair (a b p : Nat) : eqD (.tup [.int a, .int p]) (.tup [.int b, .int p]) = some (decide (a = b)) := by
  have := eqD_tup [(a : Int), (p : Int)] [(b : Int), (p : Int)]
  refine this.trans ?_
  congr 1
  simp
  omega
def RightOk (F : Fn) : Prop := F.ar = 3 ∧ F.io = none ∧ ∀ es c1 c2 : List Nat, Good1 es → Cn c1 → Cn c2 → F.run [.lst (nD es), .tup (nD c1), .tup (nD c2)] = .ret false (.bl true) .non
theorem okD_tl (es c1 c2 : List Nat) : okD 9 (tlD es c1 c2) := by
  unfold tlD
  split
  · rw [okD_non]; trivial
  · exact okD_tup 8 _ ▸ okD_nD 8 _
theorem ok_right {Γ : Nat → Option Fn} {i1 i2 i3 i4 i5 : Nat} {F1 F2 F3 F4 F5 : Fn} (g1 : Γ i1 = some F1) (g2 : Γ i2 = some F2) (g3 : Γ i3 = some F3) (g4 : Γ i4 = some F4) (g5 : Γ i5 = some F5)
    (h1 : GuarOk F1) (h2 : SumOk F2) (h3 : AddsOk F3) (h4 : TellOk F4) (h5 : Scaled5Ok F5) : RightOk (mkFn Γ 3 7 none (c__law_right i1 i2 i3 i4 i5)) := by
  obtain ⟨a1, b1, r1⟩ := h1
  obtain ⟨a2, b2, r2⟩ := h2
  obtain ⟨a3, b3, r3⟩ := h3
  obtain ⟨a4, b4, r4⟩ := h4
  obtain ⟨a5, b5, r5⟩ := h5
  refine ⟨rfl, rfl, fun es c1 c2 g n1 n2 => Wk_run (Wf_mk rfl ?_)⟩
  have s2 : 2 ≤ sizeLine := by decide
  have s0 : 0 ≤ sizeLine := by decide
  have e5 := Wf_ret (r5 es c1 g n1.good.lt (by have := n1.len; omega))
  have e5' := Wf_ret (r5 es c2 g n2.good.lt (by have := n2.len; omega))
  have e4 : ∀ X K, @Wf F4 [.lst (nD es), .tup (nD c1), .tup (nD c2)] X K = K false (tlD es c1 c2) .non := Wf_ret (r4 true es c1 c2 g n1.good n2.good)
  have e4' : ∀ X K, @Wf F4 [.tup (nD es), .tup (nD c1), .tup (nD c2)] X K = K false (tlD es c1 c2) .non := Wf_ret (r4 false es c1 c2 g n1.good n2.good)
  have hself := eqD_self (okD_tl es c1 c2)
  have hel := g.len
  have hP : (0 : Int) < (PD es : Nat) := Int.natCast_pos.mpr (pd_pos g)
  have hsum : ∀ (c xs : List Nat), Cn c → (∀ x ∈ xs, x < 2 ^ 9000) → xs.length ≤ 200 → (∀ X K, @Wf F2 [.tup (nD c), .tup (nD xs)] X K = K false (.tup (nD (sumN c xs))) .non) ∧ ∀ X K, @Wf F1 [.lst (nD es), .tup (nD (sumN c xs)), .str "many"] X K = K false (.int ((SW es c + SW es xs) / PD es : Nat)) .non := fun c xs hc hx hl => by
    refine ⟨Wf_ret (r2 c xs (by have := hc.len; omega) (by omega)), fun X K => ?_⟩
    refine (Wf_ret (r1 true true es _ g (good_sum hc.lt hx hc.len hl)) X K).trans ?_
    show K false (.int (((SW es (sumN c xs) : Nat) : Int) / (PD es : Nat))) .non = _
    rw [SW_sum]; rfl
  unfold c__law_right
  by_cases hw : SW es c1 = SW es c2
  · have ht : tlD es c1 c2 = .non := by unfold tlD; rw [if_pos hw]
    rw [ht] at e4 e4' hself
    have q1 : eqD (.tup [.int (SW es c1 : Nat), .int (PD es : Nat)]) (.tup [.int (SW es c2 : Nat), .int (PD es : Nat)]) = some true := by rw [eqD_pair, decide_eq_true hw]
    have q2 := eqD_bl true true
    have hk : ∃ k : Int, L2.atI [D.int 1, .int (if (4 : Int) < (es.length : Int) then 4 else (es.length : Int))] (if decide ((es.length : Int) < 6) = true then 1 else 0) = some (.int k) ∧ 0 ≤ k ∧ k ≤ 5 := by
      by_cases h6 : (es.length : Int) < 6
      · rw [decide_eq_true h6]
        refine ⟨_, atI_1 _ _ _, ?_, ?_⟩ <;> split <;> omega
      · rw [decide_eq_false h6]
        exact ⟨_, atI_0 _ _, by omega, by omega⟩
    obtain ⟨k, hk, k0, k5⟩ := hk
    ((try rw [psq_nx]); (repeat (refine Ws_step fun Q' hQ' => ?_; simp (maxSteps := 1000000) only [cf, co, cb, ↓We_var, ↓We_non, ↓We_bl, ↓We_int, ↓We_str, ↓We_gl, ↓We_bin, ↓We_neg, ↓We_nt, ↓We_and, ↓We_or, ↓We_ite, ↓We_cmp, ↓We_chain, ↓We_tup, ↓We_lst, ↓We_ix, ↓We_sl, ↓We_nopart, ↓We_rvs, ↓We_call, ↓We_callK, ↓We_bi, ↓We_mth, ↓We_isi, ↓We_lc, ↓We_yes, ↓We_val, ↓We_tru, ↓Wes_nil, ↓Wes_cons, ↓Wei_seq, ↓Wei_range1, ↓Wei_range2, ↓Wei_enum, ↓Wei_zip, ↓Ws_pass, ↓Ws_brk, ↓Ws_cont, ↓Ws_nil, ↓Ws_cons, ↓Ws_asg, ↓Ws_par, ↓Ws_unp, ↓Ws_drop, ↓Ws_aug, ↓Ws_setI, ↓Ws_app, ↓Ws_ext, ↓Ws_ret, ↓Ws_retN, ↓Ws_if, ↓Ws_for, ↓Ws_never, ↓Ws_fga, psq_rt, psq_bk, psq_ct, psq_ex, pfg_nx, pfg_ct, pfg_rt, pfg_bk, pfg_ex, Rw_ok, Rw_ex, ↓Rw_bind, ↓Rw_opt, Ow_some, Ow_none, ↓Ow_bind, ↓Ow_map, ↓Ow_ite, Cw_true, Cw_false, Cw_not, callW_G, callG_none, callG_io, callKW_none', okIo_own, okIo_bor, outW_none, outW_some, ↓we_nil, ↓we_cons, ↓we_dt, ↓we_fr, ↓we_slot, ↓wk_nil, ↓wk_cons, ↓wk_dt, ↓wk_fr, ↓wk_slot, ↓wg_dt, ↓wg_fr, ↓wg_slot, ↓wr_nil, ↓wr_cons, wo_own, wc_F, wc_T, ↓wp_nil, ↓wp_cons, wput, wcell, wcl0, wclf, wclo, wmf, wmo, wmb, wwr, wwo, wwb, wfree, wfree0, wfreef, wd_add, wd_adds, wd_addl, wd_addt, wd_sub, wd_mul, wd_repl, wd_rept, wd_div, wd_mod, wd_pow, wd_eq, wd_ne, wd_lt, wd_le, wd_gt, wd_ge, wd_inl, wd_int, wd_nil, wd_nit, wd_is, wd_isn, wd_tn, wd_tb, wd_ti, wd_tl, wd_tt, wd_ixl, wd_ixt, wd_sll, wd_slt, wd_i, wd_b, wd_lenl, wd_lent, wd_sum, wd_min2, wd_max2, wd_all, wd_any, wd_abs, wd_repr, wd_inti, wd_intb, wd_list1, wd_list2, wd_tup1, wd_tup2, wd_asn, wd_ast, wd_as0, wd_as1, wd_itl, wd_itt, wd_dt, wd_fr, wd_slot, wd_bvT, wd_bvF, wd_rv, wd_pn, wd_pvar, wd_pint, wd_pbin, wd_pneg, wd_pbi, wd_pcall, wd_pix, wd_ls, wd_aa, wd_as, wd_frl, wd_fzi, isTyD, isT, D.dt, isNon, permL, initE, wipeE, restE, List.getElem?_cons_zero, List.getElem?_cons_succ, List.getElem?_nil, List.set_cons_zero, List.set_cons_succ, List.length_cons, List.length_nil, List.cons_append, List.nil_append, List.append_nil, List.replicate, List.all_cons, List.all_nil, List.any_cons, List.any_nil, List.filterMap_cons, List.filterMap_nil, Option.join_some, Option.join_none, Option.bind_some, Option.map_some, Option.map_none, Bool.and_true, Bool.and_self, Bool.or_false, Bool.false_or, Bool.true_or, Bool.or_true, Bool.not_true, Bool.not_false, true_and, and_true, and_self, or_true, true_or, or_false, false_or, if_true, if_false, Bool.false_eq_true, Bool.true_eq_false, reduceCtorEq, Nat.reduceAdd, Nat.reduceSub, Nat.reduceLT, Int.reduceNeg, Nat.reduceLeDiff, not_true_eq_false, not_false_eq_true, reduceIte, decide_true, decide_false, beq_self_eq_true, ne_eq, atI_0, atI_1, atI_2, atI_3, ↓wd_p9, ↓wd_p12, ↓wd_p15, ↓wd_p18, ↓wd_p20, ↓wd_p30, ixN_30, ixN_31, ixN_32, ↓e5, ↓e5', ↓e4, ↓e4', g1, g2, g3, g4, g5, a1, a2, a3, a4, a5, b1, b2, b3, b4, b5, q1, q2, hself, s2, nD_length, hk]; subst hQ'; try rw [psq_nx])); (try simp only [↓Ws_nil, psq_rt, psq_ex, outW_none, outW_some, wcell, List.getElem?_cons_zero, List.getElem?_cons_succ, Option.join_some, Ow_some, true_and, and_true, and_self]))
    refine r3 k _ _ k0 k5 fun b L hL => ?_
    have loop : ∀ Q : Pst, (Q.nx [cf (.lst (nD es)), cf (.tup (nD c1)), cf (.tup (nD c2)), cf (.bl true), cf .non, none, none]) → @Wfor Γ (.nm 5) (.cons (.asg 6 (.lstE (.cons (.call i2 (.cons (.var 1) (.cons (.var 5) (.nil)))) (.cons (.call i2 (.cons (.var 2) (.cons (.var 5) (.nil)))) (.nil))))) (.cons (.fga [5, 6] (.ifS (.cmp .ne (.call i1 (.cons (.var 0) (.cons (.ix (.var 6) (.int 0)) (.cons (.str "many") (.nil))))) (.call i1 (.cons (.var 0) (.cons (.ix (.var 6) (.int 1)) (.cons (.str "many") (.nil)))))) (.cons (.ret (.bl false)) (.nil)) (.nil))) (.nil))) (rowsD L) [cf (.lst (nD es)), cf (.tup (nD c1)), cf (.tup (nD c2)), cf (.bl true), cf .non, none, none] Q := fun Q hQ => by
      refine Wfor_map (ys := L) (f := fun l : List Nat => D.tup (nD l)) (fun _ cc => cc = [cf (.lst (nD es)), cf (.tup (nD c1)), cf (.tup (nD c2)), cf (.bl true), cf .non, none, none]) rfl (fun pre p suf cc e hI => ?_) fun cc hI => ?_
      · subst hI
        have hp : p ∈ L := by rw [e]; simp
        have hp1 : ∀ x ∈ p, x < 2 ^ 9000 := fun x hx => Nat.lt_of_lt_of_le (hL.s p hp x hx) (Nat.le_trans (show 3 ≤ 2 ^ 2 by decide) (Nat.pow_le_pow_right (by decide) (by decide)))
        have hp2 : p.length ≤ 200 := by rw [hL.l p hp]; omega
        obtain ⟨u1, t1⟩ := hsum c1 p n1 hp1 hp2
        obtain ⟨u2, t2⟩ := hsum c2 p n2 hp1 hp2
        rw [hw] at t1
        have hq : eqD (.int ((SW es c2 + SW es p) / PD es : Nat)) (.int ((SW es c2 + SW es p) / PD es : Nat)) = some true := eqD_self (okD_int 9 _ ▸ trivial)
        generalize (SW es c2 + SW es p) / PD es = A at *
        simp (maxSteps := 1000000) only [cf, co, cb, ↓We_var, ↓We_non, ↓We_bl, ↓We_int, ↓We_str, ↓We_gl, ↓We_bin, ↓We_neg, ↓We_nt, ↓We_and, ↓We_or, ↓We_ite, ↓We_cmp, ↓We_chain, ↓We_tup, ↓We_lst, ↓We_ix, ↓We_sl, ↓We_nopart, ↓We_rvs, ↓We_call, ↓We_callK, ↓We_bi, ↓We_mth, ↓We_isi, ↓We_lc, ↓We_yes, ↓We_val, ↓We_tru, ↓Wes_nil, ↓Wes_cons, ↓Wei_seq, ↓Wei_range1, ↓Wei_range2, ↓Wei_enum, ↓Wei_zip, ↓Ws_pass, ↓Ws_brk, ↓Ws_cont, ↓Ws_nil, ↓Ws_cons, ↓Ws_asg, ↓Ws_par, ↓Ws_unp, ↓Ws_drop, ↓Ws_aug, ↓Ws_setI, ↓Ws_app, ↓Ws_ext, ↓Ws_ret, ↓Ws_retN, ↓Ws_if, ↓Ws_for, ↓Ws_never, ↓Ws_fga, psq_rt, psq_bk, psq_ct, psq_ex, pfg_nx, pfg_ct, pfg_rt, pfg_bk, pfg_ex, Rw_ok, Rw_ex, ↓Rw_bind, ↓Rw_opt, Ow_some, Ow_none, ↓Ow_bind, ↓Ow_map, ↓Ow_ite, Cw_true, Cw_false, Cw_not, callW_G, callG_none, callG_io, callKW_none', okIo_own, okIo_bor, outW_none, outW_some, ↓we_nil, ↓we_cons, ↓we_dt, ↓we_fr, ↓we_slot, ↓wk_nil, ↓wk_cons, ↓wk_dt, ↓wk_fr, ↓wk_slot, ↓wg_dt, ↓wg_fr, ↓wg_slot, ↓wr_nil, ↓wr_cons, wo_own, wc_F, wc_T, ↓wp_nil, ↓wp_cons, wput, wcell, wcl0, wclf, wclo, wmf, wmo, wmb, wwr, wwo, wwb, wfree, wfree0, wfreef, wd_add, wd_adds, wd_addl, wd_addt, wd_sub, wd_mul, wd_repl, wd_rept, wd_div, wd_mod, wd_pow, wd_eq, wd_ne, wd_lt, wd_le, wd_gt, wd_ge, wd_inl, wd_int, wd_nil, wd_nit, wd_is, wd_isn, wd_tn, wd_tb, wd_ti, wd_tl, wd_tt, wd_ixl, wd_ixt, wd_sll, wd_slt, wd_i, wd_b, wd_lenl, wd_lent, wd_sum, wd_min2, wd_max2, wd_all, wd_any, wd_abs, wd_repr, wd_inti, wd_intb, wd_list1, wd_list2, wd_tup1, wd_tup2, wd_asn, wd_ast, wd_as0, wd_as1, wd_itl, wd_itt, wd_dt, wd_fr, wd_slot, wd_bvT, wd_bvF, wd_rv, wd_pn, wd_pvar, wd_pint, wd_pbin, wd_pneg, wd_pbi, wd_pcall, wd_pix, wd_ls, wd_aa, wd_as, wd_frl, wd_fzi, isTyD, isT, D.dt, isNon, permL, initE, wipeE, restE, List.getElem?_cons_zero, List.getElem?_cons_succ, List.getElem?_nil, List.set_cons_zero, List.set_cons_succ, List.length_cons, List.length_nil, List.cons_append, List.nil_append, List.append_nil, List.replicate, List.all_cons, List.all_nil, List.any_cons, List.any_nil, List.filterMap_cons, List.filterMap_nil, Option.join_some, Option.join_none, Option.bind_some, Option.map_some, Option.map_none, Bool.and_true, Bool.and_self, Bool.or_false, Bool.false_or, Bool.true_or, Bool.or_true, Bool.not_true, Bool.not_false, true_and, and_true, and_self, or_true, true_or, or_false, false_or, if_true, if_false, Bool.false_eq_true, Bool.true_eq_false, reduceCtorEq, Nat.reduceAdd, Nat.reduceSub, Nat.reduceLT, Int.reduceNeg, Nat.reduceLeDiff, not_true_eq_false, not_false_eq_true, reduceIte, decide_true, decide_false, beq_self_eq_true, ne_eq, atI_0, atI_1, atI_2, atI_3, ↓wd_p9, ↓wd_p12, ↓wd_p15, ↓wd_p18, ↓wd_p20, ↓wd_p30, ixN_30, ixN_31, ixN_32, psq_nx, ↓u1, ↓u2, ↓t1, ↓t2, g1, g2, a1, a2, b1, b2, s2, hq]
      · subst hI; exact hQ
    cases b
    · simp (maxSteps := 1000000) only [cf, co, cb, ↓We_var, ↓We_non, ↓We_bl, ↓We_int, ↓We_str, ↓We_gl, ↓We_bin, ↓We_neg, ↓We_nt, ↓We_and, ↓We_or, ↓We_ite, ↓We_cmp, ↓We_chain, ↓We_tup, ↓We_lst, ↓We_ix, ↓We_sl, ↓We_nopart, ↓We_rvs, ↓We_call, ↓We_callK, ↓We_bi, ↓We_mth, ↓We_isi, ↓We_lc, ↓We_yes, ↓We_val, ↓We_tru, ↓Wes_nil, ↓Wes_cons, ↓Wei_seq, ↓Wei_range1, ↓Wei_range2, ↓Wei_enum, ↓Wei_zip, ↓Ws_pass, ↓Ws_brk, ↓Ws_cont, ↓Ws_nil, ↓Ws_cons, ↓Ws_asg, ↓Ws_par, ↓Ws_unp, ↓Ws_drop, ↓Ws_aug, ↓Ws_setI, ↓Ws_app, ↓Ws_ext, ↓Ws_ret, ↓Ws_retN, ↓Ws_if, ↓Ws_for, ↓Ws_never, ↓Ws_fga, psq_rt, psq_bk, psq_ct, psq_ex, pfg_nx, pfg_ct, pfg_rt, pfg_bk, pfg_ex, Rw_ok, Rw_ex, ↓Rw_bind, ↓Rw_opt, Ow_some, Ow_none, ↓Ow_bind, ↓Ow_map, ↓Ow_ite, Cw_true, Cw_false, Cw_not, callW_G, callG_none, callG_io, callKW_none', okIo_own, okIo_bor, outW_none, outW_some, ↓we_nil, ↓we_cons, ↓we_dt, ↓we_fr, ↓we_slot, ↓wk_nil, ↓wk_cons, ↓wk_dt, ↓wk_fr, ↓wk_slot, ↓wg_dt, ↓wg_fr, ↓wg_slot, ↓wr_nil, ↓wr_cons, wo_own, wc_F, wc_T, ↓wp_nil, ↓wp_cons, wput, wcell, wcl0, wclf, wclo, wmf, wmo, wmb, wwr, wwo, wwb, wfree, wfree0, wfreef, wd_add, wd_adds, wd_addl, wd_addt, wd_sub, wd_mul, wd_repl, wd_rept, wd_div, wd_mod, wd_pow, wd_eq, wd_ne, wd_lt, wd_le, wd_gt, wd_ge, wd_inl, wd_int, wd_nil, wd_nit, wd_is, wd_isn, wd_tn, wd_tb, wd_ti, wd_tl, wd_tt, wd_ixl, wd_ixt, wd_sll, wd_slt, wd_i, wd_b, wd_lenl, wd_lent, wd_sum, wd_min2, wd_max2, wd_all, wd_any, wd_abs, wd_repr, wd_inti, wd_intb, wd_list1, wd_list2, wd_tup1, wd_tup2, wd_asn, wd_ast, wd_as0, wd_as1, wd_itl, wd_itt, wd_dt, wd_fr, wd_slot, wd_bvT, wd_bvF, wd_rv, wd_pn, wd_pvar, wd_pint, wd_pbin, wd_pneg, wd_pbi, wd_pcall, wd_pix, wd_ls, wd_aa, wd_as, wd_frl, wd_fzi, isTyD, isT, D.dt, isNon, permL, initE, wipeE, restE, List.getElem?_cons_zero, List.getElem?_cons_succ, List.getElem?_nil, List.set_cons_zero, List.set_cons_succ, List.length_cons, List.length_nil, List.cons_append, List.nil_append, List.append_nil, List.replicate, List.all_cons, List.all_nil, List.any_cons, List.any_nil, List.filterMap_cons, List.filterMap_nil, Option.join_some, Option.join_none, Option.bind_some, Option.map_some, Option.map_none, Bool.and_true, Bool.and_self, Bool.or_false, Bool.false_or, Bool.true_or, Bool.or_true, Bool.not_true, Bool.not_false, true_and, and_true, and_self, or_true, true_or, or_false, false_or, if_true, if_false, Bool.false_eq_true, Bool.true_eq_false, reduceCtorEq, Nat.reduceAdd, Nat.reduceSub, Nat.reduceLT, Int.reduceNeg, Nat.reduceLeDiff, not_true_eq_false, not_false_eq_true, reduceIte, decide_true, decide_false, beq_self_eq_true, ne_eq, atI_0, atI_1, atI_2, atI_3, ↓wd_p9, ↓wd_p12, ↓wd_p15, ↓wd_p18, ↓wd_p20, ↓wd_p30, ixN_30, ixN_31, ixN_32, psq_nx]
      refine loop _ ?_
      ((try rw [psq_nx]); (repeat (refine Ws_step fun Q' hQ' => ?_; simp (maxSteps := 1000000) only [cf, co, cb, ↓We_var, ↓We_non, ↓We_bl, ↓We_int, ↓We_str, ↓We_gl, ↓We_bin, ↓We_neg, ↓We_nt, ↓We_and, ↓We_or, ↓We_ite, ↓We_cmp, ↓We_chain, ↓We_tup, ↓We_lst, ↓We_ix, ↓We_sl, ↓We_nopart, ↓We_rvs, ↓We_call, ↓We_callK, ↓We_bi, ↓We_mth, ↓We_isi, ↓We_lc, ↓We_yes, ↓We_val, ↓We_tru, ↓Wes_nil, ↓Wes_cons, ↓Wei_seq, ↓Wei_range1, ↓Wei_range2, ↓Wei_enum, ↓Wei_zip, ↓Ws_pass, ↓Ws_brk, ↓Ws_cont, ↓Ws_nil, ↓Ws_cons, ↓Ws_asg, ↓Ws_par, ↓Ws_unp, ↓Ws_drop, ↓Ws_aug, ↓Ws_setI, ↓Ws_app, ↓Ws_ext, ↓Ws_ret, ↓Ws_retN, ↓Ws_if, ↓Ws_for, ↓Ws_never, ↓Ws_fga, psq_rt, psq_bk, psq_ct, psq_ex, pfg_nx, pfg_ct, pfg_rt, pfg_bk, pfg_ex, Rw_ok, Rw_ex, ↓Rw_bind, ↓Rw_opt, Ow_some, Ow_none, ↓Ow_bind, ↓Ow_map, ↓Ow_ite, Cw_true, Cw_false, Cw_not, callW_G, callG_none, callG_io, callKW_none', okIo_own, okIo_bor, outW_none, outW_some, ↓we_nil, ↓we_cons, ↓we_dt, ↓we_fr, ↓we_slot, ↓wk_nil, ↓wk_cons, ↓wk_dt, ↓wk_fr, ↓wk_slot, ↓wg_dt, ↓wg_fr, ↓wg_slot, ↓wr_nil, ↓wr_cons, wo_own, wc_F, wc_T, ↓wp_nil, ↓wp_cons, wput, wcell, wcl0, wclf, wclo, wmf, wmo, wmb, wwr, wwo, wwb, wfree, wfree0, wfreef, wd_add, wd_adds, wd_addl, wd_addt, wd_sub, wd_mul, wd_repl, wd_rept, wd_div, wd_mod, wd_pow, wd_eq, wd_ne, wd_lt, wd_le, wd_gt, wd_ge, wd_inl, wd_int, wd_nil, wd_nit, wd_is, wd_isn, wd_tn, wd_tb, wd_ti, wd_tl, wd_tt, wd_ixl, wd_ixt, wd_sll, wd_slt, wd_i, wd_b, wd_lenl, wd_lent, wd_sum, wd_min2, wd_max2, wd_all, wd_any, wd_abs, wd_repr, wd_inti, wd_intb, wd_list1, wd_list2, wd_tup1, wd_tup2, wd_asn, wd_ast, wd_as0, wd_as1, wd_itl, wd_itt, wd_dt, wd_fr, wd_slot, wd_bvT, wd_bvF, wd_rv, wd_pn, wd_pvar, wd_pint, wd_pbin, wd_pneg, wd_pbi, wd_pcall, wd_pix, wd_ls, wd_aa, wd_as, wd_frl, wd_fzi, isTyD, isT, D.dt, isNon, permL, initE, wipeE, restE, List.getElem?_cons_zero, List.getElem?_cons_succ, List.getElem?_nil, List.set_cons_zero, List.set_cons_succ, List.length_cons, List.length_nil, List.cons_append, List.nil_append, List.append_nil, List.replicate, List.all_cons, List.all_nil, List.any_cons, List.any_nil, List.filterMap_cons, List.filterMap_nil, Option.join_some, Option.join_none, Option.bind_some, Option.map_some, Option.map_none, Bool.and_true, Bool.and_self, Bool.or_false, Bool.false_or, Bool.true_or, Bool.or_true, Bool.not_true, Bool.not_false, true_and, and_true, and_self, or_true, true_or, or_false, false_or, if_true, if_false, Bool.false_eq_true, Bool.true_eq_false, reduceCtorEq, Nat.reduceAdd, Nat.reduceSub, Nat.reduceLT, Int.reduceNeg, Nat.reduceLeDiff, not_true_eq_false, not_false_eq_true, reduceIte, decide_true, decide_false, beq_self_eq_true, ne_eq, atI_0, atI_1, atI_2, atI_3, ↓wd_p9, ↓wd_p12, ↓wd_p15, ↓wd_p18, ↓wd_p20, ↓wd_p30, ixN_30, ixN_31, ixN_32]; subst hQ'; try rw [psq_nx])); (try simp only [↓Ws_nil, psq_rt, psq_ex, outW_none, outW_some, wcell, List.getElem?_cons_zero, List.getElem?_cons_succ, Option.join_some, Ow_some, true_and, and_true, and_self]))
    · simp (maxSteps := 1000000) only [cf, co, cb, ↓We_var, ↓We_non, ↓We_bl, ↓We_int, ↓We_str, ↓We_gl, ↓We_bin, ↓We_neg, ↓We_nt, ↓We_and, ↓We_or, ↓We_ite, ↓We_cmp, ↓We_chain, ↓We_tup, ↓We_lst, ↓We_ix, ↓We_sl, ↓We_nopart, ↓We_rvs, ↓We_call, ↓We_callK, ↓We_bi, ↓We_mth, ↓We_isi, ↓We_lc, ↓We_yes, ↓We_val, ↓We_tru, ↓Wes_nil, ↓Wes_cons, ↓Wei_seq, ↓Wei_range1, ↓Wei_range2, ↓Wei_enum, ↓Wei_zip, ↓Ws_pass, ↓Ws_brk, ↓Ws_cont, ↓Ws_nil, ↓Ws_cons, ↓Ws_asg, ↓Ws_par, ↓Ws_unp, ↓Ws_drop, ↓Ws_aug, ↓Ws_setI, ↓Ws_app, ↓Ws_ext, ↓Ws_ret, ↓Ws_retN, ↓Ws_if, ↓Ws_for, ↓Ws_never, ↓Ws_fga, psq_rt, psq_bk, psq_ct, psq_ex, pfg_nx, pfg_ct, pfg_rt, pfg_bk, pfg_ex, Rw_ok, Rw_ex, ↓Rw_bind, ↓Rw_opt, Ow_some, Ow_none, ↓Ow_bind, ↓Ow_map, ↓Ow_ite, Cw_true, Cw_false, Cw_not, callW_G, callG_none, callG_io, callKW_none', okIo_own, okIo_bor, outW_none, outW_some, ↓we_nil, ↓we_cons, ↓we_dt, ↓we_fr, ↓we_slot, ↓wk_nil, ↓wk_cons, ↓wk_dt, ↓wk_fr, ↓wk_slot, ↓wg_dt, ↓wg_fr, ↓wg_slot, ↓wr_nil, ↓wr_cons, wo_own, wc_F, wc_T, ↓wp_nil, ↓wp_cons, wput, wcell, wcl0, wclf, wclo, wmf, wmo, wmb, wwr, wwo, wwb, wfree, wfree0, wfreef, wd_add, wd_adds, wd_addl, wd_addt, wd_sub, wd_mul, wd_repl, wd_rept, wd_div, wd_mod, wd_pow, wd_eq, wd_ne, wd_lt, wd_le, wd_gt, wd_ge, wd_inl, wd_int, wd_nil, wd_nit, wd_is, wd_isn, wd_tn, wd_tb, wd_ti, wd_tl, wd_tt, wd_ixl, wd_ixt, wd_sll, wd_slt, wd_i, wd_b, wd_lenl, wd_lent, wd_sum, wd_min2, wd_max2, wd_all, wd_any, wd_abs, wd_repr, wd_inti, wd_intb, wd_list1, wd_list2, wd_tup1, wd_tup2, wd_asn, wd_ast, wd_as0, wd_as1, wd_itl, wd_itt, wd_dt, wd_fr, wd_slot, wd_bvT, wd_bvF, wd_rv, wd_pn, wd_pvar, wd_pint, wd_pbin, wd_pneg, wd_pbi, wd_pcall, wd_pix, wd_ls, wd_aa, wd_as, wd_frl, wd_fzi, isTyD, isT, D.dt, isNon, permL, initE, wipeE, restE, List.getElem?_cons_zero, List.getElem?_cons_succ, List.getElem?_nil, List.set_cons_zero, List.set_cons_succ, List.length_cons, List.length_nil, List.cons_append, List.nil_append, List.append_nil, List.replicate, List.all_cons, List.all_nil, List.any_cons, List.any_nil, List.filterMap_cons, List.filterMap_nil, Option.join_some, Option.join_none, Option.bind_some, Option.map_some, Option.map_none, Bool.and_true, Bool.and_self, Bool.or_false, Bool.false_or, Bool.true_or, Bool.or_true, Bool.not_true, Bool.not_false, true_and, and_true, and_self, or_true, true_or, or_false, false_or, if_true, if_false, Bool.false_eq_true, Bool.true_eq_false, reduceCtorEq, Nat.reduceAdd, Nat.reduceSub, Nat.reduceLT, Int.reduceNeg, Nat.reduceLeDiff, not_true_eq_false, not_false_eq_true, reduceIte, decide_true, decide_false, beq_self_eq_true, ne_eq, atI_0, atI_1, atI_2, atI_3, ↓wd_p9, ↓wd_p12, ↓wd_p15, ↓wd_p18, ↓wd_p20, ↓wd_p30, ixN_30, ixN_31, ixN_32, psq_nx]
      refine loop _ ?_
      ((try rw [psq_nx]); (repeat (refine Ws_step fun Q' hQ' => ?_; simp (maxSteps := 1000000) only [cf, co, cb, ↓We_var, ↓We_non, ↓We_bl, ↓We_int, ↓We_str, ↓We_gl, ↓We_bin, ↓We_neg, ↓We_nt, ↓We_and, ↓We_or, ↓We_ite, ↓We_cmp, ↓We_chain, ↓We_tup, ↓We_lst, ↓We_ix, ↓We_sl, ↓We_nopart, ↓We_rvs, ↓We_call, ↓We_callK, ↓We_bi, ↓We_mth, ↓We_isi, ↓We_lc, ↓We_yes, ↓We_val, ↓We_tru, ↓Wes_nil, ↓Wes_cons, ↓Wei_seq, ↓Wei_range1, ↓Wei_range2, ↓Wei_enum, ↓Wei_zip, ↓Ws_pass, ↓Ws_brk, ↓Ws_cont, ↓Ws_nil, ↓Ws_cons, ↓Ws_asg, ↓Ws_par, ↓Ws_unp, ↓Ws_drop, ↓Ws_aug, ↓Ws_setI, ↓Ws_app, ↓Ws_ext, ↓Ws_ret, ↓Ws_retN, ↓Ws_if, ↓Ws_for, ↓Ws_never, ↓Ws_fga, psq_rt, psq_bk, psq_ct, psq_ex, pfg_nx, pfg_ct, pfg_rt, pfg_bk, pfg_ex, Rw_ok, Rw_ex, ↓Rw_bind, ↓Rw_opt, Ow_some, Ow_none, ↓Ow_bind, ↓Ow_map, ↓Ow_ite, Cw_true, Cw_false, Cw_not, callW_G, callG_none, callG_io, callKW_none', okIo_own, okIo_bor, outW_none, outW_some, ↓we_nil, ↓we_cons, ↓we_dt, ↓we_fr, ↓we_slot, ↓wk_nil, ↓wk_cons, ↓wk_dt, ↓wk_fr, ↓wk_slot, ↓wg_dt, ↓wg_fr, ↓wg_slot, ↓wr_nil, ↓wr_cons, wo_own, wc_F, wc_T, ↓wp_nil, ↓wp_cons, wput, wcell, wcl0, wclf, wclo, wmf, wmo, wmb, wwr, wwo, wwb, wfree, wfree0, wfreef, wd_add, wd_adds, wd_addl, wd_addt, wd_sub, wd_mul, wd_repl, wd_rept, wd_div, wd_mod, wd_pow, wd_eq, wd_ne, wd_lt, wd_le, wd_gt, wd_ge, wd_inl, wd_int, wd_nil, wd_nit, wd_is, wd_isn, wd_tn, wd_tb, wd_ti, wd_tl, wd_tt, wd_ixl, wd_ixt, wd_sll, wd_slt, wd_i, wd_b, wd_lenl, wd_lent, wd_sum, wd_min2, wd_max2, wd_all, wd_any, wd_abs, wd_repr, wd_inti, wd_intb, wd_list1, wd_list2, wd_tup1, wd_tup2, wd_asn, wd_ast, wd_as0, wd_as1, wd_itl, wd_itt, wd_dt, wd_fr, wd_slot, wd_bvT, wd_bvF, wd_rv, wd_pn, wd_pvar, wd_pint, wd_pbin, wd_pneg, wd_pbi, wd_pcall, wd_pix, wd_ls, wd_aa, wd_as, wd_frl, wd_fzi, isTyD, isT, D.dt, isNon, permL, initE, wipeE, restE, List.getElem?_cons_zero, List.getElem?_cons_succ, List.getElem?_nil, List.set_cons_zero, List.set_cons_succ, List.length_cons, List.length_nil, List.cons_append, List.nil_append, List.append_nil, List.replicate, List.all_cons, List.all_nil, List.any_cons, List.any_nil, List.filterMap_cons, List.filterMap_nil, Option.join_some, Option.join_none, Option.bind_some, Option.map_some, Option.map_none, Bool.and_true, Bool.and_self, Bool.or_false, Bool.false_or, Bool.true_or, Bool.or_true, Bool.not_true, Bool.not_false, true_and, and_true, and_self, or_true, true_or, or_false, false_or, if_true, if_false, Bool.false_eq_true, Bool.true_eq_false, reduceCtorEq, Nat.reduceAdd, Nat.reduceSub, Nat.reduceLT, Int.reduceNeg, Nat.reduceLeDiff, not_true_eq_false, not_false_eq_true, reduceIte, decide_true, decide_false, beq_self_eq_true, ne_eq, atI_0, atI_1, atI_2, atI_3, ↓wd_p9, ↓wd_p12, ↓wd_p15, ↓wd_p18, ↓wd_p20, ↓wd_p30, ixN_30, ixN_31, ixN_32]; subst hQ'; try rw [psq_nx])); (try simp only [↓Ws_nil, psq_rt, psq_ex, outW_none, outW_some, wcell, List.getElem?_cons_zero, List.getElem?_cons_succ, Option.join_some, Ow_some, true_and, and_true, and_self]))
  · have h1 : 1 ≤ es.length := by
      rcases Nat.eq_zero_or_pos es.length with h | h
      · rw [List.length_eq_zero_iff.mp h, SW_nil, SW_nil] at hw
        exact absurd rfl hw
      · exact h
    have ht : tlD es c1 c2 = .tup (nD (List.replicate (es.length - 1) 0 ++ [tlN es c1 c2])) := by unfold tlD; rw [if_neg hw]
    rw [ht] at e4 e4' hself
    have q1 : eqD (.tup [.int (SW es c1 : Nat), .int (PD es : Nat)]) (.tup [.int (SW es c2 : Nat), .int (PD es : Nat)]) = some false := by rw [eqD_pair, decide_eq_false hw]
    have q2 := eqD_bl false false
    have q3 : eqD (.lst []) (.lst []) = some true := eqD_self (okD_lst 8 _ ▸ fun y hy => by cases hy)
    have hlen : (List.replicate (es.length - 1) 0 ++ [tlN es c1 c2]).length = es.length := by
      rw [List.length_append, List.length_replicate, List.length_singleton]; omega
    have q4 : eqD (.int (es.length : Nat)) (.int (es.length : Nat)) = some true := eqD_self (okD_int 9 _ ▸ trivial)
    have hb : ∀ x ∈ List.replicate (es.length - 1) 0 ++ [tlN es c1 c2], x < 2 ^ 9000 := fun x hx => by
      rcases List.mem_append.mp hx with h | h
      · rw [(List.mem_replicate.mp h).2]; exact Nat.two_pow_pos _
      · rw [List.mem_singleton.mp h]
        exact Nat.lt_trans (tl_lt g) (pd_lt9 g)
    obtain ⟨u1, t1⟩ := hsum c1 _ n1 hb (by omega)
    obtain ⟨u2, t2⟩ := hsum c2 _ n2 hb (by omega)
    rw [SW_last g h1] at t1 t2
    have hne := tells g hw
    have q5 : eqD (.int ((SW es c1 + tlN es c1 c2) / PD es : Nat)) (.int ((SW es c2 + tlN es c1 c2) / PD es : Nat)) = some false := by
      rw [eqD_intT]
      congr 1
      exact decide_eq_false (by omega)
    generalize (SW es c1 + tlN es c1 c2) / PD es = A at *
    generalize (SW es c2 + tlN es c1 c2) / PD es = B at *
    generalize List.replicate (es.length - 1) 0 ++ [tlN es c1 c2] = Tl at *
    ((try rw [psq_nx]); (repeat (refine Ws_step fun Q' hQ' => ?_; simp (maxSteps := 1000000) only [cf, co, cb, ↓We_var, ↓We_non, ↓We_bl, ↓We_int, ↓We_str, ↓We_gl, ↓We_bin, ↓We_neg, ↓We_nt, ↓We_and, ↓We_or, ↓We_ite, ↓We_cmp, ↓We_chain, ↓We_tup, ↓We_lst, ↓We_ix, ↓We_sl, ↓We_nopart, ↓We_rvs, ↓We_call, ↓We_callK, ↓We_bi, ↓We_mth, ↓We_isi, ↓We_lc, ↓We_yes, ↓We_val, ↓We_tru, ↓Wes_nil, ↓Wes_cons, ↓Wei_seq, ↓Wei_range1, ↓Wei_range2, ↓Wei_enum, ↓Wei_zip, ↓Ws_pass, ↓Ws_brk, ↓Ws_cont, ↓Ws_nil, ↓Ws_cons, ↓Ws_asg, ↓Ws_par, ↓Ws_unp, ↓Ws_drop, ↓Ws_aug, ↓Ws_setI, ↓Ws_app, ↓Ws_ext, ↓Ws_ret, ↓Ws_retN, ↓Ws_if, ↓Ws_for, ↓Ws_never, ↓Ws_fga, psq_rt, psq_bk, psq_ct, psq_ex, pfg_nx, pfg_ct, pfg_rt, pfg_bk, pfg_ex, Rw_ok, Rw_ex, ↓Rw_bind, ↓Rw_opt, Ow_some, Ow_none, ↓Ow_bind, ↓Ow_map, ↓Ow_ite, Cw_true, Cw_false, Cw_not, callW_G, callG_none, callG_io, callKW_none', okIo_own, okIo_bor, outW_none, outW_some, ↓we_nil, ↓we_cons, ↓we_dt, ↓we_fr, ↓we_slot, ↓wk_nil, ↓wk_cons, ↓wk_dt, ↓wk_fr, ↓wk_slot, ↓wg_dt, ↓wg_fr, ↓wg_slot, ↓wr_nil, ↓wr_cons, wo_own, wc_F, wc_T, ↓wp_nil, ↓wp_cons, wput, wcell, wcl0, wclf, wclo, wmf, wmo, wmb, wwr, wwo, wwb, wfree, wfree0, wfreef, wd_add, wd_adds, wd_addl, wd_addt, wd_sub, wd_mul, wd_repl, wd_rept, wd_div, wd_mod, wd_pow, wd_eq, wd_ne, wd_lt, wd_le, wd_gt, wd_ge, wd_inl, wd_int, wd_nil, wd_nit, wd_is, wd_isn, wd_tn, wd_tb, wd_ti, wd_tl, wd_tt, wd_ixl, wd_ixt, wd_sll, wd_slt, wd_i, wd_b, wd_lenl, wd_lent, wd_sum, wd_min2, wd_max2, wd_all, wd_any, wd_abs, wd_repr, wd_inti, wd_intb, wd_list1, wd_list2, wd_tup1, wd_tup2, wd_asn, wd_ast, wd_as0, wd_as1, wd_itl, wd_itt, wd_dt, wd_fr, wd_slot, wd_bvT, wd_bvF, wd_rv, wd_pn, wd_pvar, wd_pint, wd_pbin, wd_pneg, wd_pbi, wd_pcall, wd_pix, wd_ls, wd_aa, wd_as, wd_frl, wd_fzi, isTyD, isT, D.dt, isNon, permL, initE, wipeE, restE, List.getElem?_cons_zero, List.getElem?_cons_succ, List.getElem?_nil, List.set_cons_zero, List.set_cons_succ, List.length_cons, List.length_nil, List.cons_append, List.nil_append, List.append_nil, List.replicate, List.all_cons, List.all_nil, List.any_cons, List.any_nil, List.filterMap_cons, List.filterMap_nil, Option.join_some, Option.join_none, Option.bind_some, Option.map_some, Option.map_none, Bool.and_true, Bool.and_self, Bool.or_false, Bool.false_or, Bool.true_or, Bool.or_true, Bool.not_true, Bool.not_false, true_and, and_true, and_self, or_true, true_or, or_false, false_or, if_true, if_false, Bool.false_eq_true, Bool.true_eq_false, reduceCtorEq, Nat.reduceAdd, Nat.reduceSub, Nat.reduceLT, Int.reduceNeg, Nat.reduceLeDiff, not_true_eq_false, not_false_eq_true, reduceIte, decide_true, decide_false, beq_self_eq_true, ne_eq, atI_0, atI_1, atI_2, atI_3, ↓wd_p9, ↓wd_p12, ↓wd_p15, ↓wd_p18, ↓wd_p20, ↓wd_p30, ixN_30, ixN_31, ixN_32, ↓e5, ↓e5', ↓e4, ↓e4', g4, g5, a4, a5, b4, b5, q1, q2, hself, s2, nD_length, hlen, q4]; subst hQ'; try rw [psq_nx])); (try simp only [↓Ws_nil, psq_rt, psq_ex, outW_none, outW_some, wcell, List.getElem?_cons_zero, List.getElem?_cons_succ, Option.join_some, Ow_some, true_and, and_true, and_self]))
    refine Wlc_filter (ys := Tl) (f := fun n : Nat => D.int n) (fun _ => false) (fun _ => .non) (by rw [hlen, sizeLine_eq]; omega) (fun y _ => ?_) ?_
    · have hy : ¬ (y : Int) < 0 := by omega
      simp (maxSteps := 1000000) only [cf, co, cb, ↓We_var, ↓We_non, ↓We_bl, ↓We_int, ↓We_str, ↓We_gl, ↓We_bin, ↓We_neg, ↓We_nt, ↓We_and, ↓We_or, ↓We_ite, ↓We_cmp, ↓We_chain, ↓We_tup, ↓We_lst, ↓We_ix, ↓We_sl, ↓We_nopart, ↓We_rvs, ↓We_call, ↓We_callK, ↓We_bi, ↓We_mth, ↓We_isi, ↓We_lc, ↓We_yes, ↓We_val, ↓We_tru, ↓Wes_nil, ↓Wes_cons, ↓Wei_seq, ↓Wei_range1, ↓Wei_range2, ↓Wei_enum, ↓Wei_zip, ↓Ws_pass, ↓Ws_brk, ↓Ws_cont, ↓Ws_nil, ↓Ws_cons, ↓Ws_asg, ↓Ws_par, ↓Ws_unp, ↓Ws_drop, ↓Ws_aug, ↓Ws_setI, ↓Ws_app, ↓Ws_ext, ↓Ws_ret, ↓Ws_retN, ↓Ws_if, ↓Ws_for, ↓Ws_never, ↓Ws_fga, psq_rt, psq_bk, psq_ct, psq_ex, pfg_nx, pfg_ct, pfg_rt, pfg_bk, pfg_ex, Rw_ok, Rw_ex, ↓Rw_bind, ↓Rw_opt, Ow_some, Ow_none, ↓Ow_bind, ↓Ow_map, ↓Ow_ite, Cw_true, Cw_false, Cw_not, callW_G, callG_none, callG_io, callKW_none', okIo_own, okIo_bor, outW_none, outW_some, ↓we_nil, ↓we_cons, ↓we_dt, ↓we_fr, ↓we_slot, ↓wk_nil, ↓wk_cons, ↓wk_dt, ↓wk_fr, ↓wk_slot, ↓wg_dt, ↓wg_fr, ↓wg_slot, ↓wr_nil, ↓wr_cons, wo_own, wc_F, wc_T, ↓wp_nil, ↓wp_cons, wput, wcell, wcl0, wclf, wclo, wmf, wmo, wmb, wwr, wwo, wwb, wfree, wfree0, wfreef, wd_add, wd_adds, wd_addl, wd_addt, wd_sub, wd_mul, wd_repl, wd_rept, wd_div, wd_mod, wd_pow, wd_eq, wd_ne, wd_lt, wd_le, wd_gt, wd_ge, wd_inl, wd_int, wd_nil, wd_nit, wd_is, wd_isn, wd_tn, wd_tb, wd_ti, wd_tl, wd_tt, wd_ixl, wd_ixt, wd_sll, wd_slt, wd_i, wd_b, wd_lenl, wd_lent, wd_sum, wd_min2, wd_max2, wd_all, wd_any, wd_abs, wd_repr, wd_inti, wd_intb, wd_list1, wd_list2, wd_tup1, wd_tup2, wd_asn, wd_ast, wd_as0, wd_as1, wd_itl, wd_itt, wd_dt, wd_fr, wd_slot, wd_bvT, wd_bvF, wd_rv, wd_pn, wd_pvar, wd_pint, wd_pbin, wd_pneg, wd_pbi, wd_pcall, wd_pix, wd_ls, wd_aa, wd_as, wd_frl, wd_fzi, isTyD, isT, D.dt, isNon, permL, initE, wipeE, restE, List.getElem?_cons_zero, List.getElem?_cons_succ, List.getElem?_nil, List.set_cons_zero, List.set_cons_succ, List.length_cons, List.length_nil, List.cons_append, List.nil_append, List.append_nil, List.replicate, List.all_cons, List.all_nil, List.any_cons, List.any_nil, List.filterMap_cons, List.filterMap_nil, Option.join_some, Option.join_none, Option.bind_some, Option.map_some, Option.map_none, Bool.and_true, Bool.and_self, Bool.or_false, Bool.false_or, Bool.true_or, Bool.or_true, Bool.not_true, Bool.not_false, true_and, and_true, and_self, or_true, true_or, or_false, false_or, if_true, if_false, Bool.false_eq_true, Bool.true_eq_false, reduceCtorEq, Nat.reduceAdd, Nat.reduceSub, Nat.reduceLT, Int.reduceNeg, Nat.reduceLeDiff, not_true_eq_false, not_false_eq_true, reduceIte, decide_true, decide_false, beq_self_eq_true, ne_eq, atI_0, atI_1, atI_2, atI_3, ↓wd_p9, ↓wd_p12, ↓wd_p15, ↓wd_p18, ↓wd_p20, ↓wd_p30, ixN_30, ixN_31, ixN_32, psq_nx, hy]
    · have hf : (Tl.filter fun _ => false).map (fun _ : Nat => D.non) = [] := by simp
      rw [hf]
      simp (maxSteps := 1000000) only [cf, co, cb, ↓We_var, ↓We_non, ↓We_bl, ↓We_int, ↓We_str, ↓We_gl, ↓We_bin, ↓We_neg, ↓We_nt, ↓We_and, ↓We_or, ↓We_ite, ↓We_cmp, ↓We_chain, ↓We_tup, ↓We_lst, ↓We_ix, ↓We_sl, ↓We_nopart, ↓We_rvs, ↓We_call, ↓We_callK, ↓We_bi, ↓We_mth, ↓We_isi, ↓We_lc, ↓We_yes, ↓We_val, ↓We_tru, ↓Wes_nil, ↓Wes_cons, ↓Wei_seq, ↓Wei_range1, ↓Wei_range2, ↓Wei_enum, ↓Wei_zip, ↓Ws_pass, ↓Ws_brk, ↓Ws_cont, ↓Ws_nil, ↓Ws_cons, ↓Ws_asg, ↓Ws_par, ↓Ws_unp, ↓Ws_drop, ↓Ws_aug, ↓Ws_setI, ↓Ws_app, ↓Ws_ext, ↓Ws_ret, ↓Ws_retN, ↓Ws_if, ↓Ws_for, ↓Ws_never, ↓Ws_fga, psq_rt, psq_bk, psq_ct, psq_ex, pfg_nx, pfg_ct, pfg_rt, pfg_bk, pfg_ex, Rw_ok, Rw_ex, ↓Rw_bind, ↓Rw_opt, Ow_some, Ow_none, ↓Ow_bind, ↓Ow_map, ↓Ow_ite, Cw_true, Cw_false, Cw_not, callW_G, callG_none, callG_io, callKW_none', okIo_own, okIo_bor, outW_none, outW_some, ↓we_nil, ↓we_cons, ↓we_dt, ↓we_fr, ↓we_slot, ↓wk_nil, ↓wk_cons, ↓wk_dt, ↓wk_fr, ↓wk_slot, ↓wg_dt, ↓wg_fr, ↓wg_slot, ↓wr_nil, ↓wr_cons, wo_own, wc_F, wc_T, ↓wp_nil, ↓wp_cons, wput, wcell, wcl0, wclf, wclo, wmf, wmo, wmb, wwr, wwo, wwb, wfree, wfree0, wfreef, wd_add, wd_adds, wd_addl, wd_addt, wd_sub, wd_mul, wd_repl, wd_rept, wd_div, wd_mod, wd_pow, wd_eq, wd_ne, wd_lt, wd_le, wd_gt, wd_ge, wd_inl, wd_int, wd_nil, wd_nit, wd_is, wd_isn, wd_tn, wd_tb, wd_ti, wd_tl, wd_tt, wd_ixl, wd_ixt, wd_sll, wd_slt, wd_i, wd_b, wd_lenl, wd_lent, wd_sum, wd_min2, wd_max2, wd_all, wd_any, wd_abs, wd_repr, wd_inti, wd_intb, wd_list1, wd_list2, wd_tup1, wd_tup2, wd_asn, wd_ast, wd_as0, wd_as1, wd_itl, wd_itt, wd_dt, wd_fr, wd_slot, wd_bvT, wd_bvF, wd_rv, wd_pn, wd_pvar, wd_pint, wd_pbin, wd_pneg, wd_pbi, wd_pcall, wd_pix, wd_ls, wd_aa, wd_as, wd_frl, wd_fzi, isTyD, isT, D.dt, isNon, permL, initE, wipeE, restE, List.getElem?_cons_zero, List.getElem?_cons_succ, List.getElem?_nil, List.set_cons_zero, List.set_cons_succ, List.length_cons, List.length_nil, List.cons_append, List.nil_append, List.append_nil, List.replicate, List.all_cons, List.all_nil, List.any_cons, List.any_nil, List.filterMap_cons, List.filterMap_nil, Option.join_some, Option.join_none, Option.bind_some, Option.map_some, Option.map_none, Bool.and_true, Bool.and_self, Bool.or_false, Bool.false_or, Bool.true_or, Bool.or_true, Bool.not_true, Bool.not_false, true_and, and_true, and_self, or_true, true_or, or_false, false_or, if_true, if_false, Bool.false_eq_true, Bool.true_eq_false, reduceCtorEq, Nat.reduceAdd, Nat.reduceSub, Nat.reduceLT, Int.reduceNeg, Nat.reduceLeDiff, not_true_eq_false, not_false_eq_true, reduceIte, decide_true, decide_false, beq_self_eq_true, ne_eq, atI_0, atI_1, atI_2, atI_3, ↓wd_p9, ↓wd_p12, ↓wd_p15, ↓wd_p18, ↓wd_p20, ↓wd_p30, ixN_30, ixN_31, ixN_32, s0, q3]
      ((try rw [psq_nx]); (repeat (refine Ws_step fun Q' hQ' => ?_; simp (maxSteps := 1000000) only [cf, co, cb, ↓We_var, ↓We_non, ↓We_bl, ↓We_int, ↓We_str, ↓We_gl, ↓We_bin, ↓We_neg, ↓We_nt, ↓We_and, ↓We_or, ↓We_ite, ↓We_cmp, ↓We_chain, ↓We_tup, ↓We_lst, ↓We_ix, ↓We_sl, ↓We_nopart, ↓We_rvs, ↓We_call, ↓We_callK, ↓We_bi, ↓We_mth, ↓We_isi, ↓We_lc, ↓We_yes, ↓We_val, ↓We_tru, ↓Wes_nil, ↓Wes_cons, ↓Wei_seq, ↓Wei_range1, ↓Wei_range2, ↓Wei_enum, ↓Wei_zip, ↓Ws_pass, ↓Ws_brk, ↓Ws_cont, ↓Ws_nil, ↓Ws_cons, ↓Ws_asg, ↓Ws_par, ↓Ws_unp, ↓Ws_drop, ↓Ws_aug, ↓Ws_setI, ↓Ws_app, ↓Ws_ext, ↓Ws_ret, ↓Ws_retN, ↓Ws_if, ↓Ws_for, ↓Ws_never, ↓Ws_fga, psq_rt, psq_bk, psq_ct, psq_ex, pfg_nx, pfg_ct, pfg_rt, pfg_bk, pfg_ex, Rw_ok, Rw_ex, ↓Rw_bind, ↓Rw_opt, Ow_some, Ow_none, ↓Ow_bind, ↓Ow_map, ↓Ow_ite, Cw_true, Cw_false, Cw_not, callW_G, callG_none, callG_io, callKW_none', okIo_own, okIo_bor, outW_none, outW_some, ↓we_nil, ↓we_cons, ↓we_dt, ↓we_fr, ↓we_slot, ↓wk_nil, ↓wk_cons, ↓wk_dt, ↓wk_fr, ↓wk_slot, ↓wg_dt, ↓wg_fr, ↓wg_slot, ↓wr_nil, ↓wr_cons, wo_own, wc_F, wc_T, ↓wp_nil, ↓wp_cons, wput, wcell, wcl0, wclf, wclo, wmf, wmo, wmb, wwr, wwo, wwb, wfree, wfree0, wfreef, wd_add, wd_adds, wd_addl, wd_addt, wd_sub, wd_mul, wd_repl, wd_rept, wd_div, wd_mod, wd_pow, wd_eq, wd_ne, wd_lt, wd_le, wd_gt, wd_ge, wd_inl, wd_int, wd_nil, wd_nit, wd_is, wd_isn, wd_tn, wd_tb, wd_ti, wd_tl, wd_tt, wd_ixl, wd_ixt, wd_sll, wd_slt, wd_i, wd_b, wd_lenl, wd_lent, wd_sum, wd_min2, wd_max2, wd_all, wd_any, wd_abs, wd_repr, wd_inti, wd_intb, wd_list1, wd_list2, wd_tup1, wd_tup2, wd_asn, wd_ast, wd_as0, wd_as1, wd_itl, wd_itt, wd_dt, wd_fr, wd_slot, wd_bvT, wd_bvF, wd_rv, wd_pn, wd_pvar, wd_pint, wd_pbin, wd_pneg, wd_pbi, wd_pcall, wd_pix, wd_ls, wd_aa, wd_as, wd_frl, wd_fzi, isTyD, isT, D.dt, isNon, permL, initE, wipeE, restE, List.getElem?_cons_zero, List.getElem?_cons_succ, List.getElem?_nil, List.set_cons_zero, List.set_cons_succ, List.length_cons, List.length_nil, List.cons_append, List.nil_append, List.append_nil, List.replicate, List.all_cons, List.all_nil, List.any_cons, List.any_nil, List.filterMap_cons, List.filterMap_nil, Option.join_some, Option.join_none, Option.bind_some, Option.map_some, Option.map_none, Bool.and_true, Bool.and_self, Bool.or_false, Bool.false_or, Bool.true_or, Bool.or_true, Bool.not_true, Bool.not_false, true_and, and_true, and_self, or_true, true_or, or_false, false_or, if_true, if_false, Bool.false_eq_true, Bool.true_eq_false, reduceCtorEq, Nat.reduceAdd, Nat.reduceSub, Nat.reduceLT, Int.reduceNeg, Nat.reduceLeDiff, not_true_eq_false, not_false_eq_true, reduceIte, decide_true, decide_false, beq_self_eq_true, ne_eq, atI_0, atI_1, atI_2, atI_3, ↓wd_p9, ↓wd_p12, ↓wd_p15, ↓wd_p18, ↓wd_p20, ↓wd_p30, ixN_30, ixN_31, ixN_32, ↓u1, ↓u2, ↓t1, ↓t2, g1, g2, a1, a2, b1, b2, s2, q5]; subst hQ'; try rw [psq_nx])); (try simp only [↓Ws_nil, psq_rt, psq_ex, outW_none, outW_some, wcell, List.getElem?_cons_zero, List.getElem?_cons_succ, Option.join_some, Ow_some, true_and, and_true, and_self]))
end Lw


set_option Elab.async false
set_option linter.all false
set_option maxRecDepth 100000
set_option maxHeartbeats 1000000
namespace Lw
open PySem PySem.Spec PyProof.Rows L2 T
def PartnerOk (F : Fn) : Prop := F.ar = 3 ∧ F.io = some 0 ∧ ∀ (s c n : Int) (es cs : List Nat) (X : Exn → D → Prop) (K : Bool → D → D → Prop), 0 ≤ c → c < 2147483647 → 0 ≤ n → n < 80000000 →
  (∀ e ∈ es, 2 ≤ e ∧ e < 2 ^ 30) → es.length ≤ 200 → (∀ c ∈ cs, c < 2 ^ 60) → cs.length ≤ 200 →
  (∀ (c2 : List Nat) (s' n' : Int), Cn c2 → n ≤ n' → n' ≤ n + 1000 → K false (.tup (nD c2)) (src s' c n')) → @Wf F [src s c n, .lst (nD es), .tup (nD cs)] X K
theorem cn_take {l : List Nat} (h : ∀ c ∈ l, c < 2 ^ 62) : Cn (l.take 200) := ⟨fun c hc => h c (List.mem_of_mem_take hc), by rw [List.length_take]; omega⟩
theorem pick3 (A B C : List Nat) (v : Int) (h0 : 0 ≤ v) (h1 : v < 3) : ∃ l, L2.atI [D.tup (nD A), .tup (nD B), .tup (nD C)] v = some (.tup (nD l)) ∧ (l = A ∨ l = B ∨ l = C) := by
  have : v = 0 ∨ v = 1 ∨ v = 2 := by omega
  rcases this with z | z | z <;> rw [z]
  · exact ⟨A, atI_0 _ _, .inl rfl⟩
  · exact ⟨B, atI_1 _ _ _, .inr (.inl rfl)⟩
  · exact ⟨C, atI_2 _ _ _ _, .inr (.inr rfl)⟩
theorem set_lt {l : List Nat} {B j v : Nat} (h : ∀ c ∈ l, c < B) (hv : v < B) : ∀ c ∈ l.set j v, c < B := fun c hc => by
  rcases List.mem_or_eq_of_mem_set hc with h1 | h1
  · exact h c h1
  · rw [h1]; exact hv
theorem ok_partner {Γ : Nat → Option Fn} {i1 i2 i3 : Nat} {F1 F2 F3 : Fn} (g1 : Γ i1 = some F1) (g2 : Γ i2 = some F2) (g3 : Γ i3 = some F3)
    (h1 : Take5Ok F1) (h2 : SumOk F2) (h3 : CrowdOk F3) : PartnerOk (mkFn Γ 3 8 (some 0) (c__law_partner i1 i2 i3)) := by
  obtain ⟨a1, b1, _⟩ := id h1
  obtain ⟨a2, b2, r2⟩ := h2
  obtain ⟨a3, b3, r3⟩ := h3
  refine ⟨rfl, rfl, fun s c n es cs X K c0 c1 n0 n1 hes hel hcs hcl q => Wf_mk rfl ?_⟩
  have s1 : 1 ≤ sizeLine := by decide
  have s2 : 2 ≤ sizeLine := by decide
  have s3 : 3 ≤ sizeLine := by decide
  have s202 : cs.length + 2 ≤ sizeLine := by rw [sizeLine_eq]; omega
  have q4 : ∀ v : Int, eqD (.int v) (.int 0) = some (decide (v = 0)) := fun v => eqD_intT v 0
  unfold c__law_partner
  ((try rw [psq_nx]); (repeat (refine Ws_step fun Q' hQ' => ?_; simp (maxSteps := 1000000) only [cf, co, cb, ↓We_var, ↓We_non, ↓We_bl, ↓We_int, ↓We_str, ↓We_gl, ↓We_bin, ↓We_neg, ↓We_nt, ↓We_and, ↓We_or, ↓We_ite, ↓We_cmp, ↓We_chain, ↓We_tup, ↓We_lst, ↓We_ix, ↓We_sl, ↓We_nopart, ↓We_rvs, ↓We_call, ↓We_callK, ↓We_bi, ↓We_mth, ↓We_isi, ↓We_lc, ↓We_yes, ↓We_val, ↓We_tru, ↓Wes_nil, ↓Wes_cons, ↓Wei_seq, ↓Wei_range1, ↓Wei_range2, ↓Wei_enum, ↓Wei_zip, ↓Ws_pass, ↓Ws_brk, ↓Ws_cont, ↓Ws_nil, ↓Ws_cons, ↓Ws_asg, ↓Ws_par, ↓Ws_unp, ↓Ws_drop, ↓Ws_aug, ↓Ws_setI, ↓Ws_app, ↓Ws_ext, ↓Ws_ret, ↓Ws_retN, ↓Ws_if, ↓Ws_for, ↓Ws_never, ↓Ws_fga, psq_rt, psq_bk, psq_ct, psq_ex, pfg_nx, pfg_ct, pfg_rt, pfg_bk, pfg_ex, Rw_ok, Rw_ex, ↓Rw_bind, ↓Rw_opt, Ow_some, Ow_none, ↓Ow_bind, ↓Ow_map, ↓Ow_ite, Cw_true, Cw_false, Cw_not, callW_G, callG_none, callG_io, callKW_none', okIo_own, okIo_bor, outW_none, outW_some, ↓we_nil, ↓we_cons, ↓we_dt, ↓we_fr, ↓we_slot, ↓wk_nil, ↓wk_cons, ↓wk_dt, ↓wk_fr, ↓wk_slot, ↓wg_dt, ↓wg_fr, ↓wg_slot, ↓wr_nil, ↓wr_cons, wo_own, wc_F, wc_T, ↓wp_nil, ↓wp_cons, wput, wcell, wcl0, wclf, wclo, wmf, wmo, wmb, wwr, wwo, wwb, wfree, wfree0, wfreef, wd_add, wd_adds, wd_addl, wd_addt, wd_sub, wd_mul, wd_repl, wd_rept, wd_div, wd_mod, wd_pow, wd_eq, wd_ne, wd_lt, wd_le, wd_gt, wd_ge, wd_inl, wd_int, wd_nil, wd_nit, wd_is, wd_isn, wd_tn, wd_tb, wd_ti, wd_tl, wd_tt, wd_ixl, wd_ixt, wd_sll, wd_slt, wd_i, wd_b, wd_lenl, wd_lent, wd_sum, wd_min2, wd_max2, wd_all, wd_any, wd_abs, wd_repr, wd_inti, wd_intb, wd_list1, wd_list2, wd_tup1, wd_tup2, wd_asn, wd_ast, wd_as0, wd_as1, wd_itl, wd_itt, wd_dt, wd_fr, wd_slot, wd_bvT, wd_bvF, wd_rv, wd_pn, wd_pvar, wd_pint, wd_pbin, wd_pneg, wd_pbi, wd_pcall, wd_pix, wd_ls, wd_aa, wd_as, wd_frl, wd_fzi, isTyD, isT, D.dt, isNon, permL, initE, wipeE, restE, List.getElem?_cons_zero, List.getElem?_cons_succ, List.getElem?_nil, List.set_cons_zero, List.set_cons_succ, List.length_cons, List.length_nil, List.cons_append, List.nil_append, List.append_nil, List.replicate, List.all_cons, List.all_nil, List.any_cons, List.any_nil, List.filterMap_cons, List.filterMap_nil, Option.join_some, Option.join_none, Option.bind_some, Option.map_some, Option.map_none, Bool.and_true, Bool.and_self, Bool.or_false, Bool.false_or, Bool.true_or, Bool.or_true, Bool.not_true, Bool.not_false, true_and, and_true, and_self, or_true, true_or, or_false, false_or, if_true, if_false, Bool.false_eq_true, Bool.true_eq_false, reduceCtorEq, Nat.reduceAdd, Nat.reduceSub, Nat.reduceLT, Int.reduceNeg, Nat.reduceLeDiff, not_true_eq_false, not_false_eq_true, reduceIte, decide_true, decide_false, beq_self_eq_true, ne_eq, atI_0, atI_1, atI_2, atI_3, ↓wd_p9, ↓wd_p12, ↓wd_p15, ↓wd_p18, ↓wd_p20, ↓wd_p30, ixN_30, ixN_31, ixN_32, g1, a1, b1]; subst hQ'; try rw [psq_nx])); (try simp only [↓Ws_nil, psq_rt, psq_ex, outW_none, outW_some, wcell, List.getElem?_cons_zero, List.getElem?_cons_succ, Option.join_some, Ow_some, true_and, and_true, and_self]))
  refine h1.w c0 c1 (by omega) (by omega) (by omega) (by omega) fun w q1 n2 w0 w1 m1 m2 => ?_
  by_cases hb : w = 0 ∨ (es.length : Int) < 2
  · have app : nD cs ++ [.int 0, .int 3] = nD (cs ++ [0, 3]) := by simp [nD]
    have h0 : (w = 0) = True ∨ (¬ w = 0 ∧ (es.length : Int) < 2) := by
      by_cases hw : w = 0
      · exact .inl (eq_true hw)
      · exact .inr ⟨hw, hb.resolve_left hw⟩
    have hct : ∀ l : List Nat, T.cutD (nD l) none (some 200) = nD (l.take 200) := fun l => by
      rw [show (200 : Int) = ((200 : Nat) : Int) from rfl, cutD_to]
      unfold nD
      rw [List.map_take]
    rcases h0 with h0 | ⟨h0, h2'⟩
    all_goals
      simp (maxSteps := 1000000) only [cf, co, cb, ↓We_var, ↓We_non, ↓We_bl, ↓We_int, ↓We_str, ↓We_gl, ↓We_bin, ↓We_neg, ↓We_nt, ↓We_and, ↓We_or, ↓We_ite, ↓We_cmp, ↓We_chain, ↓We_tup, ↓We_lst, ↓We_ix, ↓We_sl, ↓We_nopart, ↓We_rvs, ↓We_call, ↓We_callK, ↓We_bi, ↓We_mth, ↓We_isi, ↓We_lc, ↓We_yes, ↓We_val, ↓We_tru, ↓Wes_nil, ↓Wes_cons, ↓Wei_seq, ↓Wei_range1, ↓Wei_range2, ↓Wei_enum, ↓Wei_zip, ↓Ws_pass, ↓Ws_brk, ↓Ws_cont, ↓Ws_nil, ↓Ws_cons, ↓Ws_asg, ↓Ws_par, ↓Ws_unp, ↓Ws_drop, ↓Ws_aug, ↓Ws_setI, ↓Ws_app, ↓Ws_ext, ↓Ws_ret, ↓Ws_retN, ↓Ws_if, ↓Ws_for, ↓Ws_never, ↓Ws_fga, psq_rt, psq_bk, psq_ct, psq_ex, pfg_nx, pfg_ct, pfg_rt, pfg_bk, pfg_ex, Rw_ok, Rw_ex, ↓Rw_bind, ↓Rw_opt, Ow_some, Ow_none, ↓Ow_bind, ↓Ow_map, ↓Ow_ite, Cw_true, Cw_false, Cw_not, callW_G, callG_none, callG_io, callKW_none', okIo_own, okIo_bor, outW_none, outW_some, ↓we_nil, ↓we_cons, ↓we_dt, ↓we_fr, ↓we_slot, ↓wk_nil, ↓wk_cons, ↓wk_dt, ↓wk_fr, ↓wk_slot, ↓wg_dt, ↓wg_fr, ↓wg_slot, ↓wr_nil, ↓wr_cons, wo_own, wc_F, wc_T, ↓wp_nil, ↓wp_cons, wput, wcell, wcl0, wclf, wclo, wmf, wmo, wmb, wwr, wwo, wwb, wfree, wfree0, wfreef, wd_add, wd_adds, wd_addl, wd_addt, wd_sub, wd_mul, wd_repl, wd_rept, wd_div, wd_mod, wd_pow, wd_eq, wd_ne, wd_lt, wd_le, wd_gt, wd_ge, wd_inl, wd_int, wd_nil, wd_nit, wd_is, wd_isn, wd_tn, wd_tb, wd_ti, wd_tl, wd_tt, wd_ixl, wd_ixt, wd_sll, wd_slt, wd_i, wd_b, wd_lenl, wd_lent, wd_sum, wd_min2, wd_max2, wd_all, wd_any, wd_abs, wd_repr, wd_inti, wd_intb, wd_list1, wd_list2, wd_tup1, wd_tup2, wd_asn, wd_ast, wd_as0, wd_as1, wd_itl, wd_itt, wd_dt, wd_fr, wd_slot, wd_bvT, wd_bvF, wd_rv, wd_pn, wd_pvar, wd_pint, wd_pbin, wd_pneg, wd_pbi, wd_pcall, wd_pix, wd_ls, wd_aa, wd_as, wd_frl, wd_fzi, isTyD, isT, D.dt, isNon, permL, initE, wipeE, restE, List.getElem?_cons_zero, List.getElem?_cons_succ, List.getElem?_nil, List.set_cons_zero, List.set_cons_succ, List.length_cons, List.length_nil, List.cons_append, List.nil_append, List.append_nil, List.replicate, List.all_cons, List.all_nil, List.any_cons, List.any_nil, List.filterMap_cons, List.filterMap_nil, Option.join_some, Option.join_none, Option.bind_some, Option.map_some, Option.map_none, Bool.and_true, Bool.and_self, Bool.or_false, Bool.false_or, Bool.true_or, Bool.or_true, Bool.not_true, Bool.not_false, true_and, and_true, and_self, or_true, true_or, or_false, false_or, if_true, if_false, Bool.false_eq_true, Bool.true_eq_false, reduceCtorEq, Nat.reduceAdd, Nat.reduceSub, Nat.reduceLT, Int.reduceNeg, Nat.reduceLeDiff, not_true_eq_false, not_false_eq_true, reduceIte, decide_true, decide_false, beq_self_eq_true, ne_eq, atI_0, atI_1, atI_2, atI_3, ↓wd_p9, ↓wd_p12, ↓wd_p15, ↓wd_p18, ↓wd_p20, ↓wd_p30, ixN_30, ixN_31, ixN_32]
      rw [psq_nx]
      refine Ws_step fun Q' hQ' => ?_
      first
        | simp (maxSteps := 1000000) only [cf, co, cb, ↓We_var, ↓We_non, ↓We_bl, ↓We_int, ↓We_str, ↓We_gl, ↓We_bin, ↓We_neg, ↓We_nt, ↓We_and, ↓We_or, ↓We_ite, ↓We_cmp, ↓We_chain, ↓We_tup, ↓We_lst, ↓We_ix, ↓We_sl, ↓We_nopart, ↓We_rvs, ↓We_call, ↓We_callK, ↓We_bi, ↓We_mth, ↓We_isi, ↓We_lc, ↓We_yes, ↓We_val, ↓We_tru, ↓Wes_nil, ↓Wes_cons, ↓Wei_seq, ↓Wei_range1, ↓Wei_range2, ↓Wei_enum, ↓Wei_zip, ↓Ws_pass, ↓Ws_brk, ↓Ws_cont, ↓Ws_nil, ↓Ws_cons, ↓Ws_asg, ↓Ws_par, ↓Ws_unp, ↓Ws_drop, ↓Ws_aug, ↓Ws_setI, ↓Ws_app, ↓Ws_ext, ↓Ws_ret, ↓Ws_retN, ↓Ws_if, ↓Ws_for, ↓Ws_never, ↓Ws_fga, psq_rt, psq_bk, psq_ct, psq_ex, pfg_nx, pfg_ct, pfg_rt, pfg_bk, pfg_ex, Rw_ok, Rw_ex, ↓Rw_bind, ↓Rw_opt, Ow_some, Ow_none, ↓Ow_bind, ↓Ow_map, ↓Ow_ite, Cw_true, Cw_false, Cw_not, callW_G, callG_none, callG_io, callKW_none', okIo_own, okIo_bor, outW_none, outW_some, ↓we_nil, ↓we_cons, ↓we_dt, ↓we_fr, ↓we_slot, ↓wk_nil, ↓wk_cons, ↓wk_dt, ↓wk_fr, ↓wk_slot, ↓wg_dt, ↓wg_fr, ↓wg_slot, ↓wr_nil, ↓wr_cons, wo_own, wc_F, wc_T, ↓wp_nil, ↓wp_cons, wput, wcell, wcl0, wclf, wclo, wmf, wmo, wmb, wwr, wwo, wwb, wfree, wfree0, wfreef, wd_add, wd_adds, wd_addl, wd_addt, wd_sub, wd_mul, wd_repl, wd_rept, wd_div, wd_mod, wd_pow, wd_eq, wd_ne, wd_lt, wd_le, wd_gt, wd_ge, wd_inl, wd_int, wd_nil, wd_nit, wd_is, wd_isn, wd_tn, wd_tb, wd_ti, wd_tl, wd_tt, wd_ixl, wd_ixt, wd_sll, wd_slt, wd_i, wd_b, wd_lenl, wd_lent, wd_sum, wd_min2, wd_max2, wd_all, wd_any, wd_abs, wd_repr, wd_inti, wd_intb, wd_list1, wd_list2, wd_tup1, wd_tup2, wd_asn, wd_ast, wd_as0, wd_as1, wd_itl, wd_itt, wd_dt, wd_fr, wd_slot, wd_bvT, wd_bvF, wd_rv, wd_pn, wd_pvar, wd_pint, wd_pbin, wd_pneg, wd_pbi, wd_pcall, wd_pix, wd_ls, wd_aa, wd_as, wd_frl, wd_fzi, isTyD, isT, D.dt, isNon, permL, initE, wipeE, restE, List.getElem?_cons_zero, List.getElem?_cons_succ, List.getElem?_nil, List.set_cons_zero, List.set_cons_succ, List.length_cons, List.length_nil, List.cons_append, List.nil_append, List.append_nil, List.replicate, List.all_cons, List.all_nil, List.any_cons, List.any_nil, List.filterMap_cons, List.filterMap_nil, Option.join_some, Option.join_none, Option.bind_some, Option.map_some, Option.map_none, Bool.and_true, Bool.and_self, Bool.or_false, Bool.false_or, Bool.true_or, Bool.or_true, Bool.not_true, Bool.not_false, true_and, and_true, and_self, or_true, true_or, or_false, false_or, if_true, if_false, Bool.false_eq_true, Bool.true_eq_false, reduceCtorEq, Nat.reduceAdd, Nat.reduceSub, Nat.reduceLT, Int.reduceNeg, Nat.reduceLeDiff, not_true_eq_false, not_false_eq_true, reduceIte, decide_true, decide_false, beq_self_eq_true, ne_eq, atI_0, atI_1, atI_2, atI_3, ↓wd_p9, ↓wd_p12, ↓wd_p15, ↓wd_p18, ↓wd_p20, ↓wd_p30, ixN_30, ixN_31, ixN_32, q4, h0, h2', nD_length, g3, a3, b3]
        | simp (maxSteps := 1000000) only [cf, co, cb, ↓We_var, ↓We_non, ↓We_bl, ↓We_int, ↓We_str, ↓We_gl, ↓We_bin, ↓We_neg, ↓We_nt, ↓We_and, ↓We_or, ↓We_ite, ↓We_cmp, ↓We_chain, ↓We_tup, ↓We_lst, ↓We_ix, ↓We_sl, ↓We_nopart, ↓We_rvs, ↓We_call, ↓We_callK, ↓We_bi, ↓We_mth, ↓We_isi, ↓We_lc, ↓We_yes, ↓We_val, ↓We_tru, ↓Wes_nil, ↓Wes_cons, ↓Wei_seq, ↓Wei_range1, ↓Wei_range2, ↓Wei_enum, ↓Wei_zip, ↓Ws_pass, ↓Ws_brk, ↓Ws_cont, ↓Ws_nil, ↓Ws_cons, ↓Ws_asg, ↓Ws_par, ↓Ws_unp, ↓Ws_drop, ↓Ws_aug, ↓Ws_setI, ↓Ws_app, ↓Ws_ext, ↓Ws_ret, ↓Ws_retN, ↓Ws_if, ↓Ws_for, ↓Ws_never, ↓Ws_fga, psq_rt, psq_bk, psq_ct, psq_ex, pfg_nx, pfg_ct, pfg_rt, pfg_bk, pfg_ex, Rw_ok, Rw_ex, ↓Rw_bind, ↓Rw_opt, Ow_some, Ow_none, ↓Ow_bind, ↓Ow_map, ↓Ow_ite, Cw_true, Cw_false, Cw_not, callW_G, callG_none, callG_io, callKW_none', okIo_own, okIo_bor, outW_none, outW_some, ↓we_nil, ↓we_cons, ↓we_dt, ↓we_fr, ↓we_slot, ↓wk_nil, ↓wk_cons, ↓wk_dt, ↓wk_fr, ↓wk_slot, ↓wg_dt, ↓wg_fr, ↓wg_slot, ↓wr_nil, ↓wr_cons, wo_own, wc_F, wc_T, ↓wp_nil, ↓wp_cons, wput, wcell, wcl0, wclf, wclo, wmf, wmo, wmb, wwr, wwo, wwb, wfree, wfree0, wfreef, wd_add, wd_adds, wd_addl, wd_addt, wd_sub, wd_mul, wd_repl, wd_rept, wd_div, wd_mod, wd_pow, wd_eq, wd_ne, wd_lt, wd_le, wd_gt, wd_ge, wd_inl, wd_int, wd_nil, wd_nit, wd_is, wd_isn, wd_tn, wd_tb, wd_ti, wd_tl, wd_tt, wd_ixl, wd_ixt, wd_sll, wd_slt, wd_i, wd_b, wd_lenl, wd_lent, wd_sum, wd_min2, wd_max2, wd_all, wd_any, wd_abs, wd_repr, wd_inti, wd_intb, wd_list1, wd_list2, wd_tup1, wd_tup2, wd_asn, wd_ast, wd_as0, wd_as1, wd_itl, wd_itt, wd_dt, wd_fr, wd_slot, wd_bvT, wd_bvF, wd_rv, wd_pn, wd_pvar, wd_pint, wd_pbin, wd_pneg, wd_pbi, wd_pcall, wd_pix, wd_ls, wd_aa, wd_as, wd_frl, wd_fzi, isTyD, isT, D.dt, isNon, permL, initE, wipeE, restE, List.getElem?_cons_zero, List.getElem?_cons_succ, List.getElem?_nil, List.set_cons_zero, List.set_cons_succ, List.length_cons, List.length_nil, List.cons_append, List.nil_append, List.append_nil, List.replicate, List.all_cons, List.all_nil, List.any_cons, List.any_nil, List.filterMap_cons, List.filterMap_nil, Option.join_some, Option.join_none, Option.bind_some, Option.map_some, Option.map_none, Bool.and_true, Bool.and_self, Bool.or_false, Bool.false_or, Bool.true_or, Bool.or_true, Bool.not_true, Bool.not_false, true_and, and_true, and_self, or_true, true_or, or_false, false_or, if_true, if_false, Bool.false_eq_true, Bool.true_eq_false, reduceCtorEq, Nat.reduceAdd, Nat.reduceSub, Nat.reduceLT, Int.reduceNeg, Nat.reduceLeDiff, not_true_eq_false, not_false_eq_true, reduceIte, decide_true, decide_false, beq_self_eq_true, ne_eq, atI_0, atI_1, atI_2, atI_3, ↓wd_p9, ↓wd_p12, ↓wd_p15, ↓wd_p18, ↓wd_p20, ↓wd_p30, ixN_30, ixN_31, ixN_32, q4, h0, nD_length, g3, a3, b3]
      subst hQ'
      refine r3 _ _ _ _ _ _ c0 c1 (by omega) (by omega) (by omega) (by omega) fun A q2 n3 hA hAl m3 m4 => ?_
      simp (maxSteps := 1000000) only [cf, co, cb, ↓We_var, ↓We_non, ↓We_bl, ↓We_int, ↓We_str, ↓We_gl, ↓We_bin, ↓We_neg, ↓We_nt, ↓We_and, ↓We_or, ↓We_ite, ↓We_cmp, ↓We_chain, ↓We_tup, ↓We_lst, ↓We_ix, ↓We_sl, ↓We_nopart, ↓We_rvs, ↓We_call, ↓We_callK, ↓We_bi, ↓We_mth, ↓We_isi, ↓We_lc, ↓We_yes, ↓We_val, ↓We_tru, ↓Wes_nil, ↓Wes_cons, ↓Wei_seq, ↓Wei_range1, ↓Wei_range2, ↓Wei_enum, ↓Wei_zip, ↓Ws_pass, ↓Ws_brk, ↓Ws_cont, ↓Ws_nil, ↓Ws_cons, ↓Ws_asg, ↓Ws_par, ↓Ws_unp, ↓Ws_drop, ↓Ws_aug, ↓Ws_setI, ↓Ws_app, ↓Ws_ext, ↓Ws_ret, ↓Ws_retN, ↓Ws_if, ↓Ws_for, ↓Ws_never, ↓Ws_fga, psq_rt, psq_bk, psq_ct, psq_ex, pfg_nx, pfg_ct, pfg_rt, pfg_bk, pfg_ex, Rw_ok, Rw_ex, ↓Rw_bind, ↓Rw_opt, Ow_some, Ow_none, ↓Ow_bind, ↓Ow_map, ↓Ow_ite, Cw_true, Cw_false, Cw_not, callW_G, callG_none, callG_io, callKW_none', okIo_own, okIo_bor, outW_none, outW_some, ↓we_nil, ↓we_cons, ↓we_dt, ↓we_fr, ↓we_slot, ↓wk_nil, ↓wk_cons, ↓wk_dt, ↓wk_fr, ↓wk_slot, ↓wg_dt, ↓wg_fr, ↓wg_slot, ↓wr_nil, ↓wr_cons, wo_own, wc_F, wc_T, ↓wp_nil, ↓wp_cons, wput, wcell, wcl0, wclf, wclo, wmf, wmo, wmb, wwr, wwo, wwb, wfree, wfree0, wfreef, wd_add, wd_adds, wd_addl, wd_addt, wd_sub, wd_mul, wd_repl, wd_rept, wd_div, wd_mod, wd_pow, wd_eq, wd_ne, wd_lt, wd_le, wd_gt, wd_ge, wd_inl, wd_int, wd_nil, wd_nit, wd_is, wd_isn, wd_tn, wd_tb, wd_ti, wd_tl, wd_tt, wd_ixl, wd_ixt, wd_sll, wd_slt, wd_i, wd_b, wd_lenl, wd_lent, wd_sum, wd_min2, wd_max2, wd_all, wd_any, wd_abs, wd_repr, wd_inti, wd_intb, wd_list1, wd_list2, wd_tup1, wd_tup2, wd_asn, wd_ast, wd_as0, wd_as1, wd_itl, wd_itt, wd_dt, wd_fr, wd_slot, wd_bvT, wd_bvF, wd_rv, wd_pn, wd_pvar, wd_pint, wd_pbin, wd_pneg, wd_pbi, wd_pcall, wd_pix, wd_ls, wd_aa, wd_as, wd_frl, wd_fzi, isTyD, isT, D.dt, isNon, permL, initE, wipeE, restE, List.getElem?_cons_zero, List.getElem?_cons_succ, List.getElem?_nil, List.set_cons_zero, List.set_cons_succ, List.length_cons, List.length_nil, List.cons_append, List.nil_append, List.append_nil, List.replicate, List.all_cons, List.all_nil, List.any_cons, List.any_nil, List.filterMap_cons, List.filterMap_nil, Option.join_some, Option.join_none, Option.bind_some, Option.map_some, Option.map_none, Bool.and_true, Bool.and_self, Bool.or_false, Bool.false_or, Bool.true_or, Bool.or_true, Bool.not_true, Bool.not_false, true_and, and_true, and_self, or_true, true_or, or_false, false_or, if_true, if_false, Bool.false_eq_true, Bool.true_eq_false, reduceCtorEq, Nat.reduceAdd, Nat.reduceSub, Nat.reduceLT, Int.reduceNeg, Nat.reduceLeDiff, not_true_eq_false, not_false_eq_true, reduceIte, decide_true, decide_false, beq_self_eq_true, ne_eq, atI_0, atI_1, atI_2, atI_3, ↓wd_p9, ↓wd_p12, ↓wd_p15, ↓wd_p18, ↓wd_p20, ↓wd_p30, ixN_30, ixN_31, ixN_32, psq_nx, g1, a1, b1, s2, s3, nD_length, s202, app]
      refine h1.w c0 c1 (by omega) (by omega) (by omega) (by omega) fun v q3 n4 v0 v1 m5 m6 => ?_
      obtain ⟨l, hl, hl'⟩ := pick3 A cs (cs ++ [0, 3]) v v0 v1
      have hll : ∀ c ∈ l, c < 2 ^ 62 := fun c hc => by
        rcases hl' with rfl | rfl | rfl
        · have := hA c hc; omega
        · have := hcs c hc; omega
        · rcases List.mem_append.mp hc with h | h
          · have := hcs c h; omega
          · simp at h; omega
      simp (maxSteps := 1000000) only [cf, co, cb, ↓We_var, ↓We_non, ↓We_bl, ↓We_int, ↓We_str, ↓We_gl, ↓We_bin, ↓We_neg, ↓We_nt, ↓We_and, ↓We_or, ↓We_ite, ↓We_cmp, ↓We_chain, ↓We_tup, ↓We_lst, ↓We_ix, ↓We_sl, ↓We_nopart, ↓We_rvs, ↓We_call, ↓We_callK, ↓We_bi, ↓We_mth, ↓We_isi, ↓We_lc, ↓We_yes, ↓We_val, ↓We_tru, ↓Wes_nil, ↓Wes_cons, ↓Wei_seq, ↓Wei_range1, ↓Wei_range2, ↓Wei_enum, ↓Wei_zip, ↓Ws_pass, ↓Ws_brk, ↓Ws_cont, ↓Ws_nil, ↓Ws_cons, ↓Ws_asg, ↓Ws_par, ↓Ws_unp, ↓Ws_drop, ↓Ws_aug, ↓Ws_setI, ↓Ws_app, ↓Ws_ext, ↓Ws_ret, ↓Ws_retN, ↓Ws_if, ↓Ws_for, ↓Ws_never, ↓Ws_fga, psq_rt, psq_bk, psq_ct, psq_ex, pfg_nx, pfg_ct, pfg_rt, pfg_bk, pfg_ex, Rw_ok, Rw_ex, ↓Rw_bind, ↓Rw_opt, Ow_some, Ow_none, ↓Ow_bind, ↓Ow_map, ↓Ow_ite, Cw_true, Cw_false, Cw_not, callW_G, callG_none, callG_io, callKW_none', okIo_own, okIo_bor, outW_none, outW_some, ↓we_nil, ↓we_cons, ↓we_dt, ↓we_fr, ↓we_slot, ↓wk_nil, ↓wk_cons, ↓wk_dt, ↓wk_fr, ↓wk_slot, ↓wg_dt, ↓wg_fr, ↓wg_slot, ↓wr_nil, ↓wr_cons, wo_own, wc_F, wc_T, ↓wp_nil, ↓wp_cons, wput, wcell, wcl0, wclf, wclo, wmf, wmo, wmb, wwr, wwo, wwb, wfree, wfree0, wfreef, wd_add, wd_adds, wd_addl, wd_addt, wd_sub, wd_mul, wd_repl, wd_rept, wd_div, wd_mod, wd_pow, wd_eq, wd_ne, wd_lt, wd_le, wd_gt, wd_ge, wd_inl, wd_int, wd_nil, wd_nit, wd_is, wd_isn, wd_tn, wd_tb, wd_ti, wd_tl, wd_tt, wd_ixl, wd_ixt, wd_sll, wd_slt, wd_i, wd_b, wd_lenl, wd_lent, wd_sum, wd_min2, wd_max2, wd_all, wd_any, wd_abs, wd_repr, wd_inti, wd_intb, wd_list1, wd_list2, wd_tup1, wd_tup2, wd_asn, wd_ast, wd_as0, wd_as1, wd_itl, wd_itt, wd_dt, wd_fr, wd_slot, wd_bvT, wd_bvF, wd_rv, wd_pn, wd_pvar, wd_pint, wd_pbin, wd_pneg, wd_pbi, wd_pcall, wd_pix, wd_ls, wd_aa, wd_as, wd_frl, wd_fzi, isTyD, isT, D.dt, isNon, permL, initE, wipeE, restE, List.getElem?_cons_zero, List.getElem?_cons_succ, List.getElem?_nil, List.set_cons_zero, List.set_cons_succ, List.length_cons, List.length_nil, List.cons_append, List.nil_append, List.append_nil, List.replicate, List.all_cons, List.all_nil, List.any_cons, List.any_nil, List.filterMap_cons, List.filterMap_nil, Option.join_some, Option.join_none, Option.bind_some, Option.map_some, Option.map_none, Bool.and_true, Bool.and_self, Bool.or_false, Bool.false_or, Bool.true_or, Bool.or_true, Bool.not_true, Bool.not_false, true_and, and_true, and_self, or_true, true_or, or_false, false_or, if_true, if_false, Bool.false_eq_true, Bool.true_eq_false, reduceCtorEq, Nat.reduceAdd, Nat.reduceSub, Nat.reduceLT, Int.reduceNeg, Nat.reduceLeDiff, not_true_eq_false, not_false_eq_true, reduceIte, decide_true, decide_false, beq_self_eq_true, ne_eq, atI_0, atI_1, atI_2, atI_3, ↓wd_p9, ↓wd_p12, ↓wd_p15, ↓wd_p18, ↓wd_p20, ↓wd_p30, ixN_30, ixN_31, ixN_32, psq_nx, hl, hct]
      exact q _ _ _ (cn_take hll) (by omega) (by omega)
  · have hw0 : ¬ w = 0 := fun z => hb (.inl z)
    have he2 : ¬ (es.length : Int) < 2 := fun z => hb (.inr z)
    simp (maxSteps := 1000000) only [cf, co, cb, ↓We_var, ↓We_non, ↓We_bl, ↓We_int, ↓We_str, ↓We_gl, ↓We_bin, ↓We_neg, ↓We_nt, ↓We_and, ↓We_or, ↓We_ite, ↓We_cmp, ↓We_chain, ↓We_tup, ↓We_lst, ↓We_ix, ↓We_sl, ↓We_nopart, ↓We_rvs, ↓We_call, ↓We_callK, ↓We_bi, ↓We_mth, ↓We_isi, ↓We_lc, ↓We_yes, ↓We_val, ↓We_tru, ↓Wes_nil, ↓Wes_cons, ↓Wei_seq, ↓Wei_range1, ↓Wei_range2, ↓Wei_enum, ↓Wei_zip, ↓Ws_pass, ↓Ws_brk, ↓Ws_cont, ↓Ws_nil, ↓Ws_cons, ↓Ws_asg, ↓Ws_par, ↓Ws_unp, ↓Ws_drop, ↓Ws_aug, ↓Ws_setI, ↓Ws_app, ↓Ws_ext, ↓Ws_ret, ↓Ws_retN, ↓Ws_if, ↓Ws_for, ↓Ws_never, ↓Ws_fga, psq_rt, psq_bk, psq_ct, psq_ex, pfg_nx, pfg_ct, pfg_rt, pfg_bk, pfg_ex, Rw_ok, Rw_ex, ↓Rw_bind, ↓Rw_opt, Ow_some, Ow_none, ↓Ow_bind, ↓Ow_map, ↓Ow_ite, Cw_true, Cw_false, Cw_not, callW_G, callG_none, callG_io, callKW_none', okIo_own, okIo_bor, outW_none, outW_some, ↓we_nil, ↓we_cons, ↓we_dt, ↓we_fr, ↓we_slot, ↓wk_nil, ↓wk_cons, ↓wk_dt, ↓wk_fr, ↓wk_slot, ↓wg_dt, ↓wg_fr, ↓wg_slot, ↓wr_nil, ↓wr_cons, wo_own, wc_F, wc_T, ↓wp_nil, ↓wp_cons, wput, wcell, wcl0, wclf, wclo, wmf, wmo, wmb, wwr, wwo, wwb, wfree, wfree0, wfreef, wd_add, wd_adds, wd_addl, wd_addt, wd_sub, wd_mul, wd_repl, wd_rept, wd_div, wd_mod, wd_pow, wd_eq, wd_ne, wd_lt, wd_le, wd_gt, wd_ge, wd_inl, wd_int, wd_nil, wd_nit, wd_is, wd_isn, wd_tn, wd_tb, wd_ti, wd_tl, wd_tt, wd_ixl, wd_ixt, wd_sll, wd_slt, wd_i, wd_b, wd_lenl, wd_lent, wd_sum, wd_min2, wd_max2, wd_all, wd_any, wd_abs, wd_repr, wd_inti, wd_intb, wd_list1, wd_list2, wd_tup1, wd_tup2, wd_asn, wd_ast, wd_as0, wd_as1, wd_itl, wd_itt, wd_dt, wd_fr, wd_slot, wd_bvT, wd_bvF, wd_rv, wd_pn, wd_pvar, wd_pint, wd_pbin, wd_pneg, wd_pbi, wd_pcall, wd_pix, wd_ls, wd_aa, wd_as, wd_frl, wd_fzi, isTyD, isT, D.dt, isNon, permL, initE, wipeE, restE, List.getElem?_cons_zero, List.getElem?_cons_succ, List.getElem?_nil, List.set_cons_zero, List.set_cons_succ, List.length_cons, List.length_nil, List.cons_append, List.nil_append, List.append_nil, List.replicate, List.all_cons, List.all_nil, List.any_cons, List.any_nil, List.filterMap_cons, List.filterMap_nil, Option.join_some, Option.join_none, Option.bind_some, Option.map_some, Option.map_none, Bool.and_true, Bool.and_self, Bool.or_false, Bool.false_or, Bool.true_or, Bool.or_true, Bool.not_true, Bool.not_false, true_and, and_true, and_self, or_true, true_or, or_false, false_or, if_true, if_false, Bool.false_eq_true, Bool.true_eq_false, reduceCtorEq, Nat.reduceAdd, Nat.reduceSub, Nat.reduceLT, Int.reduceNeg, Nat.reduceLeDiff, not_true_eq_false, not_false_eq_true, reduceIte, decide_true, decide_false, beq_self_eq_true, ne_eq, atI_0, atI_1, atI_2, atI_3, ↓wd_p9, ↓wd_p12, ↓wd_p15, ↓wd_p18, ↓wd_p20, ↓wd_p30, ixN_30, ixN_31, ixN_32]
    ((try rw [psq_nx]); (repeat (refine Ws_step fun Q' hQ' => ?_; simp (maxSteps := 1000000) only [cf, co, cb, ↓We_var, ↓We_non, ↓We_bl, ↓We_int, ↓We_str, ↓We_gl, ↓We_bin, ↓We_neg, ↓We_nt, ↓We_and, ↓We_or, ↓We_ite, ↓We_cmp, ↓We_chain, ↓We_tup, ↓We_lst, ↓We_ix, ↓We_sl, ↓We_nopart, ↓We_rvs, ↓We_call, ↓We_callK, ↓We_bi, ↓We_mth, ↓We_isi, ↓We_lc, ↓We_yes, ↓We_val, ↓We_tru, ↓Wes_nil, ↓Wes_cons, ↓Wei_seq, ↓Wei_range1, ↓Wei_range2, ↓Wei_enum, ↓Wei_zip, ↓Ws_pass, ↓Ws_brk, ↓Ws_cont, ↓Ws_nil, ↓Ws_cons, ↓Ws_asg, ↓Ws_par, ↓Ws_unp, ↓Ws_drop, ↓Ws_aug, ↓Ws_setI, ↓Ws_app, ↓Ws_ext, ↓Ws_ret, ↓Ws_retN, ↓Ws_if, ↓Ws_for, ↓Ws_never, ↓Ws_fga, psq_rt, psq_bk, psq_ct, psq_ex, pfg_nx, pfg_ct, pfg_rt, pfg_bk, pfg_ex, Rw_ok, Rw_ex, ↓Rw_bind, ↓Rw_opt, Ow_some, Ow_none, ↓Ow_bind, ↓Ow_map, ↓Ow_ite, Cw_true, Cw_false, Cw_not, callW_G, callG_none, callG_io, callKW_none', okIo_own, okIo_bor, outW_none, outW_some, ↓we_nil, ↓we_cons, ↓we_dt, ↓we_fr, ↓we_slot, ↓wk_nil, ↓wk_cons, ↓wk_dt, ↓wk_fr, ↓wk_slot, ↓wg_dt, ↓wg_fr, ↓wg_slot, ↓wr_nil, ↓wr_cons, wo_own, wc_F, wc_T, ↓wp_nil, ↓wp_cons, wput, wcell, wcl0, wclf, wclo, wmf, wmo, wmb, wwr, wwo, wwb, wfree, wfree0, wfreef, wd_add, wd_adds, wd_addl, wd_addt, wd_sub, wd_mul, wd_repl, wd_rept, wd_div, wd_mod, wd_pow, wd_eq, wd_ne, wd_lt, wd_le, wd_gt, wd_ge, wd_inl, wd_int, wd_nil, wd_nit, wd_is, wd_isn, wd_tn, wd_tb, wd_ti, wd_tl, wd_tt, wd_ixl, wd_ixt, wd_sll, wd_slt, wd_i, wd_b, wd_lenl, wd_lent, wd_sum, wd_min2, wd_max2, wd_all, wd_any, wd_abs, wd_repr, wd_inti, wd_intb, wd_list1, wd_list2, wd_tup1, wd_tup2, wd_asn, wd_ast, wd_as0, wd_as1, wd_itl, wd_itt, wd_dt, wd_fr, wd_slot, wd_bvT, wd_bvF, wd_rv, wd_pn, wd_pvar, wd_pint, wd_pbin, wd_pneg, wd_pbi, wd_pcall, wd_pix, wd_ls, wd_aa, wd_as, wd_frl, wd_fzi, isTyD, isT, D.dt, isNon, permL, initE, wipeE, restE, List.getElem?_cons_zero, List.getElem?_cons_succ, List.getElem?_nil, List.set_cons_zero, List.set_cons_succ, List.length_cons, List.length_nil, List.cons_append, List.nil_append, List.append_nil, List.replicate, List.all_cons, List.all_nil, List.any_cons, List.any_nil, List.filterMap_cons, List.filterMap_nil, Option.join_some, Option.join_none, Option.bind_some, Option.map_some, Option.map_none, Bool.and_true, Bool.and_self, Bool.or_false, Bool.false_or, Bool.true_or, Bool.or_true, Bool.not_true, Bool.not_false, true_and, and_true, and_self, or_true, true_or, or_false, false_or, if_true, if_false, Bool.false_eq_true, Bool.true_eq_false, reduceCtorEq, Nat.reduceAdd, Nat.reduceSub, Nat.reduceLT, Int.reduceNeg, Nat.reduceLeDiff, not_true_eq_false, not_false_eq_true, reduceIte, decide_true, decide_false, beq_self_eq_true, ne_eq, atI_0, atI_1, atI_2, atI_3, ↓wd_p9, ↓wd_p12, ↓wd_p15, ↓wd_p18, ↓wd_p20, ↓wd_p30, ixN_30, ixN_31, ixN_32, q4, hw0, nD_length, he2, g1, a1, b1]; subst hQ'; try rw [psq_nx])); (try simp only [↓Ws_nil, psq_rt, psq_ex, outW_none, outW_some, wcell, List.getElem?_cons_zero, List.getElem?_cons_succ, Option.join_some, Ow_some, true_and, and_true, and_self]))
    refine h1.w c0 c1 (by omega) (by omega) (by omega) (by omega) fun v q2 n3 v0 v1 m3 m4 => ?_
    have hj : (1 + v) = ((1 + v).toNat : Int) := by omega
    generalize hjj : (1 + v).toNat = j at hj
    have j1 : 1 ≤ j := by omega
    have j2 : j < es.length := by omega
    obtain ⟨x, hx⟩ : ∃ x, es[j]? = some x := ⟨_, List.getElem?_eq_getElem j2⟩
    have hx1 := (hes x (List.mem_of_getElem? hx)).2
    have hat : L2.atI (nD es) (j : Int) = some (.int (x : Nat)) := by
      have := nD_at es j j2
      rwa [hx] at this
    have z1 : -(2 ^ 63) ≤ (es.length : Int) ∧ (es.length : Int) < 2 ^ 63 ∧ 1 * es.length ≤ sizeLine := by
      rw [sizeLine_eq]
      refine ⟨by omega, by omega, by omega⟩
    have hix : ixN es.length (j : Int) = some j := ixN_nat j2
    have hE : ∀ c ∈ (List.replicate es.length 0).set j x, c < 2 ^ 30 := set_lt (fun c hc => by rw [(List.mem_replicate.mp hc).2]; decide) hx1
    have hEl : ((List.replicate es.length 0).set j x).length = es.length := by rw [List.length_set, List.length_replicate]
    have u := Wf_ret (r2 cs ((List.replicate es.length 0).set j x) (by omega) (by omega))
    have hM := sumN_lt hcs hE (by decide) (by decide)
    have hMl := sumN_len cs ((List.replicate es.length 0).set j x)
    rw [hEl] at hMl
    have hj1 : (1 + v) - 1 = ((j - 1 : Nat) : Int) := by omega
    rw [← hj] at hat hix
    generalize sumN cs ((List.replicate es.length 0).set j x) = M at *
    obtain ⟨m, hm⟩ : ∃ m, M[j - 1]? = some m := ⟨_, List.getElem?_eq_getElem (show j - 1 < M.length by omega)⟩
    have hm1 := hM m (List.mem_of_getElem? hm)
    have hat2 : L2.atI (nD M) ((j - 1 : Nat) : Int) = some (.int (m : Nat)) := by
      have := nD_at M (j - 1) (by omega)
      rwa [hm] at this
    have hix2 : ixN M.length ((j - 1 : Nat) : Int) = some (j - 1) := ixN_nat (by omega)
    have q5 : ∀ a b : Int, eqD (.int a) (.int b) = some (decide (a = b)) := eqD_intT
    have hEs : (List.replicate es.length 0).length = es.length := List.length_replicate
    have spot : ∀ M' : List Nat, (∀ c ∈ M', c < 2 ^ 61) → M'.length = M.length → ∀ k, k < es.length → L2.atI (nD M') (k : Int) = some (.int ((M'[k]?).getD 0 : Nat)) ∧ ixN M'.length (k : Int) = some k ∧ (((M'[k]?).getD 0 : Nat) : Int) + 1 = (((M'[k]?).getD 0 + 1 : Nat) : Int) ∧ Cn (M'.set k ((M'[k]?).getD 0 + 1)) := fun M' hM' hl k hk => by
      have kl : k < M'.length := by omega
      have hb1 : (M'[k]?).getD 0 + 1 < 2 ^ 62 := by
        rw [List.getElem?_eq_getElem kl]
        have := hM' _ (List.getElem_mem kl)
        simp only [Option.getD_some]
        omega
      exact ⟨nD_at M' k kl, ixN_nat kl, by omega, ⟨set_lt (fun c hc => by have := hM' c hc; omega) hb1, by rw [List.length_set]; omega⟩⟩
    by_cases hm0 : 0 < (m : Int)
    · have hmm : (m : Int) - 1 = ((m - 1 : Nat) : Int) := by omega
      have hM' : ∀ c ∈ M.set (j - 1) (m - 1), c < 2 ^ 61 := set_lt (fun c hc => by have := hM c hc; omega) (by omega)
      have hMl' : (M.set (j - 1) (m - 1)).length = M.length := by rw [List.length_set]
      by_cases hw3 : w = 3
      · have hw3' : (w = 3) = True := eq_true hw3
        simp (maxSteps := 1000000) only [cf, co, cb, ↓We_var, ↓We_non, ↓We_bl, ↓We_int, ↓We_str, ↓We_gl, ↓We_bin, ↓We_neg, ↓We_nt, ↓We_and, ↓We_or, ↓We_ite, ↓We_cmp, ↓We_chain, ↓We_tup, ↓We_lst, ↓We_ix, ↓We_sl, ↓We_nopart, ↓We_rvs, ↓We_call, ↓We_callK, ↓We_bi, ↓We_mth, ↓We_isi, ↓We_lc, ↓We_yes, ↓We_val, ↓We_tru, ↓Wes_nil, ↓Wes_cons, ↓Wei_seq, ↓Wei_range1, ↓Wei_range2, ↓Wei_enum, ↓Wei_zip, ↓Ws_pass, ↓Ws_brk, ↓Ws_cont, ↓Ws_nil, ↓Ws_cons, ↓Ws_asg, ↓Ws_par, ↓Ws_unp, ↓Ws_drop, ↓Ws_aug, ↓Ws_setI, ↓Ws_app, ↓Ws_ext, ↓Ws_ret, ↓Ws_retN, ↓Ws_if, ↓Ws_for, ↓Ws_never, ↓Ws_fga, psq_rt, psq_bk, psq_ct, psq_ex, pfg_nx, pfg_ct, pfg_rt, pfg_bk, pfg_ex, Rw_ok, Rw_ex, ↓Rw_bind, ↓Rw_opt, Ow_some, Ow_none, ↓Ow_bind, ↓Ow_map, ↓Ow_ite, Cw_true, Cw_false, Cw_not, callW_G, callG_none, callG_io, callKW_none', okIo_own, okIo_bor, outW_none, outW_some, ↓we_nil, ↓we_cons, ↓we_dt, ↓we_fr, ↓we_slot, ↓wk_nil, ↓wk_cons, ↓wk_dt, ↓wk_fr, ↓wk_slot, ↓wg_dt, ↓wg_fr, ↓wg_slot, ↓wr_nil, ↓wr_cons, wo_own, wc_F, wc_T, ↓wp_nil, ↓wp_cons, wput, wcell, wcl0, wclf, wclo, wmf, wmo, wmb, wwr, wwo, wwb, wfree, wfree0, wfreef, wd_add, wd_adds, wd_addl, wd_addt, wd_sub, wd_mul, wd_repl, wd_rept, wd_div, wd_mod, wd_pow, wd_eq, wd_ne, wd_lt, wd_le, wd_gt, wd_ge, wd_inl, wd_int, wd_nil, wd_nit, wd_is, wd_isn, wd_tn, wd_tb, wd_ti, wd_tl, wd_tt, wd_ixl, wd_ixt, wd_sll, wd_slt, wd_i, wd_b, wd_lenl, wd_lent, wd_sum, wd_min2, wd_max2, wd_all, wd_any, wd_abs, wd_repr, wd_inti, wd_intb, wd_list1, wd_list2, wd_tup1, wd_tup2, wd_asn, wd_ast, wd_as0, wd_as1, wd_itl, wd_itt, wd_dt, wd_fr, wd_slot, wd_bvT, wd_bvF, wd_rv, wd_pn, wd_pvar, wd_pint, wd_pbin, wd_pneg, wd_pbi, wd_pcall, wd_pix, wd_ls, wd_aa, wd_as, wd_frl, wd_fzi, isTyD, isT, D.dt, isNon, permL, initE, wipeE, restE, List.getElem?_cons_zero, List.getElem?_cons_succ, List.getElem?_nil, List.set_cons_zero, List.set_cons_succ, List.length_cons, List.length_nil, List.cons_append, List.nil_append, List.append_nil, List.replicate, List.all_cons, List.all_nil, List.any_cons, List.any_nil, List.filterMap_cons, List.filterMap_nil, Option.join_some, Option.join_none, Option.bind_some, Option.map_some, Option.map_none, Bool.and_true, Bool.and_self, Bool.or_false, Bool.false_or, Bool.true_or, Bool.or_true, Bool.not_true, Bool.not_false, true_and, and_true, and_self, or_true, true_or, or_false, false_or, if_true, if_false, Bool.false_eq_true, Bool.true_eq_false, reduceCtorEq, Nat.reduceAdd, Nat.reduceSub, Nat.reduceLT, Int.reduceNeg, Nat.reduceLeDiff, not_true_eq_false, not_false_eq_true, reduceIte, decide_true, decide_false, beq_self_eq_true, ne_eq, atI_0, atI_1, atI_2, atI_3, ↓wd_p9, ↓wd_p12, ↓wd_p15, ↓wd_p18, ↓wd_p20, ↓wd_p30, ixN_30, ixN_31, ixN_32, psq_nx, hat, hix, z1, s1, rep0, Int.toNat_natCast, nD_length, nD_set, ↓u, g2, a2, b2, hEs, hj1, hat2, hix2, hm0, hmm, q5, hw3', g1, a1, b1]
        refine h1.w c0 c1 (by omega) (by omega) (by omega) (by omega) fun v2 q3 n4 v20 v21 m5 m6 => ?_
        have hk : v2 = (v2.toNat : Int) := by omega
        obtain ⟨e1, e2, e3, e4⟩ := spot (M.set (j - 1) (m - 1)) hM' hMl' v2.toNat (by omega)
        generalize v2.toNat = k at hk e1 e2 e3 e4
        subst hk
        simp (maxSteps := 1000000) only [cf, co, cb, ↓We_var, ↓We_non, ↓We_bl, ↓We_int, ↓We_str, ↓We_gl, ↓We_bin, ↓We_neg, ↓We_nt, ↓We_and, ↓We_or, ↓We_ite, ↓We_cmp, ↓We_chain, ↓We_tup, ↓We_lst, ↓We_ix, ↓We_sl, ↓We_nopart, ↓We_rvs, ↓We_call, ↓We_callK, ↓We_bi, ↓We_mth, ↓We_isi, ↓We_lc, ↓We_yes, ↓We_val, ↓We_tru, ↓Wes_nil, ↓Wes_cons, ↓Wei_seq, ↓Wei_range1, ↓Wei_range2, ↓Wei_enum, ↓Wei_zip, ↓Ws_pass, ↓Ws_brk, ↓Ws_cont, ↓Ws_nil, ↓Ws_cons, ↓Ws_asg, ↓Ws_par, ↓Ws_unp, ↓Ws_drop, ↓Ws_aug, ↓Ws_setI, ↓Ws_app, ↓Ws_ext, ↓Ws_ret, ↓Ws_retN, ↓Ws_if, ↓Ws_for, ↓Ws_never, ↓Ws_fga, psq_rt, psq_bk, psq_ct, psq_ex, pfg_nx, pfg_ct, pfg_rt, pfg_bk, pfg_ex, Rw_ok, Rw_ex, ↓Rw_bind, ↓Rw_opt, Ow_some, Ow_none, ↓Ow_bind, ↓Ow_map, ↓Ow_ite, Cw_true, Cw_false, Cw_not, callW_G, callG_none, callG_io, callKW_none', okIo_own, okIo_bor, outW_none, outW_some, ↓we_nil, ↓we_cons, ↓we_dt, ↓we_fr, ↓we_slot, ↓wk_nil, ↓wk_cons, ↓wk_dt, ↓wk_fr, ↓wk_slot, ↓wg_dt, ↓wg_fr, ↓wg_slot, ↓wr_nil, ↓wr_cons, wo_own, wc_F, wc_T, ↓wp_nil, ↓wp_cons, wput, wcell, wcl0, wclf, wclo, wmf, wmo, wmb, wwr, wwo, wwb, wfree, wfree0, wfreef, wd_add, wd_adds, wd_addl, wd_addt, wd_sub, wd_mul, wd_repl, wd_rept, wd_div, wd_mod, wd_pow, wd_eq, wd_ne, wd_lt, wd_le, wd_gt, wd_ge, wd_inl, wd_int, wd_nil, wd_nit, wd_is, wd_isn, wd_tn, wd_tb, wd_ti, wd_tl, wd_tt, wd_ixl, wd_ixt, wd_sll, wd_slt, wd_i, wd_b, wd_lenl, wd_lent, wd_sum, wd_min2, wd_max2, wd_all, wd_any, wd_abs, wd_repr, wd_inti, wd_intb, wd_list1, wd_list2, wd_tup1, wd_tup2, wd_asn, wd_ast, wd_as0, wd_as1, wd_itl, wd_itt, wd_dt, wd_fr, wd_slot, wd_bvT, wd_bvF, wd_rv, wd_pn, wd_pvar, wd_pint, wd_pbin, wd_pneg, wd_pbi, wd_pcall, wd_pix, wd_ls, wd_aa, wd_as, wd_frl, wd_fzi, isTyD, isT, D.dt, isNon, permL, initE, wipeE, restE, List.getElem?_cons_zero, List.getElem?_cons_succ, List.getElem?_nil, List.set_cons_zero, List.set_cons_succ, List.length_cons, List.length_nil, List.cons_append, List.nil_append, List.append_nil, List.replicate, List.all_cons, List.all_nil, List.any_cons, List.any_nil, List.filterMap_cons, List.filterMap_nil, Option.join_some, Option.join_none, Option.bind_some, Option.map_some, Option.map_none, Bool.and_true, Bool.and_self, Bool.or_false, Bool.false_or, Bool.true_or, Bool.or_true, Bool.not_true, Bool.not_false, true_and, and_true, and_self, or_true, true_or, or_false, false_or, if_true, if_false, Bool.false_eq_true, Bool.true_eq_false, reduceCtorEq, Nat.reduceAdd, Nat.reduceSub, Nat.reduceLT, Int.reduceNeg, Nat.reduceLeDiff, not_true_eq_false, not_false_eq_true, reduceIte, decide_true, decide_false, beq_self_eq_true, ne_eq, atI_0, atI_1, atI_2, atI_3, ↓wd_p9, ↓wd_p12, ↓wd_p15, ↓wd_p18, ↓wd_p20, ↓wd_p30, ixN_30, ixN_31, ixN_32, psq_nx, e1, e2, e3, nD_length, nD_set]
        exact q _ _ _ e4 (by omega) (by omega)
      · simp (maxSteps := 1000000) only [cf, co, cb, ↓We_var, ↓We_non, ↓We_bl, ↓We_int, ↓We_str, ↓We_gl, ↓We_bin, ↓We_neg, ↓We_nt, ↓We_and, ↓We_or, ↓We_ite, ↓We_cmp, ↓We_chain, ↓We_tup, ↓We_lst, ↓We_ix, ↓We_sl, ↓We_nopart, ↓We_rvs, ↓We_call, ↓We_callK, ↓We_bi, ↓We_mth, ↓We_isi, ↓We_lc, ↓We_yes, ↓We_val, ↓We_tru, ↓Wes_nil, ↓Wes_cons, ↓Wei_seq, ↓Wei_range1, ↓Wei_range2, ↓Wei_enum, ↓Wei_zip, ↓Ws_pass, ↓Ws_brk, ↓Ws_cont, ↓Ws_nil, ↓Ws_cons, ↓Ws_asg, ↓Ws_par, ↓Ws_unp, ↓Ws_drop, ↓Ws_aug, ↓Ws_setI, ↓Ws_app, ↓Ws_ext, ↓Ws_ret, ↓Ws_retN, ↓Ws_if, ↓Ws_for, ↓Ws_never, ↓Ws_fga, psq_rt, psq_bk, psq_ct, psq_ex, pfg_nx, pfg_ct, pfg_rt, pfg_bk, pfg_ex, Rw_ok, Rw_ex, ↓Rw_bind, ↓Rw_opt, Ow_some, Ow_none, ↓Ow_bind, ↓Ow_map, ↓Ow_ite, Cw_true, Cw_false, Cw_not, callW_G, callG_none, callG_io, callKW_none', okIo_own, okIo_bor, outW_none, outW_some, ↓we_nil, ↓we_cons, ↓we_dt, ↓we_fr, ↓we_slot, ↓wk_nil, ↓wk_cons, ↓wk_dt, ↓wk_fr, ↓wk_slot, ↓wg_dt, ↓wg_fr, ↓wg_slot, ↓wr_nil, ↓wr_cons, wo_own, wc_F, wc_T, ↓wp_nil, ↓wp_cons, wput, wcell, wcl0, wclf, wclo, wmf, wmo, wmb, wwr, wwo, wwb, wfree, wfree0, wfreef, wd_add, wd_adds, wd_addl, wd_addt, wd_sub, wd_mul, wd_repl, wd_rept, wd_div, wd_mod, wd_pow, wd_eq, wd_ne, wd_lt, wd_le, wd_gt, wd_ge, wd_inl, wd_int, wd_nil, wd_nit, wd_is, wd_isn, wd_tn, wd_tb, wd_ti, wd_tl, wd_tt, wd_ixl, wd_ixt, wd_sll, wd_slt, wd_i, wd_b, wd_lenl, wd_lent, wd_sum, wd_min2, wd_max2, wd_all, wd_any, wd_abs, wd_repr, wd_inti, wd_intb, wd_list1, wd_list2, wd_tup1, wd_tup2, wd_asn, wd_ast, wd_as0, wd_as1, wd_itl, wd_itt, wd_dt, wd_fr, wd_slot, wd_bvT, wd_bvF, wd_rv, wd_pn, wd_pvar, wd_pint, wd_pbin, wd_pneg, wd_pbi, wd_pcall, wd_pix, wd_ls, wd_aa, wd_as, wd_frl, wd_fzi, isTyD, isT, D.dt, isNon, permL, initE, wipeE, restE, List.getElem?_cons_zero, List.getElem?_cons_succ, List.getElem?_nil, List.set_cons_zero, List.set_cons_succ, List.length_cons, List.length_nil, List.cons_append, List.nil_append, List.append_nil, List.replicate, List.all_cons, List.all_nil, List.any_cons, List.any_nil, List.filterMap_cons, List.filterMap_nil, Option.join_some, Option.join_none, Option.bind_some, Option.map_some, Option.map_none, Bool.and_true, Bool.and_self, Bool.or_false, Bool.false_or, Bool.true_or, Bool.or_true, Bool.not_true, Bool.not_false, true_and, and_true, and_self, or_true, true_or, or_false, false_or, if_true, if_false, Bool.false_eq_true, Bool.true_eq_false, reduceCtorEq, Nat.reduceAdd, Nat.reduceSub, Nat.reduceLT, Int.reduceNeg, Nat.reduceLeDiff, not_true_eq_false, not_false_eq_true, reduceIte, decide_true, decide_false, beq_self_eq_true, ne_eq, atI_0, atI_1, atI_2, atI_3, ↓wd_p9, ↓wd_p12, ↓wd_p15, ↓wd_p18, ↓wd_p20, ↓wd_p30, ixN_30, ixN_31, ixN_32, psq_nx, hat, hix, z1, s1, rep0, Int.toNat_natCast, nD_length, nD_set, ↓u, g2, a2, b2, hEs, hj1, hat2, hix2, hm0, hmm, q5, hw3]
        exact q _ _ _ ⟨fun c hc => by have := hM' c hc; omega, by omega⟩ (by omega) (by omega)
    · have hM' : ∀ c ∈ M, c < 2 ^ 61 := fun c hc => by have := hM c hc; omega
      have hMl' : M.length = M.length := rfl
      by_cases hw3 : w = 3
      · have hw3' : (w = 3) = True := eq_true hw3
        simp (maxSteps := 1000000) only [cf, co, cb, ↓We_var, ↓We_non, ↓We_bl, ↓We_int, ↓We_str, ↓We_gl, ↓We_bin, ↓We_neg, ↓We_nt, ↓We_and, ↓We_or, ↓We_ite, ↓We_cmp, ↓We_chain, ↓We_tup, ↓We_lst, ↓We_ix, ↓We_sl, ↓We_nopart, ↓We_rvs, ↓We_call, ↓We_callK, ↓We_bi, ↓We_mth, ↓We_isi, ↓We_lc, ↓We_yes, ↓We_val, ↓We_tru, ↓Wes_nil, ↓Wes_cons, ↓Wei_seq, ↓Wei_range1, ↓Wei_range2, ↓Wei_enum, ↓Wei_zip, ↓Ws_pass, ↓Ws_brk, ↓Ws_cont, ↓Ws_nil, ↓Ws_cons, ↓Ws_asg, ↓Ws_par, ↓Ws_unp, ↓Ws_drop, ↓Ws_aug, ↓Ws_setI, ↓Ws_app, ↓Ws_ext, ↓Ws_ret, ↓Ws_retN, ↓Ws_if, ↓Ws_for, ↓Ws_never, ↓Ws_fga, psq_rt, psq_bk, psq_ct, psq_ex, pfg_nx, pfg_ct, pfg_rt, pfg_bk, pfg_ex, Rw_ok, Rw_ex, ↓Rw_bind, ↓Rw_opt, Ow_some, Ow_none, ↓Ow_bind, ↓Ow_map, ↓Ow_ite, Cw_true, Cw_false, Cw_not, callW_G, callG_none, callG_io, callKW_none', okIo_own, okIo_bor, outW_none, outW_some, ↓we_nil, ↓we_cons, ↓we_dt, ↓we_fr, ↓we_slot, ↓wk_nil, ↓wk_cons, ↓wk_dt, ↓wk_fr, ↓wk_slot, ↓wg_dt, ↓wg_fr, ↓wg_slot, ↓wr_nil, ↓wr_cons, wo_own, wc_F, wc_T, ↓wp_nil, ↓wp_cons, wput, wcell, wcl0, wclf, wclo, wmf, wmo, wmb, wwr, wwo, wwb, wfree, wfree0, wfreef, wd_add, wd_adds, wd_addl, wd_addt, wd_sub, wd_mul, wd_repl, wd_rept, wd_div, wd_mod, wd_pow, wd_eq, wd_ne, wd_lt, wd_le, wd_gt, wd_ge, wd_inl, wd_int, wd_nil, wd_nit, wd_is, wd_isn, wd_tn, wd_tb, wd_ti, wd_tl, wd_tt, wd_ixl, wd_ixt, wd_sll, wd_slt, wd_i, wd_b, wd_lenl, wd_lent, wd_sum, wd_min2, wd_max2, wd_all, wd_any, wd_abs, wd_repr, wd_inti, wd_intb, wd_list1, wd_list2, wd_tup1, wd_tup2, wd_asn, wd_ast, wd_as0, wd_as1, wd_itl, wd_itt, wd_dt, wd_fr, wd_slot, wd_bvT, wd_bvF, wd_rv, wd_pn, wd_pvar, wd_pint, wd_pbin, wd_pneg, wd_pbi, wd_pcall, wd_pix, wd_ls, wd_aa, wd_as, wd_frl, wd_fzi, isTyD, isT, D.dt, isNon, permL, initE, wipeE, restE, List.getElem?_cons_zero, List.getElem?_cons_succ, List.getElem?_nil, List.set_cons_zero, List.set_cons_succ, List.length_cons, List.length_nil, List.cons_append, List.nil_append, List.append_nil, List.replicate, List.all_cons, List.all_nil, List.any_cons, List.any_nil, List.filterMap_cons, List.filterMap_nil, Option.join_some, Option.join_none, Option.bind_some, Option.map_some, Option.map_none, Bool.and_true, Bool.and_self, Bool.or_false, Bool.false_or, Bool.true_or, Bool.or_true, Bool.not_true, Bool.not_false, true_and, and_true, and_self, or_true, true_or, or_false, false_or, if_true, if_false, Bool.false_eq_true, Bool.true_eq_false, reduceCtorEq, Nat.reduceAdd, Nat.reduceSub, Nat.reduceLT, Int.reduceNeg, Nat.reduceLeDiff, not_true_eq_false, not_false_eq_true, reduceIte, decide_true, decide_false, beq_self_eq_true, ne_eq, atI_0, atI_1, atI_2, atI_3, ↓wd_p9, ↓wd_p12, ↓wd_p15, ↓wd_p18, ↓wd_p20, ↓wd_p30, ixN_30, ixN_31, ixN_32, psq_nx, hat, hix, z1, s1, rep0, Int.toNat_natCast, nD_length, nD_set, ↓u, g2, a2, b2, hEs, hj1, hat2, hm0, q5, hw3', g1, a1, b1]
        refine h1.w c0 c1 (by omega) (by omega) (by omega) (by omega) fun v2 q3 n4 v20 v21 m5 m6 => ?_
        have hk : v2 = (v2.toNat : Int) := by omega
        obtain ⟨e1, e2, e3, e4⟩ := spot M hM' hMl' v2.toNat (by omega)
        generalize v2.toNat = k at hk e1 e2 e3 e4
        subst hk
        simp (maxSteps := 1000000) only [cf, co, cb, ↓We_var, ↓We_non, ↓We_bl, ↓We_int, ↓We_str, ↓We_gl, ↓We_bin, ↓We_neg, ↓We_nt, ↓We_and, ↓We_or, ↓We_ite, ↓We_cmp, ↓We_chain, ↓We_tup, ↓We_lst, ↓We_ix, ↓We_sl, ↓We_nopart, ↓We_rvs, ↓We_call, ↓We_callK, ↓We_bi, ↓We_mth, ↓We_isi, ↓We_lc, ↓We_yes, ↓We_val, ↓We_tru, ↓Wes_nil, ↓Wes_cons, ↓Wei_seq, ↓Wei_range1, ↓Wei_range2, ↓Wei_enum, ↓Wei_zip, ↓Ws_pass, ↓Ws_brk, ↓Ws_cont, ↓Ws_nil, ↓Ws_cons, ↓Ws_asg, ↓Ws_par, ↓Ws_unp, ↓Ws_drop, ↓Ws_aug, ↓Ws_setI, ↓Ws_app, ↓Ws_ext, ↓Ws_ret, ↓Ws_retN, ↓Ws_if, ↓Ws_for, ↓Ws_never, ↓Ws_fga, psq_rt, psq_bk, psq_ct, psq_ex, pfg_nx, pfg_ct, pfg_rt, pfg_bk, pfg_ex, Rw_ok, Rw_ex, ↓Rw_bind, ↓Rw_opt, Ow_some, Ow_none, ↓Ow_bind, ↓Ow_map, ↓Ow_ite, Cw_true, Cw_false, Cw_not, callW_G, callG_none, callG_io, callKW_none', okIo_own, okIo_bor, outW_none, outW_some, ↓we_nil, ↓we_cons, ↓we_dt, ↓we_fr, ↓we_slot, ↓wk_nil, ↓wk_cons, ↓wk_dt, ↓wk_fr, ↓wk_slot, ↓wg_dt, ↓wg_fr, ↓wg_slot, ↓wr_nil, ↓wr_cons, wo_own, wc_F, wc_T, ↓wp_nil, ↓wp_cons, wput, wcell, wcl0, wclf, wclo, wmf, wmo, wmb, wwr, wwo, wwb, wfree, wfree0, wfreef, wd_add, wd_adds, wd_addl, wd_addt, wd_sub, wd_mul, wd_repl, wd_rept, wd_div, wd_mod, wd_pow, wd_eq, wd_ne, wd_lt, wd_le, wd_gt, wd_ge, wd_inl, wd_int, wd_nil, wd_nit, wd_is, wd_isn, wd_tn, wd_tb, wd_ti, wd_tl, wd_tt, wd_ixl, wd_ixt, wd_sll, wd_slt, wd_i, wd_b, wd_lenl, wd_lent, wd_sum, wd_min2, wd_max2, wd_all, wd_any, wd_abs, wd_repr, wd_inti, wd_intb, wd_list1, wd_list2, wd_tup1, wd_tup2, wd_asn, wd_ast, wd_as0, wd_as1, wd_itl, wd_itt, wd_dt, wd_fr, wd_slot, wd_bvT, wd_bvF, wd_rv, wd_pn, wd_pvar, wd_pint, wd_pbin, wd_pneg, wd_pbi, wd_pcall, wd_pix, wd_ls, wd_aa, wd_as, wd_frl, wd_fzi, isTyD, isT, D.dt, isNon, permL, initE, wipeE, restE, List.getElem?_cons_zero, List.getElem?_cons_succ, List.getElem?_nil, List.set_cons_zero, List.set_cons_succ, List.length_cons, List.length_nil, List.cons_append, List.nil_append, List.append_nil, List.replicate, List.all_cons, List.all_nil, List.any_cons, List.any_nil, List.filterMap_cons, List.filterMap_nil, Option.join_some, Option.join_none, Option.bind_some, Option.map_some, Option.map_none, Bool.and_true, Bool.and_self, Bool.or_false, Bool.false_or, Bool.true_or, Bool.or_true, Bool.not_true, Bool.not_false, true_and, and_true, and_self, or_true, true_or, or_false, false_or, if_true, if_false, Bool.false_eq_true, Bool.true_eq_false, reduceCtorEq, Nat.reduceAdd, Nat.reduceSub, Nat.reduceLT, Int.reduceNeg, Nat.reduceLeDiff, not_true_eq_false, not_false_eq_true, reduceIte, decide_true, decide_false, beq_self_eq_true, ne_eq, atI_0, atI_1, atI_2, atI_3, ↓wd_p9, ↓wd_p12, ↓wd_p15, ↓wd_p18, ↓wd_p20, ↓wd_p30, ixN_30, ixN_31, ixN_32, psq_nx, e1, e2, e3, nD_length, nD_set]
        exact q _ _ _ e4 (by omega) (by omega)
      · simp (maxSteps := 1000000) only [cf, co, cb, ↓We_var, ↓We_non, ↓We_bl, ↓We_int, ↓We_str, ↓We_gl, ↓We_bin, ↓We_neg, ↓We_nt, ↓We_and, ↓We_or, ↓We_ite, ↓We_cmp, ↓We_chain, ↓We_tup, ↓We_lst, ↓We_ix, ↓We_sl, ↓We_nopart, ↓We_rvs, ↓We_call, ↓We_callK, ↓We_bi, ↓We_mth, ↓We_isi, ↓We_lc, ↓We_yes, ↓We_val, ↓We_tru, ↓Wes_nil, ↓Wes_cons, ↓Wei_seq, ↓Wei_range1, ↓Wei_range2, ↓Wei_enum, ↓Wei_zip, ↓Ws_pass, ↓Ws_brk, ↓Ws_cont, ↓Ws_nil, ↓Ws_cons, ↓Ws_asg, ↓Ws_par, ↓Ws_unp, ↓Ws_drop, ↓Ws_aug, ↓Ws_setI, ↓Ws_app, ↓Ws_ext, ↓Ws_ret, ↓Ws_retN, ↓Ws_if, ↓Ws_for, ↓Ws_never, ↓Ws_fga, psq_rt, psq_bk, psq_ct, psq_ex, pfg_nx, pfg_ct, pfg_rt, pfg_bk, pfg_ex, Rw_ok, Rw_ex, ↓Rw_bind, ↓Rw_opt, Ow_some, Ow_none, ↓Ow_bind, ↓Ow_map, ↓Ow_ite, Cw_true, Cw_false, Cw_not, callW_G, callG_none, callG_io, callKW_none', okIo_own, okIo_bor, outW_none, outW_some, ↓we_nil, ↓we_cons, ↓we_dt, ↓we_fr, ↓we_slot, ↓wk_nil, ↓wk_cons, ↓wk_dt, ↓wk_fr, ↓wk_slot, ↓wg_dt, ↓wg_fr, ↓wg_slot, ↓wr_nil, ↓wr_cons, wo_own, wc_F, wc_T, ↓wp_nil, ↓wp_cons, wput, wcell, wcl0, wclf, wclo, wmf, wmo, wmb, wwr, wwo, wwb, wfree, wfree0, wfreef, wd_add, wd_adds, wd_addl, wd_addt, wd_sub, wd_mul, wd_repl, wd_rept, wd_div, wd_mod, wd_pow, wd_eq, wd_ne, wd_lt, wd_le, wd_gt, wd_ge, wd_inl, wd_int, wd_nil, wd_nit, wd_is, wd_isn, wd_tn, wd_tb, wd_ti, wd_tl, wd_tt, wd_ixl, wd_ixt, wd_sll, wd_slt, wd_i, wd_b, wd_lenl, wd_lent, wd_sum, wd_min2, wd_max2, wd_all, wd_any, wd_abs, wd_repr, wd_inti, wd_intb, wd_list1, wd_list2, wd_tup1, wd_tup2, wd_asn, wd_ast, wd_as0, wd_as1, wd_itl, wd_itt, wd_dt, wd_fr, wd_slot, wd_bvT, wd_bvF, wd_rv, wd_pn, wd_pvar, wd_pint, wd_pbin, wd_pneg, wd_pbi, wd_pcall, wd_pix, wd_ls, wd_aa, wd_as, wd_frl, wd_fzi, isTyD, isT, D.dt, isNon, permL, initE, wipeE, restE, List.getElem?_cons_zero, List.getElem?_cons_succ, List.getElem?_nil, List.set_cons_zero, List.set_cons_succ, List.length_cons, List.length_nil, List.cons_append, List.nil_append, List.append_nil, List.replicate, List.all_cons, List.all_nil, List.any_cons, List.any_nil, List.filterMap_cons, List.filterMap_nil, Option.join_some, Option.join_none, Option.bind_some, Option.map_some, Option.map_none, Bool.and_true, Bool.and_self, Bool.or_false, Bool.false_or, Bool.true_or, Bool.or_true, Bool.not_true, Bool.not_false, true_and, and_true, and_self, or_true, true_or, or_false, false_or, if_true, if_false, Bool.false_eq_true, Bool.true_eq_false, reduceCtorEq, Nat.reduceAdd, Nat.reduceSub, Nat.reduceLT, Int.reduceNeg, Nat.reduceLeDiff, not_true_eq_false, not_false_eq_true, reduceIte, decide_true, decide_false, beq_self_eq_true, ne_eq, atI_0, atI_1, atI_2, atI_3, ↓wd_p9, ↓wd_p12, ↓wd_p15, ↓wd_p18, ↓wd_p20, ↓wd_p30, ixN_30, ixN_31, ixN_32, psq_nx, hat, hix, z1, s1, rep0, Int.toNat_natCast, nD_length, nD_set, ↓u, g2, a2, b2, hEs, hj1, hat2, hm0, q5, hw3]
        exact q _ _ _ ⟨fun c hc => by have := hM' c hc; omega, by omega⟩ (by omega) (by omega)
end Lw


set_option Elab.async false
set_option linter.all false
set_option maxRecDepth 100000
set_option maxHeartbeats 1000000
namespace Lw
open PySem PySem.Spec PyProof.Rows L2 T
theorem ok_law54 {Γ : Nat → Option Fn} {i1 i2 i3 i4 i5 i6 : Nat} {F1 F2 F3 F4 F5 F6 : Fn} (g1 : Γ i1 = some F1) (g2 : Γ i2 = some F2) (g3 : Γ i3 = some F3) (g4 : Γ i4 = some F4) (g5 : Γ i5 = some F5) (g6 : Γ i6 = some F6)
    (h1 : CellAtOk F1) (h2 : RightOk F2) (h3 : PartnerOk F3) (h4 : CrowdOk F4) (h5 : StagesOk F5) (h6 : Src5Ok F6) (ns : List Int) (hl : ns.length ≤ 63) (hz : ∀ z ∈ ns, Builtin.Int.intBits z ≤ 1048576) :
    (mkFn Γ 1 7 none (c_law i1 i2 i3 i4 i5 i6)).run [.lst (ns.map D.int)] = .ret false (.bl true) .non := by
  obtain ⟨a1, b1, r1⟩ := h1
  obtain ⟨a2, b2, r2⟩ := h2
  obtain ⟨a3, b3, r3⟩ := h3
  obtain ⟨a4, b4, r4⟩ := h4
  obtain ⟨a5, b5, r5⟩ := h5
  obtain ⟨a6, b6, r6⟩ := h6
  refine Wk_run (Wf_mk rfl ?_)
  obtain ⟨z0, e1, hz0⟩ := r1 ns 0
  have e1 : ∀ X K, @Wf F1 [.lst (ns.map D.int), .int 0] X K = K false (.int z0) .non := Wf_ret e1
  have s1 : 1 ≤ sizeLine := by decide
  have s3 : 3 ≤ sizeLine := by decide
  have hc : T.cutD (ns.map D.int) (some 1) (some 6) = (T.cutD ns (some 1) (some 6)).map D.int := cutD_map _ _ _ _
  have hcl : 1 + (T.cutD (ns.map D.int) (some 1) (some 6)).length ≤ sizeLine := by
    rw [hc, List.length_map, sizeLine_eq]
    have : (T.cutD ns (some 1) (some 6)).length ≤ ns.length := by unfold T.cutD; rw [List.length_take, List.length_drop]; omega
    omega
  have hb : ∀ z ∈ z0 :: T.cutD ns (some 1) (some 6), z.natAbs < 2 ^ 1048576 := fun z h => by
    rcases List.mem_cons.mp h with h | h
    · subst h
      rcases hz0 with h | h
      · rw [h]; exact Nat.two_pow_pos _
      · exact bits_lt (hz _ h)
    · exact bits_lt (hz _ (List.mem_of_mem_drop (List.mem_of_mem_take h)))
  unfold c_law
  ((try rw [psq_nx]); (repeat (refine Ws_step fun Q' hQ' => ?_; simp (maxSteps := 1000000) only [cf, co, cb, ↓We_var, ↓We_non, ↓We_bl, ↓We_int, ↓We_str, ↓We_gl, ↓We_bin, ↓We_neg, ↓We_nt, ↓We_and, ↓We_or, ↓We_ite, ↓We_cmp, ↓We_chain, ↓We_tup, ↓We_lst, ↓We_ix, ↓We_sl, ↓We_nopart, ↓We_rvs, ↓We_call, ↓We_callK, ↓We_bi, ↓We_mth, ↓We_isi, ↓We_lc, ↓We_yes, ↓We_val, ↓We_tru, ↓Wes_nil, ↓Wes_cons, ↓Wei_seq, ↓Wei_range1, ↓Wei_range2, ↓Wei_enum, ↓Wei_zip, ↓Ws_pass, ↓Ws_brk, ↓Ws_cont, ↓Ws_nil, ↓Ws_cons, ↓Ws_asg, ↓Ws_par, ↓Ws_unp, ↓Ws_drop, ↓Ws_aug, ↓Ws_setI, ↓Ws_app, ↓Ws_ext, ↓Ws_ret, ↓Ws_retN, ↓Ws_if, ↓Ws_for, ↓Ws_never, ↓Ws_fga, psq_rt, psq_bk, psq_ct, psq_ex, pfg_nx, pfg_ct, pfg_rt, pfg_bk, pfg_ex, Rw_ok, Rw_ex, ↓Rw_bind, ↓Rw_opt, Ow_some, Ow_none, ↓Ow_bind, ↓Ow_map, ↓Ow_ite, Cw_true, Cw_false, Cw_not, callW_G, callG_none, callG_io, callKW_none', okIo_own, okIo_bor, outW_none, outW_some, ↓we_nil, ↓we_cons, ↓we_dt, ↓we_fr, ↓we_slot, ↓wk_nil, ↓wk_cons, ↓wk_dt, ↓wk_fr, ↓wk_slot, ↓wg_dt, ↓wg_fr, ↓wg_slot, ↓wr_nil, ↓wr_cons, wo_own, wc_F, wc_T, ↓wp_nil, ↓wp_cons, wput, wcell, wcl0, wclf, wclo, wmf, wmo, wmb, wwr, wwo, wwb, wfree, wfree0, wfreef, wd_add, wd_adds, wd_addl, wd_addt, wd_sub, wd_mul, wd_repl, wd_rept, wd_div, wd_mod, wd_pow, wd_eq, wd_ne, wd_lt, wd_le, wd_gt, wd_ge, wd_inl, wd_int, wd_nil, wd_nit, wd_is, wd_isn, wd_tn, wd_tb, wd_ti, wd_tl, wd_tt, wd_ixl, wd_ixt, wd_sll, wd_slt, wd_i, wd_b, wd_lenl, wd_lent, wd_sum, wd_min2, wd_max2, wd_all, wd_any, wd_abs, wd_repr, wd_inti, wd_intb, wd_list1, wd_list2, wd_tup1, wd_tup2, wd_asn, wd_ast, wd_as0, wd_as1, wd_itl, wd_itt, wd_dt, wd_fr, wd_slot, wd_bvT, wd_bvF, wd_rv, wd_pn, wd_pvar, wd_pint, wd_pbin, wd_pneg, wd_pbi, wd_pcall, wd_pix, wd_ls, wd_aa, wd_as, wd_frl, wd_fzi, isTyD, isT, D.dt, isNon, permL, initE, wipeE, restE, List.getElem?_cons_zero, List.getElem?_cons_succ, List.getElem?_nil, List.set_cons_zero, List.set_cons_succ, List.length_cons, List.length_nil, List.cons_append, List.nil_append, List.append_nil, List.replicate, List.all_cons, List.all_nil, List.any_cons, List.any_nil, List.filterMap_cons, List.filterMap_nil, Option.join_some, Option.join_none, Option.bind_some, Option.map_some, Option.map_none, Bool.and_true, Bool.and_self, Bool.or_false, Bool.false_or, Bool.true_or, Bool.or_true, Bool.not_true, Bool.not_false, true_and, and_true, and_self, or_true, true_or, or_false, false_or, if_true, if_false, Bool.false_eq_true, Bool.true_eq_false, reduceCtorEq, Nat.reduceAdd, Nat.reduceSub, Nat.reduceLT, Int.reduceNeg, Nat.reduceLeDiff, not_true_eq_false, not_false_eq_true, reduceIte, decide_true, decide_false, beq_self_eq_true, ne_eq, atI_0, atI_1, atI_2, atI_3, ↓wd_p9, ↓wd_p12, ↓wd_p15, ↓wd_p18, ↓wd_p20, ↓wd_p30, ixN_30, ixN_31, ixN_32, ↓e1, g1, a1, b1, s1, hcl]; subst hQ'; try rw [psq_nx])); (try simp only [↓Ws_nil, psq_rt, psq_ex, outW_none, outW_some, wcell, List.getElem?_cons_zero, List.getElem?_cons_succ, Option.join_some, Ow_some, true_and, and_true, and_self]))
  rw [hc, show D.int z0 :: (T.cutD ns (some 1) (some 6)).map D.int = (z0 :: T.cutD ns (some 1) (some 6)).map D.int from rfl]
  generalize z0 :: T.cutD ns (some 1) (some 6) = zs at hb
  refine Wfor_map (fun _ cc => cc = [cf (.lst (ns.map D.int)), none, none, none, none, none, none]) rfl (fun pre z suf cc e hI => ?_) fun cc hI => ?_
  · subst hI
    obtain ⟨s, e6⟩ := r6 z (hb z (by rw [e]; simp))
    have e6 := Wf_ret e6
    have c0 := Int.emod_nonneg z (b := 2147483647) (by decide)
    have c1 := Int.emod_lt_of_pos z (b := 2147483647) (by decide)
    generalize z % 2147483647 = c at *
    simp (maxSteps := 1000000) only [cf, co, cb, ↓We_var, ↓We_non, ↓We_bl, ↓We_int, ↓We_str, ↓We_gl, ↓We_bin, ↓We_neg, ↓We_nt, ↓We_and, ↓We_or, ↓We_ite, ↓We_cmp, ↓We_chain, ↓We_tup, ↓We_lst, ↓We_ix, ↓We_sl, ↓We_nopart, ↓We_rvs, ↓We_call, ↓We_callK, ↓We_bi, ↓We_mth, ↓We_isi, ↓We_lc, ↓We_yes, ↓We_val, ↓We_tru, ↓Wes_nil, ↓Wes_cons, ↓Wei_seq, ↓Wei_range1, ↓Wei_range2, ↓Wei_enum, ↓Wei_zip, ↓Ws_pass, ↓Ws_brk, ↓Ws_cont, ↓Ws_nil, ↓Ws_cons, ↓Ws_asg, ↓Ws_par, ↓Ws_unp, ↓Ws_drop, ↓Ws_aug, ↓Ws_setI, ↓Ws_app, ↓Ws_ext, ↓Ws_ret, ↓Ws_retN, ↓Ws_if, ↓Ws_for, ↓Ws_never, ↓Ws_fga, psq_rt, psq_bk, psq_ct, psq_ex, pfg_nx, pfg_ct, pfg_rt, pfg_bk, pfg_ex, Rw_ok, Rw_ex, ↓Rw_bind, ↓Rw_opt, Ow_some, Ow_none, ↓Ow_bind, ↓Ow_map, ↓Ow_ite, Cw_true, Cw_false, Cw_not, callW_G, callG_none, callG_io, callKW_none', okIo_own, okIo_bor, outW_none, outW_some, ↓we_nil, ↓we_cons, ↓we_dt, ↓we_fr, ↓we_slot, ↓wk_nil, ↓wk_cons, ↓wk_dt, ↓wk_fr, ↓wk_slot, ↓wg_dt, ↓wg_fr, ↓wg_slot, ↓wr_nil, ↓wr_cons, wo_own, wc_F, wc_T, ↓wp_nil, ↓wp_cons, wput, wcell, wcl0, wclf, wclo, wmf, wmo, wmb, wwr, wwo, wwb, wfree, wfree0, wfreef, wd_add, wd_adds, wd_addl, wd_addt, wd_sub, wd_mul, wd_repl, wd_rept, wd_div, wd_mod, wd_pow, wd_eq, wd_ne, wd_lt, wd_le, wd_gt, wd_ge, wd_inl, wd_int, wd_nil, wd_nit, wd_is, wd_isn, wd_tn, wd_tb, wd_ti, wd_tl, wd_tt, wd_ixl, wd_ixt, wd_sll, wd_slt, wd_i, wd_b, wd_lenl, wd_lent, wd_sum, wd_min2, wd_max2, wd_all, wd_any, wd_abs, wd_repr, wd_inti, wd_intb, wd_list1, wd_list2, wd_tup1, wd_tup2, wd_asn, wd_ast, wd_as0, wd_as1, wd_itl, wd_itt, wd_dt, wd_fr, wd_slot, wd_bvT, wd_bvF, wd_rv, wd_pn, wd_pvar, wd_pint, wd_pbin, wd_pneg, wd_pbi, wd_pcall, wd_pix, wd_ls, wd_aa, wd_as, wd_frl, wd_fzi, isTyD, isT, D.dt, isNon, permL, initE, wipeE, restE, List.getElem?_cons_zero, List.getElem?_cons_succ, List.getElem?_nil, List.set_cons_zero, List.set_cons_succ, List.length_cons, List.length_nil, List.cons_append, List.nil_append, List.append_nil, List.replicate, List.all_cons, List.all_nil, List.any_cons, List.any_nil, List.filterMap_cons, List.filterMap_nil, Option.join_some, Option.join_none, Option.bind_some, Option.map_some, Option.map_none, Bool.and_true, Bool.and_self, Bool.or_false, Bool.false_or, Bool.true_or, Bool.or_true, Bool.not_true, Bool.not_false, true_and, and_true, and_self, or_true, true_or, or_false, false_or, if_true, if_false, Bool.false_eq_true, Bool.true_eq_false, reduceCtorEq, Nat.reduceAdd, Nat.reduceSub, Nat.reduceLT, Int.reduceNeg, Nat.reduceLeDiff, not_true_eq_false, not_false_eq_true, reduceIte, decide_true, decide_false, beq_self_eq_true, ne_eq, atI_0, atI_1, atI_2, atI_3, ↓wd_p9, ↓wd_p12, ↓wd_p15, ↓wd_p18, ↓wd_p20, ↓wd_p30, ixN_30, ixN_31, ixN_32, psq_nx, ↓e6, g6, a6, b6, g5, a5, b5]
    refine r5 _ _ _ _ _ c0 c1 (by omega) (by omega) fun es q1 n1 hes hel m1 m2 => ?_
    simp (maxSteps := 1000000) only [cf, co, cb, ↓We_var, ↓We_non, ↓We_bl, ↓We_int, ↓We_str, ↓We_gl, ↓We_bin, ↓We_neg, ↓We_nt, ↓We_and, ↓We_or, ↓We_ite, ↓We_cmp, ↓We_chain, ↓We_tup, ↓We_lst, ↓We_ix, ↓We_sl, ↓We_nopart, ↓We_rvs, ↓We_call, ↓We_callK, ↓We_bi, ↓We_mth, ↓We_isi, ↓We_lc, ↓We_yes, ↓We_val, ↓We_tru, ↓Wes_nil, ↓Wes_cons, ↓Wei_seq, ↓Wei_range1, ↓Wei_range2, ↓Wei_enum, ↓Wei_zip, ↓Ws_pass, ↓Ws_brk, ↓Ws_cont, ↓Ws_nil, ↓Ws_cons, ↓Ws_asg, ↓Ws_par, ↓Ws_unp, ↓Ws_drop, ↓Ws_aug, ↓Ws_setI, ↓Ws_app, ↓Ws_ext, ↓Ws_ret, ↓Ws_retN, ↓Ws_if, ↓Ws_for, ↓Ws_never, ↓Ws_fga, psq_rt, psq_bk, psq_ct, psq_ex, pfg_nx, pfg_ct, pfg_rt, pfg_bk, pfg_ex, Rw_ok, Rw_ex, ↓Rw_bind, ↓Rw_opt, Ow_some, Ow_none, ↓Ow_bind, ↓Ow_map, ↓Ow_ite, Cw_true, Cw_false, Cw_not, callW_G, callG_none, callG_io, callKW_none', okIo_own, okIo_bor, outW_none, outW_some, ↓we_nil, ↓we_cons, ↓we_dt, ↓we_fr, ↓we_slot, ↓wk_nil, ↓wk_cons, ↓wk_dt, ↓wk_fr, ↓wk_slot, ↓wg_dt, ↓wg_fr, ↓wg_slot, ↓wr_nil, ↓wr_cons, wo_own, wc_F, wc_T, ↓wp_nil, ↓wp_cons, wput, wcell, wcl0, wclf, wclo, wmf, wmo, wmb, wwr, wwo, wwb, wfree, wfree0, wfreef, wd_add, wd_adds, wd_addl, wd_addt, wd_sub, wd_mul, wd_repl, wd_rept, wd_div, wd_mod, wd_pow, wd_eq, wd_ne, wd_lt, wd_le, wd_gt, wd_ge, wd_inl, wd_int, wd_nil, wd_nit, wd_is, wd_isn, wd_tn, wd_tb, wd_ti, wd_tl, wd_tt, wd_ixl, wd_ixt, wd_sll, wd_slt, wd_i, wd_b, wd_lenl, wd_lent, wd_sum, wd_min2, wd_max2, wd_all, wd_any, wd_abs, wd_repr, wd_inti, wd_intb, wd_list1, wd_list2, wd_tup1, wd_tup2, wd_asn, wd_ast, wd_as0, wd_as1, wd_itl, wd_itt, wd_dt, wd_fr, wd_slot, wd_bvT, wd_bvF, wd_rv, wd_pn, wd_pvar, wd_pint, wd_pbin, wd_pneg, wd_pbi, wd_pcall, wd_pix, wd_ls, wd_aa, wd_as, wd_frl, wd_fzi, isTyD, isT, D.dt, isNon, permL, initE, wipeE, restE, List.getElem?_cons_zero, List.getElem?_cons_succ, List.getElem?_nil, List.set_cons_zero, List.set_cons_succ, List.length_cons, List.length_nil, List.cons_append, List.nil_append, List.append_nil, List.replicate, List.all_cons, List.all_nil, List.any_cons, List.any_nil, List.filterMap_cons, List.filterMap_nil, Option.join_some, Option.join_none, Option.bind_some, Option.map_some, Option.map_none, Bool.and_true, Bool.and_self, Bool.or_false, Bool.false_or, Bool.true_or, Bool.or_true, Bool.not_true, Bool.not_false, true_and, and_true, and_self, or_true, true_or, or_false, false_or, if_true, if_false, Bool.false_eq_true, Bool.true_eq_false, reduceCtorEq, Nat.reduceAdd, Nat.reduceSub, Nat.reduceLT, Int.reduceNeg, Nat.reduceLeDiff, not_true_eq_false, not_false_eq_true, reduceIte, decide_true, decide_false, beq_self_eq_true, ne_eq, atI_0, atI_1, atI_2, atI_3, ↓wd_p9, ↓wd_p12, ↓wd_p15, ↓wd_p18, ↓wd_p20, ↓wd_p30, ixN_30, ixN_31, ixN_32, psq_nx, nD_length, g4, a4, b4]
    have ge : Good1 es := good_of (k := 30) (n := 200) (fun e he => (hes e he).1) (fun e he => (hes e he).2) (by omega) hel (by omega) (by omega)
    refine r4 _ _ _ _ _ _ c0 c1 (by omega) (by omega) (by omega) (by omega) fun cs q2 n2 hcs hcl m3 m4 => ?_
    simp (maxSteps := 1000000) only [cf, co, cb, ↓We_var, ↓We_non, ↓We_bl, ↓We_int, ↓We_str, ↓We_gl, ↓We_bin, ↓We_neg, ↓We_nt, ↓We_and, ↓We_or, ↓We_ite, ↓We_cmp, ↓We_chain, ↓We_tup, ↓We_lst, ↓We_ix, ↓We_sl, ↓We_nopart, ↓We_rvs, ↓We_call, ↓We_callK, ↓We_bi, ↓We_mth, ↓We_isi, ↓We_lc, ↓We_yes, ↓We_val, ↓We_tru, ↓Wes_nil, ↓Wes_cons, ↓Wei_seq, ↓Wei_range1, ↓Wei_range2, ↓Wei_enum, ↓Wei_zip, ↓Ws_pass, ↓Ws_brk, ↓Ws_cont, ↓Ws_nil, ↓Ws_cons, ↓Ws_asg, ↓Ws_par, ↓Ws_unp, ↓Ws_drop, ↓Ws_aug, ↓Ws_setI, ↓Ws_app, ↓Ws_ext, ↓Ws_ret, ↓Ws_retN, ↓Ws_if, ↓Ws_for, ↓Ws_never, ↓Ws_fga, psq_rt, psq_bk, psq_ct, psq_ex, pfg_nx, pfg_ct, pfg_rt, pfg_bk, pfg_ex, Rw_ok, Rw_ex, ↓Rw_bind, ↓Rw_opt, Ow_some, Ow_none, ↓Ow_bind, ↓Ow_map, ↓Ow_ite, Cw_true, Cw_false, Cw_not, callW_G, callG_none, callG_io, callKW_none', okIo_own, okIo_bor, outW_none, outW_some, ↓we_nil, ↓we_cons, ↓we_dt, ↓we_fr, ↓we_slot, ↓wk_nil, ↓wk_cons, ↓wk_dt, ↓wk_fr, ↓wk_slot, ↓wg_dt, ↓wg_fr, ↓wg_slot, ↓wr_nil, ↓wr_cons, wo_own, wc_F, wc_T, ↓wp_nil, ↓wp_cons, wput, wcell, wcl0, wclf, wclo, wmf, wmo, wmb, wwr, wwo, wwb, wfree, wfree0, wfreef, wd_add, wd_adds, wd_addl, wd_addt, wd_sub, wd_mul, wd_repl, wd_rept, wd_div, wd_mod, wd_pow, wd_eq, wd_ne, wd_lt, wd_le, wd_gt, wd_ge, wd_inl, wd_int, wd_nil, wd_nit, wd_is, wd_isn, wd_tn, wd_tb, wd_ti, wd_tl, wd_tt, wd_ixl, wd_ixt, wd_sll, wd_slt, wd_i, wd_b, wd_lenl, wd_lent, wd_sum, wd_min2, wd_max2, wd_all, wd_any, wd_abs, wd_repr, wd_inti, wd_intb, wd_list1, wd_list2, wd_tup1, wd_tup2, wd_asn, wd_ast, wd_as0, wd_as1, wd_itl, wd_itt, wd_dt, wd_fr, wd_slot, wd_bvT, wd_bvF, wd_rv, wd_pn, wd_pvar, wd_pint, wd_pbin, wd_pneg, wd_pbi, wd_pcall, wd_pix, wd_ls, wd_aa, wd_as, wd_frl, wd_fzi, isTyD, isT, D.dt, isNon, permL, initE, wipeE, restE, List.getElem?_cons_zero, List.getElem?_cons_succ, List.getElem?_nil, List.set_cons_zero, List.set_cons_succ, List.length_cons, List.length_nil, List.cons_append, List.nil_append, List.append_nil, List.replicate, List.all_cons, List.all_nil, List.any_cons, List.any_nil, List.filterMap_cons, List.filterMap_nil, Option.join_some, Option.join_none, Option.bind_some, Option.map_some, Option.map_none, Bool.and_true, Bool.and_self, Bool.or_false, Bool.false_or, Bool.true_or, Bool.or_true, Bool.not_true, Bool.not_false, true_and, and_true, and_self, or_true, true_or, or_false, false_or, if_true, if_false, Bool.false_eq_true, Bool.true_eq_false, reduceCtorEq, Nat.reduceAdd, Nat.reduceSub, Nat.reduceLT, Int.reduceNeg, Nat.reduceLeDiff, not_true_eq_false, not_false_eq_true, reduceIte, decide_true, decide_false, beq_self_eq_true, ne_eq, atI_0, atI_1, atI_2, atI_3, ↓wd_p9, ↓wd_p12, ↓wd_p15, ↓wd_p18, ↓wd_p20, ↓wd_p30, ixN_30, ixN_31, ixN_32, psq_nx, g3, a3, b3]
    refine r3 _ _ _ _ _ _ _ c0 c1 (by omega) (by omega) hes hel hcs hcl fun c2 q3 n3 hc2 m5 m6 => ?_
    have n1' : Cn cs := ⟨fun c hc => by have := hcs c hc; omega, hcl⟩
    have e2 := Wf_ret (r2 es cs c2 ge n1' hc2)
    have e2' := Wf_ret (r2 es c2 cs ge hc2 n1')
    have hR := repr_rows (ds := [.lst (nD es), .tup (nD cs), .tup (nD c2)]) (fun d hd => by
      rcases List.mem_cons.mp hd with z | hd
      · exact ⟨true, es, z, fun c hc => by have := hes c hc; omega, by omega⟩
      · rcases List.mem_cons.mp hd with z | hd
        · exact ⟨false, cs, z, n1'.lt, by omega⟩
        · exact ⟨false, c2, List.mem_singleton.mp hd, hc2.lt, by have := hc2.len; omega⟩) (show 3 ≤ 10 by decide)
    obtain ⟨hR1, hR2⟩ := hR
    have hR3 := eqD_str hR2
    obtain ⟨R, hRe⟩ : ∃ R, (D.toPy (.tup [.lst (nD es), .tup (nD cs), .tup (nD c2)])).shown = R := ⟨_, rfl⟩
    rw [hRe] at hR3
    generalize D.tup (nD cs) = Cs at *
    generalize D.tup (nD c2) = C2 at *
    generalize D.lst (nD es) = Es at *
    simp (maxSteps := 1000000) only [cf, co, cb, ↓We_var, ↓We_non, ↓We_bl, ↓We_int, ↓We_str, ↓We_gl, ↓We_bin, ↓We_neg, ↓We_nt, ↓We_and, ↓We_or, ↓We_ite, ↓We_cmp, ↓We_chain, ↓We_tup, ↓We_lst, ↓We_ix, ↓We_sl, ↓We_nopart, ↓We_rvs, ↓We_call, ↓We_callK, ↓We_bi, ↓We_mth, ↓We_isi, ↓We_lc, ↓We_yes, ↓We_val, ↓We_tru, ↓Wes_nil, ↓Wes_cons, ↓Wei_seq, ↓Wei_range1, ↓Wei_range2, ↓Wei_enum, ↓Wei_zip, ↓Ws_pass, ↓Ws_brk, ↓Ws_cont, ↓Ws_nil, ↓Ws_cons, ↓Ws_asg, ↓Ws_par, ↓Ws_unp, ↓Ws_drop, ↓Ws_aug, ↓Ws_setI, ↓Ws_app, ↓Ws_ext, ↓Ws_ret, ↓Ws_retN, ↓Ws_if, ↓Ws_for, ↓Ws_never, ↓Ws_fga, psq_rt, psq_bk, psq_ct, psq_ex, pfg_nx, pfg_ct, pfg_rt, pfg_bk, pfg_ex, Rw_ok, Rw_ex, ↓Rw_bind, ↓Rw_opt, Ow_some, Ow_none, ↓Ow_bind, ↓Ow_map, ↓Ow_ite, Cw_true, Cw_false, Cw_not, callW_G, callG_none, callG_io, callKW_none', okIo_own, okIo_bor, outW_none, outW_some, ↓we_nil, ↓we_cons, ↓we_dt, ↓we_fr, ↓we_slot, ↓wk_nil, ↓wk_cons, ↓wk_dt, ↓wk_fr, ↓wk_slot, ↓wg_dt, ↓wg_fr, ↓wg_slot, ↓wr_nil, ↓wr_cons, wo_own, wc_F, wc_T, ↓wp_nil, ↓wp_cons, wput, wcell, wcl0, wclf, wclo, wmf, wmo, wmb, wwr, wwo, wwb, wfree, wfree0, wfreef, wd_add, wd_adds, wd_addl, wd_addt, wd_sub, wd_mul, wd_repl, wd_rept, wd_div, wd_mod, wd_pow, wd_eq, wd_ne, wd_lt, wd_le, wd_gt, wd_ge, wd_inl, wd_int, wd_nil, wd_nit, wd_is, wd_isn, wd_tn, wd_tb, wd_ti, wd_tl, wd_tt, wd_ixl, wd_ixt, wd_sll, wd_slt, wd_i, wd_b, wd_lenl, wd_lent, wd_sum, wd_min2, wd_max2, wd_all, wd_any, wd_abs, wd_repr, wd_inti, wd_intb, wd_list1, wd_list2, wd_tup1, wd_tup2, wd_asn, wd_ast, wd_as0, wd_as1, wd_itl, wd_itt, wd_dt, wd_fr, wd_slot, wd_bvT, wd_bvF, wd_rv, wd_pn, wd_pvar, wd_pint, wd_pbin, wd_pneg, wd_pbi, wd_pcall, wd_pix, wd_ls, wd_aa, wd_as, wd_frl, wd_fzi, isTyD, isT, D.dt, isNon, permL, initE, wipeE, restE, List.getElem?_cons_zero, List.getElem?_cons_succ, List.getElem?_nil, List.set_cons_zero, List.set_cons_succ, List.length_cons, List.length_nil, List.cons_append, List.nil_append, List.append_nil, List.replicate, List.all_cons, List.all_nil, List.any_cons, List.any_nil, List.filterMap_cons, List.filterMap_nil, Option.join_some, Option.join_none, Option.bind_some, Option.map_some, Option.map_none, Bool.and_true, Bool.and_self, Bool.or_false, Bool.false_or, Bool.true_or, Bool.or_true, Bool.not_true, Bool.not_false, true_and, and_true, and_self, or_true, true_or, or_false, false_or, if_true, if_false, Bool.false_eq_true, Bool.true_eq_false, reduceCtorEq, Nat.reduceAdd, Nat.reduceSub, Nat.reduceLT, Int.reduceNeg, Nat.reduceLeDiff, not_true_eq_false, not_false_eq_true, reduceIte, decide_true, decide_false, beq_self_eq_true, ne_eq, atI_0, atI_1, atI_2, atI_3, ↓wd_p9, ↓wd_p12, ↓wd_p15, ↓wd_p18, ↓wd_p20, ↓wd_p30, ixN_30, ixN_31, ixN_32, psq_nx, hR1, hRe, s3]
    simp (maxSteps := 1000000) only [cf, co, cb, ↓We_var, ↓We_non, ↓We_bl, ↓We_int, ↓We_str, ↓We_gl, ↓We_bin, ↓We_neg, ↓We_nt, ↓We_and, ↓We_or, ↓We_ite, ↓We_cmp, ↓We_chain, ↓We_tup, ↓We_lst, ↓We_ix, ↓We_sl, ↓We_nopart, ↓We_rvs, ↓We_call, ↓We_callK, ↓We_bi, ↓We_mth, ↓We_isi, ↓We_lc, ↓We_yes, ↓We_val, ↓We_tru, ↓Wes_nil, ↓Wes_cons, ↓Wei_seq, ↓Wei_range1, ↓Wei_range2, ↓Wei_enum, ↓Wei_zip, ↓Ws_pass, ↓Ws_brk, ↓Ws_cont, ↓Ws_nil, ↓Ws_cons, ↓Ws_asg, ↓Ws_par, ↓Ws_unp, ↓Ws_drop, ↓Ws_aug, ↓Ws_setI, ↓Ws_app, ↓Ws_ext, ↓Ws_ret, ↓Ws_retN, ↓Ws_if, ↓Ws_for, ↓Ws_never, ↓Ws_fga, psq_rt, psq_bk, psq_ct, psq_ex, pfg_nx, pfg_ct, pfg_rt, pfg_bk, pfg_ex, Rw_ok, Rw_ex, ↓Rw_bind, ↓Rw_opt, Ow_some, Ow_none, ↓Ow_bind, ↓Ow_map, ↓Ow_ite, Cw_true, Cw_false, Cw_not, callW_G, callG_none, callG_io, callKW_none', okIo_own, okIo_bor, outW_none, outW_some, ↓we_nil, ↓we_cons, ↓we_dt, ↓we_fr, ↓we_slot, ↓wk_nil, ↓wk_cons, ↓wk_dt, ↓wk_fr, ↓wk_slot, ↓wg_dt, ↓wg_fr, ↓wg_slot, ↓wr_nil, ↓wr_cons, wo_own, wc_F, wc_T, ↓wp_nil, ↓wp_cons, wput, wcell, wcl0, wclf, wclo, wmf, wmo, wmb, wwr, wwo, wwb, wfree, wfree0, wfreef, wd_add, wd_adds, wd_addl, wd_addt, wd_sub, wd_mul, wd_repl, wd_rept, wd_div, wd_mod, wd_pow, wd_eq, wd_ne, wd_lt, wd_le, wd_gt, wd_ge, wd_inl, wd_int, wd_nil, wd_nit, wd_is, wd_isn, wd_tn, wd_tb, wd_ti, wd_tl, wd_tt, wd_ixl, wd_ixt, wd_sll, wd_slt, wd_i, wd_b, wd_lenl, wd_lent, wd_sum, wd_min2, wd_max2, wd_all, wd_any, wd_abs, wd_repr, wd_inti, wd_intb, wd_list1, wd_list2, wd_tup1, wd_tup2, wd_asn, wd_ast, wd_as0, wd_as1, wd_itl, wd_itt, wd_dt, wd_fr, wd_slot, wd_bvT, wd_bvF, wd_rv, wd_pn, wd_pvar, wd_pint, wd_pbin, wd_pneg, wd_pbi, wd_pcall, wd_pix, wd_ls, wd_aa, wd_as, wd_frl, wd_fzi, isTyD, isT, D.dt, isNon, permL, initE, wipeE, restE, List.getElem?_cons_zero, List.getElem?_cons_succ, List.getElem?_nil, List.set_cons_zero, List.set_cons_succ, List.length_cons, List.length_nil, List.cons_append, List.nil_append, List.append_nil, List.replicate, List.all_cons, List.all_nil, List.any_cons, List.any_nil, List.filterMap_cons, List.filterMap_nil, Option.join_some, Option.join_none, Option.bind_some, Option.map_some, Option.map_none, Bool.and_true, Bool.and_self, Bool.or_false, Bool.false_or, Bool.true_or, Bool.or_true, Bool.not_true, Bool.not_false, true_and, and_true, and_self, or_true, true_or, or_false, false_or, if_true, if_false, Bool.false_eq_true, Bool.true_eq_false, reduceCtorEq, Nat.reduceAdd, Nat.reduceSub, Nat.reduceLT, Int.reduceNeg, Nat.reduceLeDiff, not_true_eq_false, not_false_eq_true, reduceIte, decide_true, decide_false, beq_self_eq_true, ne_eq, atI_0, atI_1, atI_2, atI_3, ↓wd_p9, ↓wd_p12, ↓wd_p15, ↓wd_p18, ↓wd_p20, ↓wd_p30, ixN_30, ixN_31, ixN_32, psq_nx, ↓e2, g2, a2, b2, ↓e2']
    refine ⟨hR1, ?_⟩
    rw [hRe, hR3]
    simp (maxSteps := 1000000) only [cf, co, cb, ↓We_var, ↓We_non, ↓We_bl, ↓We_int, ↓We_str, ↓We_gl, ↓We_bin, ↓We_neg, ↓We_nt, ↓We_and, ↓We_or, ↓We_ite, ↓We_cmp, ↓We_chain, ↓We_tup, ↓We_lst, ↓We_ix, ↓We_sl, ↓We_nopart, ↓We_rvs, ↓We_call, ↓We_callK, ↓We_bi, ↓We_mth, ↓We_isi, ↓We_lc, ↓We_yes, ↓We_val, ↓We_tru, ↓Wes_nil, ↓Wes_cons, ↓Wei_seq, ↓Wei_range1, ↓Wei_range2, ↓Wei_enum, ↓Wei_zip, ↓Ws_pass, ↓Ws_brk, ↓Ws_cont, ↓Ws_nil, ↓Ws_cons, ↓Ws_asg, ↓Ws_par, ↓Ws_unp, ↓Ws_drop, ↓Ws_aug, ↓Ws_setI, ↓Ws_app, ↓Ws_ext, ↓Ws_ret, ↓Ws_retN, ↓Ws_if, ↓Ws_for, ↓Ws_never, ↓Ws_fga, psq_rt, psq_bk, psq_ct, psq_ex, pfg_nx, pfg_ct, pfg_rt, pfg_bk, pfg_ex, Rw_ok, Rw_ex, ↓Rw_bind, ↓Rw_opt, Ow_some, Ow_none, ↓Ow_bind, ↓Ow_map, ↓Ow_ite, Cw_true, Cw_false, Cw_not, callW_G, callG_none, callG_io, callKW_none', okIo_own, okIo_bor, outW_none, outW_some, ↓we_nil, ↓we_cons, ↓we_dt, ↓we_fr, ↓we_slot, ↓wk_nil, ↓wk_cons, ↓wk_dt, ↓wk_fr, ↓wk_slot, ↓wg_dt, ↓wg_fr, ↓wg_slot, ↓wr_nil, ↓wr_cons, wo_own, wc_F, wc_T, ↓wp_nil, ↓wp_cons, wput, wcell, wcl0, wclf, wclo, wmf, wmo, wmb, wwr, wwo, wwb, wfree, wfree0, wfreef, wd_add, wd_adds, wd_addl, wd_addt, wd_sub, wd_mul, wd_repl, wd_rept, wd_div, wd_mod, wd_pow, wd_eq, wd_ne, wd_lt, wd_le, wd_gt, wd_ge, wd_inl, wd_int, wd_nil, wd_nit, wd_is, wd_isn, wd_tn, wd_tb, wd_ti, wd_tl, wd_tt, wd_ixl, wd_ixt, wd_sll, wd_slt, wd_i, wd_b, wd_lenl, wd_lent, wd_sum, wd_min2, wd_max2, wd_all, wd_any, wd_abs, wd_repr, wd_inti, wd_intb, wd_list1, wd_list2, wd_tup1, wd_tup2, wd_asn, wd_ast, wd_as0, wd_as1, wd_itl, wd_itt, wd_dt, wd_fr, wd_slot, wd_bvT, wd_bvF, wd_rv, wd_pn, wd_pvar, wd_pint, wd_pbin, wd_pneg, wd_pbi, wd_pcall, wd_pix, wd_ls, wd_aa, wd_as, wd_frl, wd_fzi, isTyD, isT, D.dt, isNon, permL, initE, wipeE, restE, List.getElem?_cons_zero, List.getElem?_cons_succ, List.getElem?_nil, List.set_cons_zero, List.set_cons_succ, List.length_cons, List.length_nil, List.cons_append, List.nil_append, List.append_nil, List.replicate, List.all_cons, List.all_nil, List.any_cons, List.any_nil, List.filterMap_cons, List.filterMap_nil, Option.join_some, Option.join_none, Option.bind_some, Option.map_some, Option.map_none, Bool.and_true, Bool.and_self, Bool.or_false, Bool.false_or, Bool.true_or, Bool.or_true, Bool.not_true, Bool.not_false, true_and, and_true, and_self, or_true, true_or, or_false, false_or, if_true, if_false, Bool.false_eq_true, Bool.true_eq_false, reduceCtorEq, Nat.reduceAdd, Nat.reduceSub, Nat.reduceLT, Int.reduceNeg, Nat.reduceLeDiff, not_true_eq_false, not_false_eq_true, reduceIte, decide_true, decide_false, beq_self_eq_true, ne_eq, atI_0, atI_1, atI_2, atI_3, ↓wd_p9, ↓wd_p12, ↓wd_p15, ↓wd_p18, ↓wd_p20, ↓wd_p30, ixN_30, ixN_31, ixN_32, psq_nx]
  · subst hI
    ((try rw [psq_nx]); (repeat (refine Ws_step fun Q' hQ' => ?_; simp (maxSteps := 1000000) only [cf, co, cb, ↓We_var, ↓We_non, ↓We_bl, ↓We_int, ↓We_str, ↓We_gl, ↓We_bin, ↓We_neg, ↓We_nt, ↓We_and, ↓We_or, ↓We_ite, ↓We_cmp, ↓We_chain, ↓We_tup, ↓We_lst, ↓We_ix, ↓We_sl, ↓We_nopart, ↓We_rvs, ↓We_call, ↓We_callK, ↓We_bi, ↓We_mth, ↓We_isi, ↓We_lc, ↓We_yes, ↓We_val, ↓We_tru, ↓Wes_nil, ↓Wes_cons, ↓Wei_seq, ↓Wei_range1, ↓Wei_range2, ↓Wei_enum, ↓Wei_zip, ↓Ws_pass, ↓Ws_brk, ↓Ws_cont, ↓Ws_nil, ↓Ws_cons, ↓Ws_asg, ↓Ws_par, ↓Ws_unp, ↓Ws_drop, ↓Ws_aug, ↓Ws_setI, ↓Ws_app, ↓Ws_ext, ↓Ws_ret, ↓Ws_retN, ↓Ws_if, ↓Ws_for, ↓Ws_never, ↓Ws_fga, psq_rt, psq_bk, psq_ct, psq_ex, pfg_nx, pfg_ct, pfg_rt, pfg_bk, pfg_ex, Rw_ok, Rw_ex, ↓Rw_bind, ↓Rw_opt, Ow_some, Ow_none, ↓Ow_bind, ↓Ow_map, ↓Ow_ite, Cw_true, Cw_false, Cw_not, callW_G, callG_none, callG_io, callKW_none', okIo_own, okIo_bor, outW_none, outW_some, ↓we_nil, ↓we_cons, ↓we_dt, ↓we_fr, ↓we_slot, ↓wk_nil, ↓wk_cons, ↓wk_dt, ↓wk_fr, ↓wk_slot, ↓wg_dt, ↓wg_fr, ↓wg_slot, ↓wr_nil, ↓wr_cons, wo_own, wc_F, wc_T, ↓wp_nil, ↓wp_cons, wput, wcell, wcl0, wclf, wclo, wmf, wmo, wmb, wwr, wwo, wwb, wfree, wfree0, wfreef, wd_add, wd_adds, wd_addl, wd_addt, wd_sub, wd_mul, wd_repl, wd_rept, wd_div, wd_mod, wd_pow, wd_eq, wd_ne, wd_lt, wd_le, wd_gt, wd_ge, wd_inl, wd_int, wd_nil, wd_nit, wd_is, wd_isn, wd_tn, wd_tb, wd_ti, wd_tl, wd_tt, wd_ixl, wd_ixt, wd_sll, wd_slt, wd_i, wd_b, wd_lenl, wd_lent, wd_sum, wd_min2, wd_max2, wd_all, wd_any, wd_abs, wd_repr, wd_inti, wd_intb, wd_list1, wd_list2, wd_tup1, wd_tup2, wd_asn, wd_ast, wd_as0, wd_as1, wd_itl, wd_itt, wd_dt, wd_fr, wd_slot, wd_bvT, wd_bvF, wd_rv, wd_pn, wd_pvar, wd_pint, wd_pbin, wd_pneg, wd_pbi, wd_pcall, wd_pix, wd_ls, wd_aa, wd_as, wd_frl, wd_fzi, isTyD, isT, D.dt, isNon, permL, initE, wipeE, restE, List.getElem?_cons_zero, List.getElem?_cons_succ, List.getElem?_nil, List.set_cons_zero, List.set_cons_succ, List.length_cons, List.length_nil, List.cons_append, List.nil_append, List.append_nil, List.replicate, List.all_cons, List.all_nil, List.any_cons, List.any_nil, List.filterMap_cons, List.filterMap_nil, Option.join_some, Option.join_none, Option.bind_some, Option.map_some, Option.map_none, Bool.and_true, Bool.and_self, Bool.or_false, Bool.false_or, Bool.true_or, Bool.or_true, Bool.not_true, Bool.not_false, true_and, and_true, and_self, or_true, true_or, or_false, false_or, if_true, if_false, Bool.false_eq_true, Bool.true_eq_false, reduceCtorEq, Nat.reduceAdd, Nat.reduceSub, Nat.reduceLT, Int.reduceNeg, Nat.reduceLeDiff, not_true_eq_false, not_false_eq_true, reduceIte, decide_true, decide_false, beq_self_eq_true, ne_eq, atI_0, atI_1, atI_2, atI_3, ↓wd_p9, ↓wd_p12, ↓wd_p15, ↓wd_p18, ↓wd_p20, ↓wd_p30, ixN_30, ixN_31, ixN_32]; subst hQ'; try rw [psq_nx])); (try simp only [↓Ws_nil, psq_rt, psq_ex, outW_none, outW_some, wcell, List.getElem?_cons_zero, List.getElem?_cons_succ, Option.join_some, Ow_some, true_and, and_true, and_self]))
end Lw


set_option Elab.async false
set_option linter.all false
set_option maxRecDepth 100000
set_option maxHeartbeats 0
namespace Lw
open PySem PySem.Spec PyProof.Rows L2 T
def topS (i : Nat) : Stmt := PySem.Challenge.pw_splitclimb_k54_additions_that_tell_posit.main.body.getD i (.Pass ⟨0, 0, 0, 0⟩)
def d__law_source : Df := ⟨"_law_source", topS 25, ["_law_cell"], ["_law_cell"], none, c3__law_source , []⟩
def d__law_take : Df := ⟨"_law_take", topS 26, ["_law_source_here", "_law_bound", "_law_digit", "_law_prime", "_law_mixed"], ["_law_source_here", "_law_bound"], some 0, c3__law_take , []⟩
def d__law_stages : Df := ⟨"_law_stages", topS 27, ["_law_source_here", "_law_length", "_law_top", "_law_turn"], ["_law_source_here"], some 0, c__law_stages 1, []⟩
def d__law_crowd : Df := ⟨"_law_crowd", topS 28, ["_law_source_here", "_law_length", "_law_size", "_law_tops", "_law_kind", "_law_turn"], ["_law_source_here", "_law_length"], some 0, c__law_crowd 1, []⟩
def d__law_sum : Df := ⟨"_law_sum", topS 30, ["_law_crowd_here", "_law_extra", "_law_length", "_law_rows", "_law_part", "_law_near", "_law_far"], ["_law_crowd_here", "_law_extra"], none, c__law_sum , []⟩
def d__law_partner : Df := ⟨"_law_partner", topS 31, ["_law_source_here", "_law_stages_here", "_law_crowd_here", "_law_way", "_law_near", "_law_extra", "_law_moved", "_law_spot"], ["_law_source_here", "_law_stages_here", "_law_crowd_here"], some 0, c__law_partner 1 4 3, []⟩
def d__law_cell_at : Df := ⟨"_law_cell_at", topS 24, ["_law_script", "_law_k"], ["_law_script", "_law_k"], none, c__law_cell_at , []⟩
def d_is_integer : Df := ⟨"is_integer", topS 6, ["value"], ["value"], none, c_is_integer , []⟩
def d_is_at_least : Df := ⟨"is_at_least", topS 7, ["value", "low"], ["value", "low"], none, c_is_at_least 7, []⟩
def d_require_schedule : Df := ⟨"require_schedule", topS 13, ["schedule", "index", "entry"], ["schedule"], none, c_require_schedule 8, []⟩
def d_is_group : Df := ⟨"is_group", topS 14, ["value", "length", "entry"], ["value", "length"], none, c_is_group 8, []⟩
def d_require_counts : Df := ⟨"require_counts", topS 15, ["counts"], ["counts"], none, c_require_counts 10, []⟩
def d_products : Df := ⟨"products", topS 17, ["schedule", "found", "entry"], ["schedule"], none, c_products , []⟩
def d_scaled_weight : Df := ⟨"scaled_weight", topS 18, ["schedule", "counts", "found", "count", "product"], ["schedule", "counts"], none, c_scaled_weight 12, []⟩
def d_telling_addition : Df := ⟨"telling_addition", topS 22, ["schedule", "one", "other", "weights"], ["schedule", "one", "other"], none, c_telling_addition 12 13 11 9, [(0, ["other", "one", "schedule"], [2, 1, 0])]⟩
def d__law_scaled : Df := ⟨"_law_scaled", topS 29, ["_law_stages_here", "_law_crowd_here", "_law_found", "_law_whole", "_law_at", "_law_entry"], ["_law_stages_here", "_law_crowd_here"], none, c__law_scaled , []⟩
def d__law_additions : Df := ⟨"_law_additions", topS 32, ["_law_length", "_law_found", "_law_turn", "_law_longer", "_law_part", "_law_extra"], ["_law_length"], none, c__law_additions , []⟩
def d_require_goal : Df := ⟨"require_goal", topS 16, ["goal"], ["goal"], none, c_require_goal , []⟩
def d_rounded_up : Df := ⟨"rounded_up", topS 8, ["numerator", "denominator"], ["numerator", "denominator"], none, c_rounded_up , []⟩
def d_rounded : Df := ⟨"rounded", topS 19, ["goal", "numerator", "denominator"], ["goal", "numerator", "denominator"], none, c_rounded 18, []⟩
def d_guaranteed : Df := ⟨"guaranteed", topS 20, ["schedule", "counts", "goal"], ["schedule", "counts", "goal"], none, c_guaranteed 19 12 13 17 11 9, []⟩
def d__law_right : Df := ⟨"_law_right", topS 33, ["_law_stages_here", "_law_crowd_here", "_law_partner_here", "_law_same", "_law_found", "_law_extra", "_law_sums"], ["_law_stages_here", "_law_crowd_here", "_law_partner_here"], none, c__law_right 20 4 16 14 15, []⟩
def d_law : Df := ⟨"law", topS 34, ["_law_script", "_law_cell", "_law_source_here", "_law_stages_here", "_law_crowd_here", "_law_partner_here", "_law_before"], ["_law_script"], none, c_law 6 21 5 3 2 0, []⟩
def dl : List Df := [d_law, d__law_right, d_guaranteed, d_rounded, d_rounded_up, d_require_goal, d__law_additions, d__law_scaled, d_telling_addition, d_scaled_weight, d_products, d_require_counts, d_is_group, d_require_schedule, d_is_at_least, d_is_integer, d__law_cell_at, d__law_partner, d__law_sum, d__law_crowd, d__law_stages, d__law_take, d__law_source]
def cns : List (Str × Int) := [("MAX_ROUNDS", 200)]
def stn : List (Str × Str) := [("MANY", "many"), ("FEW", "few")]
def bls : List Str := ["int", "range", "tuple", "min", "zip", "list", "len", "max", "isinstance", "bool", "enumerate", "all", "sum", "str", "repr"]
theorem o__law_source : d__law_source.Ok (tabOf dl cns stn bls) where
  sc := ⟨rfl, rfl, rfl, by decide +kernel, rfl, by decide +kernel, by decide +kernel⟩
  len := by decide
  io := nofun
  ck := by kernel_rfl
  bn := fun _ _ _ _ _ _ us hl => match us, hl with | [_], _ => rfl
  kb := nofun
theorem o__law_take : d__law_take.Ok (tabOf dl cns stn bls) where
  sc := ⟨rfl, rfl, rfl, by decide +kernel, rfl, by decide +kernel, by decide +kernel⟩
  len := by decide
  io := fun n h => by cases h; decide
  ck := by kernel_rfl
  bn := fun _ _ _ _ _ _ us hl => match us, hl with | [_, _], _ => rfl
  kb := nofun
theorem o__law_stages : d__law_stages.Ok (tabOf dl cns stn bls) where
  sc := ⟨rfl, rfl, rfl, by decide +kernel, rfl, by decide +kernel, by decide +kernel⟩
  len := by decide
  io := fun n h => by cases h; decide
  ck := by kernel_rfl
  bn := fun _ _ _ _ _ _ us hl => match us, hl with | [_], _ => rfl
  kb := nofun
theorem o__law_crowd : d__law_crowd.Ok (tabOf dl cns stn bls) where
  sc := ⟨rfl, rfl, rfl, by decide +kernel, rfl, by decide +kernel, by decide +kernel⟩
  len := by decide
  io := fun n h => by cases h; decide
  ck := by kernel_rfl
  bn := fun _ _ _ _ _ _ us hl => match us, hl with | [_, _], _ => rfl
  kb := nofun
theorem o__law_sum : d__law_sum.Ok (tabOf dl cns stn bls) where
  sc := ⟨rfl, rfl, rfl, by decide +kernel, rfl, by decide +kernel, by decide +kernel⟩
  len := by decide
  io := nofun
  ck := by kernel_rfl
  bn := fun _ _ _ _ _ _ us hl => match us, hl with | [_, _], _ => rfl
  kb := nofun
theorem o__law_partner : d__law_partner.Ok (tabOf dl cns stn bls) where
  sc := ⟨rfl, rfl, rfl, by decide +kernel, rfl, by decide +kernel, by decide +kernel⟩
  len := by decide
  io := fun n h => by cases h; decide
  ck := by kernel_rfl
  bn := fun _ _ _ _ _ _ us hl => match us, hl with | [_, _, _], _ => rfl
  kb := nofun
theorem o__law_cell_at : d__law_cell_at.Ok (tabOf dl cns stn bls) where
  sc := ⟨rfl, rfl, rfl, by decide +kernel, rfl, by decide +kernel, by decide +kernel⟩
  len := by decide
  io := nofun
  ck := by kernel_rfl
  bn := fun _ _ _ _ _ _ us hl => match us, hl with | [_, _], _ => rfl
  kb := nofun
theorem o_is_integer : d_is_integer.Ok (tabOf dl cns stn bls) where
  sc := ⟨rfl, rfl, rfl, by decide +kernel, rfl, by decide +kernel, by decide +kernel⟩
  len := by decide
  io := nofun
  ck := by kernel_rfl
  bn := fun _ _ _ _ _ _ us hl => match us, hl with | [_], _ => rfl
  kb := nofun
theorem o_is_at_least : d_is_at_least.Ok (tabOf dl cns stn bls) where
  sc := ⟨rfl, rfl, rfl, by decide +kernel, rfl, by decide +kernel, by decide +kernel⟩
  len := by decide
  io := nofun
  ck := by kernel_rfl
  bn := fun _ _ _ _ _ _ us hl => match us, hl with | [_, _], _ => rfl
  kb := nofun
theorem o_require_schedule : d_require_schedule.Ok (tabOf dl cns stn bls) where
  sc := ⟨rfl, rfl, rfl, by decide +kernel, rfl, by decide +kernel, by decide +kernel⟩
  len := by decide
  io := nofun
  ck := by kernel_rfl
  bn := fun _ _ _ _ _ _ us hl => match us, hl with | [_], _ => rfl
  kb := nofun
theorem o_is_group : d_is_group.Ok (tabOf dl cns stn bls) where
  sc := ⟨rfl, rfl, rfl, by decide +kernel, rfl, by decide +kernel, by decide +kernel⟩
  len := by decide
  io := nofun
  ck := by kernel_rfl
  bn := fun _ _ _ _ _ _ us hl => match us, hl with | [_, _], _ => rfl
  kb := nofun
theorem o_require_counts : d_require_counts.Ok (tabOf dl cns stn bls) where
  sc := ⟨rfl, rfl, rfl, by decide +kernel, rfl, by decide +kernel, by decide +kernel⟩
  len := by decide
  io := nofun
  ck := by kernel_rfl
  bn := fun _ _ _ _ _ _ us hl => match us, hl with | [_], _ => rfl
  kb := nofun
theorem o_products : d_products.Ok (tabOf dl cns stn bls) where
  sc := ⟨rfl, rfl, rfl, by decide +kernel, rfl, by decide +kernel, by decide +kernel⟩
  len := by decide
  io := nofun
  ck := by kernel_rfl
  bn := fun _ _ _ _ _ _ us hl => match us, hl with | [_], _ => rfl
  kb := nofun
theorem o_scaled_weight : d_scaled_weight.Ok (tabOf dl cns stn bls) where
  sc := ⟨rfl, rfl, rfl, by decide +kernel, rfl, by decide +kernel, by decide +kernel⟩
  len := by decide
  io := nofun
  ck := by kernel_rfl
  bn := fun _ _ _ _ _ _ us hl => match us, hl with | [_, _], _ => rfl
  kb := nofun
theorem o_telling_addition : d_telling_addition.Ok (tabOf dl cns stn bls) where
  sc := ⟨rfl, rfl, rfl, by decide +kernel, rfl, by decide +kernel, by decide +kernel⟩
  len := by decide
  io := nofun
  ck := by kernel_rfl
  bn := fun _ _ _ _ _ _ us hl => match us, hl with | [_, _, _], _ => rfl
  kb := fun n ks pl hm kV doc pm an cdv ct us ws h1 h2 => by
    rcases List.mem_cons.mp hm with e | hm
    · cases e
      exact (match us, ws, h1, h2 with | [], [_, _, _], _, _ => rfl)
    cases hm
theorem o__law_scaled : d__law_scaled.Ok (tabOf dl cns stn bls) where
  sc := ⟨rfl, rfl, rfl, by decide +kernel, rfl, by decide +kernel, by decide +kernel⟩
  len := by decide
  io := nofun
  ck := by kernel_rfl
  bn := fun _ _ _ _ _ _ us hl => match us, hl with | [_, _], _ => rfl
  kb := nofun
theorem o__law_additions : d__law_additions.Ok (tabOf dl cns stn bls) where
  sc := ⟨rfl, rfl, rfl, by decide +kernel, rfl, by decide +kernel, by decide +kernel⟩
  len := by decide
  io := nofun
  ck := by kernel_rfl
  bn := fun _ _ _ _ _ _ us hl => match us, hl with | [_], _ => rfl
  kb := nofun
theorem o_require_goal : d_require_goal.Ok (tabOf dl cns stn bls) where
  sc := ⟨rfl, rfl, rfl, by decide +kernel, rfl, by decide +kernel, by decide +kernel⟩
  len := by decide
  io := nofun
  ck := by kernel_rfl
  bn := fun _ _ _ _ _ _ us hl => match us, hl with | [_], _ => rfl
  kb := nofun
theorem o_rounded_up : d_rounded_up.Ok (tabOf dl cns stn bls) where
  sc := ⟨rfl, rfl, rfl, by decide +kernel, rfl, by decide +kernel, by decide +kernel⟩
  len := by decide
  io := nofun
  ck := by kernel_rfl
  bn := fun _ _ _ _ _ _ us hl => match us, hl with | [_, _], _ => rfl
  kb := nofun
theorem o_rounded : d_rounded.Ok (tabOf dl cns stn bls) where
  sc := ⟨rfl, rfl, rfl, by decide +kernel, rfl, by decide +kernel, by decide +kernel⟩
  len := by decide
  io := nofun
  ck := by kernel_rfl
  bn := fun _ _ _ _ _ _ us hl => match us, hl with | [_, _, _], _ => rfl
  kb := nofun
theorem o_guaranteed : d_guaranteed.Ok (tabOf dl cns stn bls) where
  sc := ⟨rfl, rfl, rfl, by decide +kernel, rfl, by decide +kernel, by decide +kernel⟩
  len := by decide
  io := nofun
  ck := by kernel_rfl
  bn := fun _ _ _ _ _ _ us hl => match us, hl with | [_, _, _], _ => rfl
  kb := nofun
theorem o__law_right : d__law_right.Ok (tabOf dl cns stn bls) where
  sc := ⟨rfl, rfl, rfl, by decide +kernel, rfl, by decide +kernel, by decide +kernel⟩
  len := by decide
  io := nofun
  ck := by kernel_rfl
  bn := fun _ _ _ _ _ _ us hl => match us, hl with | [_, _, _], _ => rfl
  kb := nofun
theorem o_law : d_law.Ok (tabOf dl cns stn bls) where
  sc := ⟨rfl, rfl, rfl, by decide +kernel, rfl, by decide +kernel, by decide +kernel⟩
  len := by decide
  io := nofun
  ck := by kernel_rfl
  bn := fun _ _ _ _ _ _ us hl => match us, hl with | [_], _ => rfl
  kb := nofun
theorem ok_all : DfsOk (tabOf dl cns stn bls) dl := ⟨o_law, ⟨rfl, rfl⟩, ⟨o__law_right, ⟨rfl, rfl⟩, ⟨o_guaranteed, ⟨rfl, rfl⟩, ⟨o_rounded, ⟨rfl, rfl⟩, ⟨o_rounded_up, ⟨rfl, rfl⟩, ⟨o_require_goal, ⟨rfl, rfl⟩, ⟨o__law_additions, ⟨rfl, rfl⟩, ⟨o__law_scaled, ⟨rfl, rfl⟩, ⟨o_telling_addition, ⟨rfl, rfl⟩, ⟨o_scaled_weight, ⟨rfl, rfl⟩, ⟨o_products, ⟨rfl, rfl⟩, ⟨o_require_counts, ⟨rfl, rfl⟩, ⟨o_is_group, ⟨rfl, rfl⟩, ⟨o_require_schedule, ⟨rfl, rfl⟩, ⟨o_is_at_least, ⟨rfl, rfl⟩, ⟨o_is_integer, ⟨rfl, rfl⟩, ⟨o__law_cell_at, ⟨rfl, rfl⟩, ⟨o__law_partner, ⟨rfl, rfl⟩, ⟨o__law_sum, ⟨rfl, rfl⟩, ⟨o__law_crowd, ⟨rfl, rfl⟩, ⟨o__law_stages, ⟨rfl, rfl⟩, ⟨o__law_take, ⟨rfl, rfl⟩, ⟨o__law_source, ⟨rfl, rfl⟩, True.intro⟩⟩⟩⟩⟩⟩⟩⟩⟩⟩⟩⟩⟩⟩⟩⟩⟩⟩⟩⟩⟩⟩⟩
end Lw

set_option Elab.async false
set_option linter.all false
set_option maxRecDepth 100000
set_option maxHeartbeats 0
namespace Lw
open PySem PySem.Spec PyProof.Rows L2 T
noncomputable def lawFn : Fn := mkFn (gam dl.tail) d_law.ps.length d_law.N.length d_law.io d_law.code
theorem spec (ns : List Int) (hl : ns.length ≤ 63) (hz : ∀ z ∈ ns, Builtin.Int.intBits z ≤ 1048576) : lawFn.run [.lst (ns.map D.int)] = .ret false (.bl true) .non := by
  have f__law_source : Src5Ok (mkFn (gam (dl.drop 23)) 1 1 none (c3__law_source )) := ok_source3 _
  have f__law_take : Take5Ok (mkFn (gam (dl.drop 22)) 2 5 (some 0) (c3__law_take )) := ok_take3 _
  have f__law_stages : StagesOk (mkFn (gam (dl.drop 21)) 1 4 (some 0) (c__law_stages 1)) := ok_stages (Γ := gam (dl.drop 21)) rfl f__law_take
  have f__law_crowd : CrowdOk (mkFn (gam (dl.drop 20)) 2 6 (some 0) (c__law_crowd 1)) := ok_crowd (Γ := gam (dl.drop 20)) rfl f__law_take
  have f__law_sum : SumOk (mkFn (gam (dl.drop 19)) 2 7 none (c__law_sum )) := ok_sum4 _
  have f__law_partner : PartnerOk (mkFn (gam (dl.drop 18)) 3 8 (some 0) (c__law_partner 1 4 3)) := ok_partner (Γ := gam (dl.drop 18)) rfl rfl rfl f__law_take f__law_sum f__law_crowd
  have f__law_cell_at : CellAtOk (mkFn (gam (dl.drop 17)) 2 2 none (c__law_cell_at )) := ok_cellat _
  have f_is_integer : IsIntOk (mkFn (gam (dl.drop 16)) 1 1 none (c_is_integer )) := ok_isint _
  have f_is_at_least : AtLeastOk (mkFn (gam (dl.drop 15)) 2 2 none (c_is_at_least 7)) := ok_atleast (Γ := gam (dl.drop 15)) rfl f_is_integer
  have f_require_schedule : ReqSchedOk (mkFn (gam (dl.drop 14)) 1 3 none (c_require_schedule 8)) := ok_reqsched (Γ := gam (dl.drop 14)) rfl f_is_at_least
  have f_is_group : IsGroupOk (mkFn (gam (dl.drop 13)) 2 3 none (c_is_group 8)) := ok_isgroup (Γ := gam (dl.drop 13)) rfl f_is_at_least
  have f_require_counts : ReqCountsOk (mkFn (gam (dl.drop 12)) 1 1 none (c_require_counts 10)) := ok_reqcounts (Γ := gam (dl.drop 12)) rfl f_is_group
  have f_products : ProdOk (mkFn (gam (dl.drop 11)) 1 3 none (c_products )) := ok_products _
  have f_scaled_weight : ScaledOk (mkFn (gam (dl.drop 10)) 2 5 none (c_scaled_weight 12)) := ok_scaled (Γ := gam (dl.drop 10)) rfl f_products
  have f_telling_addition : TellOk (mkFn (gam (dl.drop 9)) 3 4 none (c_telling_addition 12 13 11 9)) := ok_tell (Γ := gam (dl.drop 9)) rfl rfl rfl rfl f_products f_scaled_weight f_require_counts f_require_schedule
  have f__law_scaled : Scaled5Ok (mkFn (gam (dl.drop 8)) 2 6 none (c__law_scaled )) := ok_scaled5 _
  have f__law_additions : AddsOk (mkFn (gam (dl.drop 7)) 1 6 none (c__law_additions )) := ok_adds _
  have f_require_goal : GoalOk (mkFn (gam (dl.drop 6)) 1 1 none (c_require_goal )) := ok_goal _
  have f_rounded_up : RUpOk (mkFn (gam (dl.drop 5)) 2 2 none (c_rounded_up )) := ok_rup _
  have f_rounded : RoundedOk (mkFn (gam (dl.drop 4)) 3 3 none (c_rounded 18)) := ok_rounded (Γ := gam (dl.drop 4)) rfl f_rounded_up
  have f_guaranteed : GuarOk (mkFn (gam (dl.drop 3)) 3 3 none (c_guaranteed 19 12 13 17 11 9)) := ok_guar (Γ := gam (dl.drop 3)) rfl rfl rfl rfl rfl rfl f_rounded f_products f_scaled_weight f_require_goal f_require_counts f_require_schedule
  have f__law_right : RightOk (mkFn (gam (dl.drop 2)) 3 7 none (c__law_right 20 4 16 14 15)) := ok_right (Γ := gam (dl.drop 2)) rfl rfl rfl rfl rfl f_guaranteed f__law_sum f__law_additions f_telling_addition f__law_scaled
  exact ok_law54 (Γ := gam dl.tail) (i1 := 6) (i2 := 21) (i3 := 5) (i4 := 3) (i5 := 2) (i6 := 0) rfl rfl rfl rfl rfl rfl f__law_cell_at f__law_right f__law_partner f__law_crowd f__law_stages f__law_source ns hl hz
end Lw

set_option Elab.async false
set_option linter.all false
set_option maxRecDepth 100000
set_option maxHeartbeats 0
namespace Lw
open PySem PySem.Spec PyProof.Rows L2 T
abbrev R : PySem.W.OpenRow := PySem.W.OpenLaw.row PySem.Challenge.rw_splitclimb_k54_additions_that_tell_posit
def names : List PySem.Str := (["ClimbError", "InvalidSchedule", "InvalidCounts", "InvalidGoal", "is_integer", "is_at_least", "rounded_up", "MAX_ROUNDS", "MANY", "FEW", "require_schedule", "is_group", "require_counts", "require_goal", "products", "scaled_weight", "rounded", "guaranteed", "telling_addition", "_law_cell_at", "_law_source", "_law_take", "_law_stages", "_law_crowd", "_law_scaled", "_law_sum", "_law_partner", "_law_additions", "_law_right"] : List PySem.Str)
abbrev hk : PySem.W.Hook := He.hookD 4 (faOf dl cns stn bls) (dl.map Df.d)
def ob (s : PySem.W.SharedT) : He.AlD := He.obsDG 4 (faOf dl cns stn bls) (dl.map Df.d) (HandSHeadRun.getT s)
theorem ob_eq (s : PySem.W.SharedT) : ob s = hk.obs s.abs := He.obsDG_eq (HandSHeadRun.getT_eq s)
theorem run (w : World) : HandSHeadRun.RunEq R (PySem.W.view R.prog [34]) hk ob 4000 names w := by
  intro os
  kernel_rfl
end Lw
open PySem PySem.W PySem.Calls PyProof.Rows
theorem PySem.Challenge.cw_splitclimb_k54_additions_that_tell_posit_holds : PySem.Challenge.rw_splitclimb_k54_additions_that_tell_posit.Holds := by
  w_on; o_law
  refine HandSHeadRun.head_any (r := OpenLaw.row PySem.Challenge.rw_splitclimb_k54_additions_that_tell_posit) (q := view (OpenLaw.row PySem.Challenge.rw_splitclimb_k54_additions_that_tell_posit).prog [34]) (H := Lw.hk) (ob := Lw.ob) (M := 4000) (loose := Lw.names) (d := HandSHeadRun.topDef (OpenLaw.row PySem.Challenge.rw_splitclimb_k54_additions_that_tell_posit).prog 34) (kwd := []) Lw.ob_eq
    (by kernel_rfl) (fun s => by kernel_rfl) Lw.run (by kernel_rfl) (by kernel_rfl) (by kernel_rfl) (by rfl) (by first | assumption | decide +kernel) (by decide +kernel) ⟨rfl, rfl, rfl, rfl, rfl, by decide +kernel⟩ ?hw ?hc
  case hw => w_witness2
  case hc =>
    refine T.walk_ofEB (l := PySem.Challenge.rw_splitclimb_k54_additions_that_tell_posit) (n := 63) (k := 23) (x := "_law_script") (CX := L2.CX0) rfl (by decide) (by kernel_rfl) ⟨⟨rfl, by decide, by decide⟩, rfl⟩ ?F (fun _ _ _ _ z => z)
    intro w mg fa h Y G hmg0
    obtain ⟨K, KX, c⟩ := Y
    have hmg : mg ("law" : PySem.Str) = some (.ref fa) := by
      have e : (HandSHeadRun.topDef (OpenLaw.row PySem.Challenge.rw_splitclimb_k54_additions_that_tell_posit).prog 34).name = ("law" : PySem.Str) := by kernel_rfl
      rw [← e]
      exact hmg0
    obtain ⟨fd, hb, hF⟩ := T.facts_all (P := (PySem.Challenge.rw_splitclimb_k54_additions_that_tell_posit).prog) (w := w) (x := "_law_script") KX G hmg c Lw.ok_all rfl
    exact ⟨K, fd, T.SpF K Lw.lawFn, KX, hb, fun H a ns hl hz _ hS => T.sp_law rfl rfl hS (Lw.spec ns hl hz), hF⟩


