import PyProof.Rows.All
import Wide.All
import OpenK.AllK
import Wide.FinOn
import KE.KStateDown
import HandS.ForMost
import HandS.ForExc
import HandS.Lambda
import HandS.IsInst
import HandS.TupAny
import HandS.TupMul
import HandS.Zip
import HandS.Wide
import HandS.Text
import HandS.HeadHook1
import HandS.HeadHook2
import HandS.HeadHook3
import HandS.HeadHook4
import HandS.Head2
import HandS.Defaults
import HandS.ExcCtx
import KE.GoesNew
import HandS.Comp
import KE.GoesComp
import KE.KAsSuite
import HandS.HotCalls
import HandS.ExcIs
import KE.GoesMore
import KE.GoesZip
import HandS.CallRecv
import HandS.Head0
import HandS.Head1
import HandS.HeadEnd
import HandS.HeadWalk
import PySem.Challenge.RW_rangetables_k21_errors_apart
set_option Elab.async false
set_option linter.all false
set_option maxRecDepth 100000
set_option autoImplicit false
namespace Rt
open PySem
/-- data: cell n is the n-th list that may be changed (the dice) -/
inductive D where
  | non | bl (b : Bool) | int (i : Int) | str (x : Str) | tup (xs : List D) | lst (xs : List D) | cell (n : Nat)
  | ob | exc (c : Nat)
abbrev Sto := List (List D)
inductive Res (a : Type) where
  | ok (x : a) (s : Sto) | exc (c : Nat) (s : Sto) | bad
namespace Res
variable {a b : Type}
def bind (r : Res a) (f : a → Sto → Res b) : Res b := match r with
  | .ok x s => f x s
  | .exc c s => .exc c s
  | .bad => .bad
/-- as bind, nothing may be raised -/
def bindN (r : Res a) (f : a → Sto → Res b) : Res b := match r with
  | .ok x s => f x s
  | _ => .bad
@[simp] theorem bind_ok (x : a) (s : Sto) (f : a → Sto → Res b) : (Res.ok x s).bind f = f x s := rfl
@[simp] theorem bind_exc (c : Nat) (s : Sto) (f : a → Sto → Res b) : (Res.exc c s : Res a).bind f = .exc c s := rfl
@[simp] theorem bind_bad (f : a → Sto → Res b) : (Res.bad : Res a).bind f = .bad := rfl
@[simp] theorem bindN_ok (x : a) (s : Sto) (f : a → Sto → Res b) : (Res.ok x s).bindN f = f x s := rfl
@[simp] theorem bindN_exc (c : Nat) (s : Sto) (f : a → Sto → Res b) : (Res.exc c s : Res a).bindN f = .bad := rfl
@[simp] theorem bindN_bad (f : a → Sto → Res b) : (Res.bad : Res a).bindN f = .bad := rfl
end Res
inductive Bop where | add | sub | mul | fdiv | mod | pow
  deriving DecidableEq
inductive Cop where | lt | le | gt | ge | eq | ne | isn | notn | nin | inn
  deriving DecidableEq
inductive Ty where | int | bool | tuple | str
  deriving DecidableEq
inductive Bi where | len | abs | min1 | max1 | min2 | max2 | sum | all | any | tuple | list | sorted | int | str | isi (t : Ty)
  deriving DecidableEq
/-- methods of texts -/
inductive Mt where | split | join
  deriving DecidableEq
/-- a target: a name's slot, or a tuple of targets -/
inductive Tg where | name (i : Nat) | tup2 (a b : Tg) | tup3 (a b c : Tg) | tup5 (a b c d e : Tg)
mutual
inductive E where
  | var (i : Nat)
  | int (i : Int) | bl (b : Bool) | non | str (x : Str)
  | tup (es : Es) | lst (es : Es) | cel (es : Es)
  | bin (op : Bop) (a b : E) | neg (a : E) | not (a : E)
  | cmp (op : Cop) (a b : E) | chain (o1 o2 : Cop) (a b c : E)
  | and (a b : E) | or (a b : E) | ite (c a b : E)
  | rep (es : Es) (k : E)
  | sub (a i : E) | subo (i : Nat) (x : E) | slice (a : E) (lo hi : Oe) | rev (a : E)
  | call (f : Nat) (es : Es) | bi (b : Bi) (es : Es)
  | comp (tg : Tg) (it : It) (cond : Oe) (elt : E) (own : List Nat)
  | comp2 (tg : Tg) (it : It) (tg2 : Tg) (it2 : It) (elt : E) (own own2 : List Nat)
  | told (e : E)
  | m1 (m : Mt) (a b : E)
  | compX (tg : Tg) (it : It) (elt : E) (own : List Nat)
  | fld (i : Nat) (a : E) | meth (f : Nat) (a : E) (es : Es) | make (f : Nat) (es : Es) | lenO (f : Nat) (a : E)
  | met (e : E) | isx (c : Nat) (a : E)
inductive Es where
  | nil | cons (e : E) (es : Es)
inductive Oe where
  | none | some (e : E)
inductive It where
  | val (e : E) | rng1 (a : E) | rng2 (a b : E) | rng3 (a b c : E) | enum (e : E) | zip (a b : E)
end
mutual
inductive S where
  | pass
  | frz (i : Nat)
  | asg (i : Nat) (e : E)
  | asgL (i : Nat) (es : Es)
  | asgC (i : Nat) (a b : E)
  | asgR (i : Nat) (es : Es) (k : E)
  | asgO (i : Nat) (e : E)
  | parA (i j : Nat) (e : E)
  | parB (i j : Nat) (e : E)
  | par (is : List Nat) (es : Es)
  | unp (tg : Tg) (e : E)
  | app (i : Nat) (e : E)
  | setI (i : Nat) (x e : E)
  | setI2 (i : Nat) (x y e f : E)
  | aug (i : Nat) (e : E)
  | ex (e : E)
  | ret (e : E)
  | ifs (c : E) (a b : Ss)
  | fors (tg : Tg) (it : It) (b : Ss)
  | whl (c : E) (b : Ss)
  | raise (c : Nat)
  | fldS (i : Nat) (o e : E)
inductive Ss where
  | nil | cons (s : S) (r : Ss)
end
/-- a def: its parameters' number, the names' number, its body -/
structure Def where
  np : Nat
  nn : Nat
  body : Ss
mutual
def eqv : D → D → Bool
  | .non, .non => true
  | .bl a, .bl b => a == b
  | .bl a, .int j => (if a then 1 else 0) == j
  | .int i, .bl b => i == (if b then 1 else 0)
  | .int i, .int j => i == j
  | .str x, .str y => x == y
  | .lst xs, .lst ys => eqvAll xs ys
  | .tup xs, .tup ys => eqvAll xs ys
  | _, _ => false
def eqvAll : List D → List D → Bool
  | [], [] => true
  | x :: xs, y :: ys => eqv x y && eqvAll xs ys
  | _, _ => false
end
/-- no cell, strings of proper signs, not too deep -/
def shp : Nat → D → Bool
  | _, .non | _, .bl _ | _, .int _ => true
  | _, .str x => PyData.strOk x
  | 0, .tup _ | 0, .lst _ => false
  | n + 1, .tup xs => xs.all (shp n)
  | n + 1, .lst xs => xs.all (shp n)
  | _, .cell _ => false
  | _, .ob => false
  | _, .exc _ => false
def intsD : List D → Option (List Int)
  | [] => some []
  | .int i :: r => (intsD r).map (i :: ·)
  | _ => none
def boolsD : List D → Option (List Bool)
  | [] => some []
  | .bl i :: r => (boolsD r).map (i :: ·)
  | _ => none
def strsD : List D → Option (List Str)
  | [] => some []
  | .str i :: r => (strsD r).map (i :: ·)
  | _ => none
def minL : Int → List Int → Int
  | m, [] => m
  | m, x :: r => minL (if x < m then x else m) r
def maxL : Int → List Int → Int
  | m, [] => m
  | m, x :: r => maxL (if x > m then x else m) r
/-- the bounds of what is multiplied, divided -/
def bigN : Nat := 2 ^ 100000
def divN : Nat := 2 ^ 9000
def mulOk (i j : Int) : Bool := decide (i.natAbs < 2 ^ 64) || decide (j.natAbs < 2 ^ 64) || (decide (i.natAbs < bigN) && decide (j.natAbs < bigN))
def divOk (j : Int) : Bool := decide (j ≠ 0) && decide (j.natAbs < divN)
def sizeN : Nat := 1000000
/-- the place of an index of any sign -/
def ixD (n : Nat) (i : Int) : Option Nat := if 0 ≤ i then (if i < n then some i.toNat else none) else if -(n : Int) ≤ i then some (i + n).toNat else none
/-- where a slice's part lies -/
def partD (n d : Nat) : Option Int → Nat
  | none => d
  | some v => if v < 0 then (v + n).toNat else min v.toNat n
def cutD (xs : List D) (lo hi : Option Int) : List D := (xs.drop (partD xs.length 0 lo)).take (partD xs.length xs.length hi - partD xs.length 0 lo)
section
variable (s : Sto)
def binD (op : Bop) (x y : D) : Res D := match op, x, y with
  | .add, .int i, .int j => .ok (.int (i + j)) s
  | .add, .tup a, .tup b => if a.length + b.length ≤ sizeN then .ok (.tup (a ++ b)) s else .bad
  | .add, .lst a, .lst b => if a.length + b.length ≤ sizeN then .ok (.lst (a ++ b)) s else .bad
  | .add, .str a, .str b => if a.length + b.length ≤ sizeN then .ok (.str (a ++ b)) s else .bad
  | .sub, .int i, .int j => .ok (.int (i - j)) s
  | .mul, .int i, .int j => if mulOk i j then .ok (.int (i * j)) s else .bad
  | .mul, .tup a, .int k => if k ≤ 1000 ∧ -1000 ≤ k ∧ a.length ≤ 1000 ∧ a.isEmpty = false then .ok (.tup (List.replicate k.toNat a).flatten) s else .bad
  | .mul, .str x, .int k => if 2 ≤ k ∧ k ≤ 1000 ∧ x.length ≤ 1000 then .ok (.str (Txt.mul x k)) s else .bad
  | .fdiv, .int i, .int j => if divOk j then .ok (.int (i.fdiv j)) s else .bad
  | .mod, .int i, .int j => if j ≠ 0 then .ok (.int (i.fmod j)) s else .bad
  | .pow, .int i, .int j => if 0 ≤ j ∧ j ≤ 1000 ∧ i.natAbs < 2 ^ 64 then .ok (.int (i ^ j.toNat)) s else .bad
  | _, _, _ => .bad
def repD (ds : List D) (y : D) : Res D := match y with
  | .int k => if k ≤ 1000 ∧ -1000 ≤ k ∧ ds.length ≤ 1000 then .ok (.lst (List.replicate k.toNat ds).flatten) s else .bad
  | _ => .bad
def isNon : D → Bool
  | .non => true
  | _ => false
def cmpD (op : Cop) (x y : D) : Res D := match op with
  | .eq => if shp 30 x && shp 30 y then .ok (.bl (eqv x y)) s else .bad
  | .ne => if shp 30 x && shp 30 y then .ok (.bl (!eqv x y)) s else .bad
  | .isn => if isNon y then .ok (.bl (isNon x)) s else .bad
  | .notn => if isNon y then .ok (.bl (!isNon x)) s else .bad
  | .lt => match x, y with | .int i, .int j => .ok (.bl (decide (i < j))) s | _, _ => .bad
  | .le => match x, y with | .int i, .int j => .ok (.bl (decide (i ≤ j))) s | _, _ => .bad
  | .gt => match x, y with | .int i, .int j => .ok (.bl (decide (j < i))) s | _, _ => .bad
  | .ge => match x, y with | .int i, .int j => .ok (.bl (decide (j ≤ i))) s | _, _ => .bad
  | .nin => match x, y with
    | .str a, .str b => (match a.cps.toList with | [c] => .ok (.bl (!decide (c ∈ b.cps.toList))) s | _ => .bad)
    | _, _ => .bad
  | .inn => match x, y with
    | .str a, .tup ys => (match strsD ys with | some zs => .ok (.bl (zs.any fun z => z == a)) s | none => .bad)
    | _, _ => .bad
def atD (xs : List D) (i : Int) : Res D := match ixD xs.length i with
  | none => .bad
  | some k => match xs[k]? with
    | none => .bad
    | some d => .ok d s
/-- a store's entry that is an object, its fields behind the mark -/
def isOb : List D → Bool
  | .ob :: _ => true
  | _ => false
def cellAt (xs : List D) (i : Int) : Res D := if isOb xs then .bad else atD s xs i
def atS (z : Str) (i : Int) : Res D := match ixD z.cps.toList.length i with
  | none => .bad
  | some k => match z.cps.toList[k]? with
    | none => .bad
    | some c => if z.length ≤ sizeN then .ok (.str ⟨#[c]⟩) s else .bad
def subD (x y : D) : Res D := match x, y with
  | .str z, .int i => atS s z i
  | .tup xs, .int i => atD s xs i
  | .lst xs, .int i => atD s xs i
  | .cell n, .int i => match s[n]? with
    | none => .bad
    | some xs => cellAt s xs i
  | _, _ => .bad
def partsD : Option D → Option (Option Int)
  | none => some none
  | some (.int i) => some (some i)
  | some _ => none
def ofP {a : Type} (o : Option (Option Int)) (f : Option Int → Res a) : Res a := match o with
  | some p => f p
  | none => .bad
def sliceD (x : D) (l h : Option Int) : Res D := match x with
  | .tup xs => .ok (.tup (cutD xs l h)) s
  | .lst xs => .ok (.lst (cutD xs l h)) s
  | .str z => if z.length ≤ sizeN then .ok (.str (L2.cutS z l h)) s else .bad
  | _ => .bad
def revD (x : D) : Res D := match x with
  | .tup xs => .ok (.tup xs.reverse) s
  | _ => .bad
def isTy (t : Ty) (d : D) : Option Bool := match t, d with
  | _, .cell _ => none
  | _, .ob => none
  | _, .exc _ => none
  | .int, .int _ => some true
  | .int, .bl _ => some true
  | .int, _ => some false
  | .bool, .bl _ => some true
  | .bool, _ => some false
  | .tuple, .tup _ => some true
  | .tuple, _ => some false
  | .str, .str _ => some true
  | .str, _ => some false
def ofI (o : Option (List Int)) (f : List Int → Res D) : Res D := match o with
  | some ns => f ns
  | none => .bad
def ofB (o : Option (List Bool)) (f : List Bool → Res D) : Res D := match o with
  | some ns => f ns
  | none => .bad
def biD (b : Bi) (ds : List D) : Res D := match b, ds with
  | .len, [.tup xs] => .ok (.int xs.length) s
  | .len, [.lst xs] => .ok (.int xs.length) s
  | .len, [.str z] => if z.length ≤ sizeN then .ok (.int z.length) s else .bad
  | .str, [.int i] => if i.natAbs.log2 < 1920 then .ok (.str (toString i)) s else .bad
  | .int, [.str z] => (match intText? z with | some n => if z.length ≤ 640 then .ok (.int n) s else .bad | none => .bad)
  | .abs, [.int i] => .ok (.int (if i < 0 then -i else i)) s
  | .min2, [.int i, .int j] => .ok (.int (if j < i then j else i)) s
  | .max2, [.int i, .int j] => .ok (.int (if j > i then j else i)) s
  | .min1, [.lst xs] => ofI (intsD xs) fun ns => match ns with | [] => .bad | x :: r => .ok (.int (minL x r)) s
  | .max1, [.lst xs] => ofI (intsD xs) fun ns => match ns with | [] => .bad | x :: r => .ok (.int (maxL x r)) s
  | .sum, [.lst xs] => ofI (intsD xs) fun ns => .ok (.int ns.sum) s
  | .all, [.lst xs] => ofB (boolsD xs) fun bs => .ok (.bl (bs.all id)) s
  | .any, [.lst xs] => ofB (boolsD xs) fun bs => .ok (.bl (bs.any id)) s
  | .tuple, [.lst xs] => .ok (.tup xs) s
  | .tuple, [.tup xs] => .ok (.tup xs) s
  | .list, [.lst xs] => .ok (.lst xs) s
  | .list, [.tup xs] => .ok (.lst xs) s
  | .sorted, [.lst [.int i, .int j]] => .ok (.lst (if j < i then [.int j, .int i] else [.int i, .int j])) s
  | .int, [.int i] => .ok (.int i) s
  | .int, [.bl b] => .ok (.int (if b then 1 else 0)) s
  | .isi t, [d] => match isTy t d with | some b => .ok (.bl b) s | none => .bad
  | _, _ => .bad
/-- the names of an object's fields -/
def deskFl : List Str := ["now", "earlier", "undone"]
def obOf (x : D) : Option (Nat × List D) := match x with
  | .cell n => (match s[n]? with
    | some (.ob :: fs) => some (n, fs)
    | _ => none)
  | _ => none
def fldD (x : D) (i : Nat) : Res D := match obOf s x with
  | some (_, fs) => (match fs[i]? with | some d => .ok d s | none => .bad)
  | none => .bad
/-- a field is set, the next one perhaps for the first time -/
def putFl (fs : List D) (i : Nat) (d : D) : Option (List D) := if i < fs.length then some (fs.set i d) else if i = fs.length ∧ i < 3 then some (fs ++ [d]) else none
def isTxt : D → Bool
  | .str _ => true
  | _ => false
def m1D (m : Mt) (x y : D) : Res D := match m, x, y with
  | .split, .str a, .str b => if (b.length == 0) = false ∧ a.length + 2 ≤ sizeN then .ok (.lst ((Txt.split a b).map D.str)) s else .bad
  | .join, .str a, .lst ys => (match strsD ys with
    | some zs => if (zs.map (·.length)).sum + zs.length * a.length ≤ sizeN then .ok (.str (Txt.join a zs)) s else .bad
    | none => .bad)
  | _, _, _ => .bad
end
inductive Slot where | no | val (d : D) | own (ds : List D)
abbrev Env := List Slot
def getV (r : Env) (i : Nat) : Option D := match r[i]? with
  | some (.val d) => some d
  | _ => none
def getO (r : Env) (i : Nat) : Option (List D) := match r[i]? with
  | some (.own d) => some d
  | _ => none
def wipeE (r : Env) : List Nat → Env
  | [] => r
  | v :: vs => (wipeE r vs).set v .no
/-- a target takes a value -/
def bindT : Tg → D → Env → Option Env
  | .name i, d, r => some (r.set i (.val d))
  | .tup2 a b, .tup [x, y], r => (bindT a x r).bind (bindT b y)
  | .tup2 a b, .lst [x, y], r => (bindT a x r).bind (bindT b y)
  | .tup3 a b c, .tup [x, y, z], r => ((bindT a x r).bind (bindT b y)).bind (bindT c z)
  | .tup5 a b c d e, .tup [x, y, z, u, v], r => ((((bindT a x r).bind (bindT b y)).bind (bindT c z)).bind (bindT d u)).bind (bindT e v)
  | _, _, _ => none
/-- items of a comprehension, one after another: f gives what is added, if anything -/
def mapR (f : D → Sto → Res (Option D)) : List D → Sto → Res (List D)
  | [], s => .ok [] s
  | x :: xs, s => (f x s).bindN fun o s => (mapR f xs s).bindN fun ys s => .ok (o.toList ++ ys) s
def mapR2 (f : D → Sto → Res (List D)) : List D → Sto → Res (List D)
  | [], s => .ok [] s
  | x :: xs, s => (f x s).bindN fun o s => (mapR2 f xs s).bindN fun ys s => .ok (o ++ ys) s
/-- .. where an item may raise -/
def mapX (f : D → Sto → Res D) : List D → Sto → Res (List D)
  | [], s => .ok [] s
  | x :: xs, s => (f x s).bind fun y s => (mapX f xs s).bind fun ys s => .ok (y :: ys) s
def rngD (lo : Int) (n : Nat) (c : Int) : List D := (List.range n).map fun i => .int (lo + (i : Nat) * c)
def enumD : Nat → List D → List D
  | _, [] => []
  | n, d :: r => .tup [.int n, d] :: enumD (n + 1) r
def zipD : List D → List D → List D
  | x :: xs, y :: ys => .tup [x, y] :: zipD xs ys
  | _, _ => []
def itemsD : D → Option (List D)
  | .tup xs => some xs
  | .lst xs => some xs
  | _ => none
def small (i : Int) : Bool := decide (-1000000 ≤ i) && decide (i ≤ 1000000)
def excName : Nat → Str
  | 0 => "InvalidTable" | 1 => "InvalidRight" | 2 => "InvalidVector" | 3 => "InvalidPlace" | 4 => "InvalidNumber" | 5 => "InvalidRange"
  | 6 => "InvalidText" | 7 => "Singular" | 8 => "NotSymmetric" | 9 => "Unlike" | 10 => "TooLarge" | 11 => "NothingToUndo"
  | _ => "other"
def caught : Res D → Res D
  | .exc c s => if c < 12 then .ok (.tup [.str "error", .str (excName c)]) s else .bad
  | r => r
/-- an exception as a value, None otherwise -/
def metD : Res D → Res D
  | .exc c s => if c < 12 then .ok (.exc c) s else .bad
  | .ok _ s => .ok .non s
  | .bad => .bad
/-- isinstance(e, the class c); 12: ValueError -/
def isxD (s : Sto) (c : Nat) (x : D) : Res D := match x with
  | .exc k => if k < 12 then .ok (.bl (c == 12 || c == k)) s else .bad
  | _ => .bad
/-- what a class answers whose __init__ has answered -/
def makeK (n : Nat) (v : D) (s : Sto) : Res D := if isNon v then .ok (.cell n) s else .bad
def lenI : D → Option Int
  | .int i => if 0 ≤ i ∧ i < 1000000 then some i else none
  | _ => none
/-- what len answers of what __len__ answered -/
def lenK (v : D) (s : Sto) : Res D := match lenI v with
  | some i => .ok (.int i) s
  | none => .bad
section
variable (F : Nat → List D → Sto → Res D)
mutual
def ev : E → Env → Sto → Res D
  | .var i, r, s => match getV r i with | some d => .ok d s | none => .bad
  | .int i, _, s => .ok (.int i) s
  | .bl b, _, s => .ok (.bl b) s
  | .non, _, s => .ok .non s
  | .str x, _, s => .ok (.str x) s
  | .tup es, r, s => (evs es r s).bind fun ds s => .ok (.tup ds) s
  | .lst es, r, s => (evs es r s).bind fun ds s => .ok (.lst ds) s
  | .cel es, r, s => (evs es r s).bind fun ds s => .ok (.cell s.length) (s ++ [ds])
  | .bin op a b, r, s => (ev a r s).bind fun x s => (ev b r s).bind fun y s => binD s op x y
  | .rep es k, r, s => (evs es r s).bind fun ds s => (ev k r s).bind fun y s => repD s ds y
  | .neg a, r, s => (ev a r s).bind fun x s => match x with | .int i => .ok (.int (-i)) s | _ => .bad
  | .not a, r, s => (ev a r s).bind fun x s => match x with | .bl b => .ok (.bl (!b)) s | _ => .bad
  | .cmp op a b, r, s => (ev a r s).bind fun x s => (ev b r s).bind fun y s => cmpD s op x y
  | .chain o1 o2 a b c, r, s => (ev a r s).bind fun x s => (ev b r s).bind fun y s => (cmpD s o1 x y).bind fun k s => match k with
    | .bl true => (ev c r s).bind fun z s => cmpD s o2 y z
    | .bl false => .ok (.bl false) s
    | _ => .bad
  | .and a b, r, s => (ev a r s).bind fun x s => match x with | .bl true => ev b r s | .bl false => .ok (.bl false) s | _ => .bad
  | .or a b, r, s => (ev a r s).bind fun x s => match x with | .bl true => .ok (.bl true) s | .bl false => ev b r s | _ => .bad
  | .ite c a b, r, s => (ev c r s).bind fun x s => match x with | .bl true => ev a r s | .bl false => ev b r s | _ => .bad
  | .sub a i, r, s => (ev a r s).bind fun x s => (ev i r s).bind fun y s => subD s x y
  | .subo i x, r, s => match getO r i with
    | some ds => (ev x r s).bind fun y s => match y with | .int k => atD s ds k | _ => .bad
    | none => .bad
  | .slice a lo hi, r, s => (ev a r s).bind fun x s => (evo lo r s).bind fun l s => ofP (partsD l) fun l => (evo hi r s).bind fun h s => ofP (partsD h) fun h => sliceD s x l h
  | .rev a, r, s => (ev a r s).bind fun x s => revD s x
  | .call f es, r, s => (evs es r s).bind fun ds s => F f ds s
  | .bi b es, r, s => (evs es r s).bind fun ds s => biD s b ds
  | .comp tg it cond elt own, r, s => (evi it r s).bind fun ds s => (mapR (fun d s => match bindT tg d (wipeE r own) with
      | none => .bad
      | some r' => (evo cond r' s).bind fun k s => match k with
        | none => (ev elt r' s).bind fun y s => .ok (some y) s
        | some (.bl true) => (ev elt r' s).bind fun y s => .ok (some y) s
        | some (.bl false) => .ok none s
        | _ => .bad) ds s).bind fun ys s => if ys.length ≤ sizeN then .ok (.lst ys) s else .bad
  | .comp2 tg it tg2 it2 elt own own2, r, s => (evi it r s).bind fun ds s => (mapR2 (fun d s => match bindT tg d (wipeE r own) with
      | none => .bad
      | some r' => (evi it2 r' s).bindN fun ds2 s => mapR (fun d2 s => match bindT tg2 d2 (wipeE r' own2) with
        | none => .bad
        | some r2 => (ev elt r2 s).bind fun y s => .ok (some y) s) ds2 s) ds s).bind fun ys s => if ys.length ≤ sizeN then .ok (.lst ys) s else .bad
  | .told e, r, s => caught (ev e r s)
  | .m1 m a b, r, s => (ev a r s).bind fun x s => if isTxt x then (ev b r s).bind fun y s => m1D s m x y else .bad
  | .compX tg it elt own, r, s => (evi it r s).bind fun ds s => if ds.length ≤ sizeN then (mapX (fun d s => match bindT tg d (wipeE r own) with
      | none => .bad
      | some r' => ev elt r' s) ds s).bind fun ys s => .ok (.lst ys) s else .bad
  | .fld i a, r, s => (ev a r s).bind fun x s => fldD s x i
  | .meth f a es, r, s => (ev a r s).bind fun x s => if (obOf s x).isSome then (evs es r s).bind fun ds s => F f (x :: ds) s else .bad
  | .make f es, r, s => (evs es r s).bind fun ds s => (F f (.cell s.length :: ds) (s ++ [[.ob]])).bind (makeK s.length)
  | .lenO f a, r, s => (ev a r s).bind fun x s => if (obOf s x).isSome then (F f [x] s).bind lenK else .bad
  | .met e, r, s => metD (ev e r s)
  | .isx c a, r, s => (ev a r s).bind fun x s => isxD s c x
def evs : Es → Env → Sto → Res (List D)
  | .nil, _, s => .ok [] s
  | .cons e es, r, s => (ev e r s).bind fun x s => (evs es r s).bind fun xs s => .ok (x :: xs) s
def evo : Oe → Env → Sto → Res (Option D)
  | .none, _, s => .ok none s
  | .some e, r, s => (ev e r s).bind fun x s => .ok (some x) s
def evi : It → Env → Sto → Res (List D)
  | .val e, r, s => (ev e r s).bind fun x s => match itemsD x with | some ds => .ok ds s | none => .bad
  | .rng1 a, r, s => (ev a r s).bind fun x s => match x with | .int n => if small n then .ok (rngD 0 n.toNat 1) s else .bad | _ => .bad
  | .rng2 a b, r, s => (ev a r s).bind fun x s => (ev b r s).bind fun y s => match x, y with | .int i, .int j => if small i && small j then .ok (rngD i (j - i).toNat 1) s else .bad | _, _ => .bad
  | .rng3 a b c, r, s => (ev a r s).bind fun x s => (ev b r s).bind fun y s => (ev c r s).bind fun z s => match x, y, z with
    | .int i, .int j, .int (-1) => if small i && small j then .ok (rngD i (i - j).toNat (-1)) s else .bad
    | _, _, _ => .bad
  | .enum a, r, s => (ev a r s).bind fun x s => match itemsD x with | some ds => .ok (enumD 0 ds) s | none => .bad
  | .zip a b, r, s => (ev a r s).bind fun x s => (ev b r s).bind fun y s => match x, y with | .tup ds, .tup es => .ok (zipD ds es) s | .lst ds, .lst es => .ok (zipD ds es) s | .tup ds, .lst es => .ok (zipD ds es) s | _, _ => .bad
end
inductive Flow where | next (r : Env) | ret (d : D)
def seqR (x : Res Flow) (f : Env → Sto → Res Flow) : Res Flow := match x with
  | .ok (.next r) s => f r s
  | .ok (.ret d) s => .ok (.ret d) s
  | .exc c s => .exc c s
  | .bad => .bad
def forR (f : D → Env → Sto → Res Flow) : List D → Env → Sto → Res Flow
  | [], r, s => .ok (.next r) s
  | d :: ds, r, s => seqR (f d r s) (forR f ds)
def whileR (c : Env → Sto → Res Bool) (f : Env → Sto → Res Flow) : Nat → Env → Sto → Res Flow
  | 0, _, _ => .bad
  | n + 1, r, s => (c r s).bind fun b s => if b then seqR (f r s) (whileR c f n) else .ok (.next r) s
/-- a test: a bool, or an int by its truth -/
def tst (x : Res D) : Res Bool := x.bind fun d s => match d with
  | .bl b => .ok b s
  | .int i => .ok (i != 0) s
  | _ => .bad
def setAll : List Nat → List D → Env → Option Env
  | [], [], r => some r
  | i :: is, d :: ds, r => setAll is ds (r.set i (.val d))
  | _, _, _ => none
/-- x[k] = d where x is a cell or an owned list -/
def putD (r : Env) (s : Sto) (i : Nat) (x d : D) : Res Flow := match x with
  | .int k => match r[i]? with
    | some (.own ds) => match ixD ds.length k with
      | some j => .ok (.next (r.set i (.own (ds.set j d)))) s
      | none => .bad
    | some (.val (.cell n)) => match s[n]? with
      | some ds => if isOb ds then .bad else match ixD ds.length k with
        | some j => .ok (.next r) (s.set n (ds.set j d))
        | none => .bad
      | none => .bad
    | _ => .bad
  | _ => .bad
def slotB (r : Env) (i : Nat) : Bool := match r[i]? with
  | some (.own _) => true
  | some (.val (.cell _)) => true
  | _ => false
/-- x.i = d -/
def fldSK (r : Env) (s : Sto) (i : Nat) (x d : D) : Res Flow := match obOf s x with
  | some (n, fs) => (match putFl fs i d with
    | some fs' => .ok (.next r) (s.set n (.ob :: fs'))
    | none => .bad)
  | none => .bad
variable (W : Nat)
mutual
def exec : S → Env → Sto → Res Flow
  | .pass, r, s => .ok (.next r) s
  | .frz i, r, s => match getO r i with | some ds => .ok (.next (r.set i (.val (.lst ds)))) s | none => .bad
  | .asg i e, r, s => (ev F e r s).bind fun x s => .ok (.next (r.set i (.val x))) s
  | .asgL i es, r, s => (evs F es r s).bind fun ds s => .ok (.next (r.set i (.own ds))) s
  | .asgC i a b, r, s => (ev F a r s).bind fun x s => (ev F b r s).bind fun y s => (binD s .add x y).bind fun z s => match z with | .lst ds => .ok (.next (r.set i (.own ds))) s | _ => .bad
  | .asgR i es k, r, s => (evs F es r s).bind fun ds s => (ev F k r s).bind fun y s => (repD s ds y).bind fun z s => match z with | .lst ds => .ok (.next (r.set i (.own ds))) s | _ => .bad
  | .asgO i e, r, s => (ev F e r s).bind fun x s => match x with | .lst ds => .ok (.next (r.set i (.own ds))) s | _ => .bad
  | .parA i j e, r, s => (ev F e r s).bind fun x s => .ok (.next ((r.set i (.val x)).set j (.own []))) s
  | .parB i j e, r, s => (ev F e r s).bind fun x s => .ok (.next ((r.set i (.own [])).set j (.val x))) s
  | .par is es, r, s => (evs F es r s).bind fun ds s => match setAll is ds r with | some r => .ok (.next r) s | none => .bad
  | .unp tg e, r, s => (ev F e r s).bind fun x s => match bindT tg x r with | some r => .ok (.next r) s | none => .bad
  | .app i e, r, s => match getO r i with | some ds => (ev F e r s).bind fun x s => (if ds.length < sizeN then .ok (.next (r.set i (.own (ds ++ [x])))) s else .bad) | none => .bad
  | .setI i x e, r, s => if slotB r i = false then .bad else (ev F e r s).bind fun d s => (ev F x r s).bind fun k s => putD r s i k d
  | .setI2 i x y e f, r, s => if slotB r i = false then .bad else (ev F e r s).bind fun d s => (ev F f r s).bind fun d2 s => (ev F x r s).bind fun k s => seqR (putD r s i k d) fun r s => (ev F y r s).bind fun k2 s => putD r s i k2 d2
  | .aug i e, r, s => match getV r i with | some (.int a) => (ev F e r s).bind fun y s => (match y with | .int b => .ok (.next (r.set i (.val (.int (a + b))))) s | _ => .bad) | _ => .bad
  | .ex e, r, s => (ev F e r s).bind fun _ s => .ok (.next r) s
  | .ret e, r, s => (ev F e r s).bind fun x s => .ok (.ret x) s
  | .ifs c a b, r, s => (tst (ev F c r s)).bind fun k s => if k then execs a r s else execs b r s
  | .fors tg it b, r, s => (evi F it r s).bind fun ds s => forR (fun d r s => match bindT tg d r with | some r => execs b r s | none => .bad) ds r s
  | .whl c b, r, s => whileR (fun r s => tst (ev F c r s)) (fun r s => execs b r s) W r s
  | .raise c, _, s => .exc c s
  | .fldS i o e, r, s => (ev F e r s).bind fun d s => (ev F o r s).bind fun x s => fldSK r s i x d
def execs : Ss → Env → Sto → Res Flow
  | .nil, r, s => .ok (.next r) s
  | .cons st rest, r, s => seqR (exec st r s) (fun r s => execs rest r s)
end
/-- a def's body at its arguments -/
def body (d : Def) (ds : List D) (s : Sto) : Res D :=
  if ds.length = d.np then (match execs F W d.body (ds.map .val ++ List.replicate (d.nn - d.np) .no) s with
    | .ok (.next _) s => .ok .non s
    | .ok (.ret x) s => .ok x s
    | .exc c s => .exc c s
    | .bad => .bad) else .bad
end
/-- the defs of a program, called at most n deep -/
def run (P : Nat → Option Def) (W : Nat) : Nat → Nat → List D → Sto → Res D
  | 0, _, _, _ => .bad
  | n + 1, f, ds, s => match P f with
    | some d => body (run P W n) W d ds s
    | none => .bad
end Rt
namespace Rt
open PySem PySem.Spec PyProof.Rows L2
def bltNames : List Str := ["len", "abs", "min", "max", "sum", "all", "any", "tuple", "list", "sorted", "int", "str", "isinstance", "bool", "range", "enumerate", "zip"]
/-- the numbers of methods -/
def isM (f : Nat) : Bool := decide (200 ≤ f)
/-- a def of the text with its core form -/
structure Ent where
  id : Nat
  name : Str
  ps : List Str
  N : List Str
  d : Def
  st : Stmt
  td : Bool
  qual : Str
  at_ : Str × Option Str
def exnOf (cs : List Nat) (c : Nat) : Option Str := if cs.contains c then some (excName c) else none
/-- the facts of the class -/
def faO (es : List Ent) : List He.Fa := [.glo "Desk", .cls "Desk", .mkr "Desk"] ++ (deskFl.map (fun f => .noat "Desk" f) ++ (es.filter fun e => isM e.id).map fun e => .meth "Desk" e.name)
def faOf (es : List Ent) (cs : List Nat) : List He.Fa := (es.filter fun e => !isM e.id).map (fun e => .glo e.name) ++ (bltNames.map .free ++ (cs.map (fun c => .glo (excName c)) ++ (cs.map (fun c => .exc (excName c)) ++ faO es)))
def fnOfE (e : Ent) : He.DefD := ⟨e.at_, e.name, e.qual, defArgs e.st, defBody e.st, defScope e.st, [], []⟩
def fnsOf (es : List Ent) : List He.DefD := es.map fnOfE
def all12 : List Nat := [0, 1, 2, 3, 4, 5, 6, 7, 8, 9, 10, 11]
def caOf (K : PySem.W.Frag) (c : Nat) : Addr := He.ga K (excName c)
def excB (K : PySem.W.Frag) (D : Addr) : Bool := He.eqO (PySem.W.findIn K (.ref D) "__getattribute__") (some (some (.builtin "BaseException.__getattribute__"))) && (He.eqO (PySem.W.findIn K (.ref D) "__getattr__") (some none) &&
  (decide (PySem.W.subIn K (.ref D) (.type "BaseException") = some true) && (PySem.W.hasDictIn K D && (He.eqO (PySem.W.findIn K (.ref D) "__class__") (some (some (.builtin "object.__class__"))) &&
  (He.eqO (PySem.W.specialIn K (.builtin "object.__class__") "__get__") (some (some (.builtin "getset_descriptor.__get__"))) && (decide (PySem.W.takesIn K (.builtin "object.__class__") = some true) && decide (PySem.W.mroIn K D (.type "object") = some true)))))))
def oneB (K : PySem.W.Frag) (n : Nat) : Bool := excB K (caOf K n) && (decide (PySem.W.kitOne K (.ref (caOf K n)) (.type "ValueError") = some true) && (decide (PySem.W.exmOne K (.ref (caOf K n)) (.ref (He.ga K "RangeError")) = some true) &&
  (List.range 12).all fun i => decide (PySem.W.kitOne K (.ref (caOf K n)) (.ref (caOf K i)) = some (decide (i = n)))))
def exK (K : PySem.W.Frag) : Bool := (List.range 12).all (oneB K)
/-- no two defs that tell share a table -/
def ndB (tds : List Ent) (K : PySem.W.Frag) : Bool := decide ((tds.map fun e => (He.cT K e.at_).2).Nodup)
def moreO (tds : List Ent) (K : PySem.W.Frag) : Bool := exK K && ndB tds K
def tdsOf (es : List Ent) (e : Ent) : List Ent := e :: es.filter (·.td)
def entT (x : Str) (st : Stmt) : He.DefD := ⟨(x, none), x, x, defArgs st, defBody st, defScope st, [], []⟩
def faT (es : List Ent) (nm : Str) : List He.Fa := [.glo nm, .glo "_law_met", .glo "RangeError", .free "ValueError"] ++ faOf es all12
def fnT (es : List Ent) (e : Ent) (t1 : Stmt) : List He.DefD := [fnOfE e, entT "_law_met" t1] ++ fnsOf es
def kidsA (o : Obj) : List Addr := match o.data with
  | .func fd => He.refV fd.code
  | .cls cd => [cd.ns]
  | .dict es _ => es.toList.flatMap fun e => He.refV e.val
  | _ => []
def stepA (g : Addr → Option Obj) (as : List Addr) : List Addr := as.flatMap fun a => match g a with
  | some o => kidsA o
  | none => []
def asA (g : Addr → Option Obj) : List Addr := mainGlobals :: (stepA g [mainGlobals] ++ (stepA g (stepA g [mainGlobals]) ++ (stepA g (stepA g (stepA g [mainGlobals])) ++ stepA g (stepA g (stepA g (stepA g [mainGlobals]))))))
def obsA (fa : List He.Fa) (fn : List He.DefD) (tf : List He.Defn) (ex : PySem.W.Frag → Bool) (g : Addr → Option Obj) : He.AlX := (He.obsT fa fn [] (He.frT g (asA g)), ex (He.frT g (asA g)) && He.tabsB g tf (He.frT g (asA g)))
theorem tabs_all {g : Addr → Option Obj} {as : List Addr} {tf : List He.Defn} (h : He.tabsB g tf (He.frT g as) = true) {p : He.Defn} (hp : p ∈ tf) : PySem.W.codeHdIn (He.frT g as) (He.cT (He.frT g as) p).1 (He.cT (He.frT g as) p).2 = true ∧ (He.frT g as).lookup (He.cT (He.frT g as) p).2 = none ∧ g (He.cT (He.frT g as) p).2 = some { cls := .none, data := .fields #[] } := by
  obtain ⟨h1, h2⟩ := He.ba (List.all_eq_true.mp h p hp)
  split at h2
  · next o q => exact ⟨h1, He.frT_none q h2, by rw [q, He.emptyTab_eq h2]⟩
  · cases h2
/-- as He.hookX, over the smaller part -/
def hookA (fa : List He.Fa) (fn : List He.DefD) (tf : List He.Defn) (ex : PySem.W.Frag → Bool) : PySem.W.Hook where
  α := He.AlX
  obs := fun s => obsA fa fn tf ex s.heap.get?
  val := fun w => He.valX fn [] w
  says := (He.hookX 4 fa fn [] tf ex).says
  of := fun w s e => ⟨He.frT s.heap.get? (asA s.heap.get?), He.frT_in, by
    have e1 := congrArg Prod.fst e
    have e2 := congrArg Prod.snd e
    obtain ⟨e3, e4⟩ := He.ba (show (ex (He.frT s.heap.get? (asA s.heap.get?)) && He.tabsB s.heap.get? tf (He.frT s.heap.get? (asA s.heap.get?))) = true from e2)
    exact ⟨e1, e3, fun p hp => (tabs_all e4 hp).1, fun p hp => (tabs_all e4 hp).2.1, fun p hp => (tabs_all e4 hp).2.2⟩⟩
  keeps := (He.hookX 4 fa fn [] tf ex).keeps
theorem obsA_eq {fa : List He.Fa} {fn : List He.DefD} {tf : List He.Defn} {ex : PySem.W.Frag → Bool} {g : Addr → Option Obj} {s : Shared} (h : ∀ a, g a = s.heap.get? a) : obsA fa fn tf ex g = (hookA fa fn tf ex).obs s := by
  obtain rfl : g = s.heap.get? := funext h
  rfl
end Rt
namespace Rt
open PySem
def c_is_number : Def := ⟨1, 1, (.cons (.ret (.and (.bi (.isi .int) (.cons (.var 0) .nil)) (.not (.bi (.isi .bool) (.cons (.var 0) .nil))))) .nil)⟩
def c_is_whole : Def := ⟨3, 3, (.cons (.ret (.and (.call 1 (.cons (.var 0) .nil)) (.chain .le .le (.var 1) (.var 0) (.var 2)))) .nil)⟩
def c_is_range : Def := ⟨1, 2, (.cons (.ifs (.or (.not (.bi (.isi .tuple) (.cons (.var 0) .nil))) (.or (.cmp .ne (.bi .len (.cons (.var 0) .nil)) (.int 2)) (.not (.bi .all (.cons (.comp (.name 1) (.val (.var 0)) .none (.call 2 (.cons (.var 1) (.cons (.neg (.int 9)) (.cons (.int 9) .nil)))) [1]) .nil))))) (.cons (.ret (.bl false)) .nil) .nil) (.cons (.ret (.cmp .le (.sub (.var 0) (.int 0)) (.sub (.var 0) (.int 1)))) .nil))⟩
def c_is_row : Def := ⟨2, 3, (.cons (.ret (.and (.bi (.isi .tuple) (.cons (.var 0) .nil)) (.and (.cmp .eq (.bi .len (.cons (.var 0) .nil)) (.var 1)) (.bi .all (.cons (.comp (.name 2) (.val (.var 0)) .none (.call 3 (.cons (.var 2) .nil)) [2]) .nil))))) .nil)⟩
def c_is_table : Def := ⟨1, 2, (.cons (.ifs (.or (.not (.bi (.isi .tuple) (.cons (.var 0) .nil))) (.not (.chain .le .le (.int 1) (.bi .len (.cons (.var 0) .nil)) (.int 3)))) (.cons (.ret (.bl false)) .nil) .nil) (.cons (.ret (.bi .all (.cons (.comp (.name 1) (.val (.var 0)) .none (.call 4 (.cons (.var 1) (.cons (.bi .len (.cons (.var 0) .nil)) .nil))) [1]) .nil))) .nil))⟩
def c_need_table : Def := ⟨1, 1, (.cons (.ifs (.not (.call 5 (.cons (.var 0) .nil))) (.cons (.raise 0) .nil) .nil) .nil)⟩
def c_need_alike : Def := ⟨2, 2, (.cons (.ifs (.cmp .ne (.bi .len (.cons (.var 0) .nil)) (.bi .len (.cons (.var 1) .nil))) (.cons (.raise 9) .nil) .nil) .nil)⟩
def c_law_cell : Def := ⟨2, 2, (.cons (.ifs (.cmp .eq (.var 0) (.lst .nil)) (.cons (.ret (.bin .mul (.var 1) (.int 7919))) .nil) .nil) (.cons (.ret (.bin .add (.sub (.var 0) (.bin .mod (.var 1) (.bi .len (.cons (.var 0) .nil)))) (.bin .mul (.bin .fdiv (.var 1) (.bi .len (.cons (.var 0) .nil))) (.int 104729)))) .nil))⟩
def c_law_drawn : Def := ⟨2, 3, (.cons (.asg 2 (.bin .mod (.bin .add (.bin .mul (.var 0) (.int 6364136223846793005)) (.bin .mul (.bin .add (.var 1) (.int 1)) (.int 1442695040888963407))) (.int 340282366920938463463374607431768211507))) (.cons (.asg 2 (.bin .mod (.bin .mul (.var 2) (.var 2)) (.int 340282366920938463463374607431768211297))) (.cons (.asg 2 (.bin .mul (.bin .mul (.bin .add (.bin .mod (.var 2) (.int 18446744073709551557)) (.int 1)) (.bin .add (.bin .fdiv (.var 2) (.int 18446744073709551557)) (.int 1))) (.var 2))) (.cons (.ret (.bin .mod (.var 2) (.int 340282366920938463463374607431768211507))) .nil))))⟩
def c_law_roll : Def := ⟨2, 3, (.cons (.ifs (.cmp .ge (.sub (.var 0) (.int 0)) (.bin .pow (.int 10) (.int 18))) (.cons (.asg 2 (.bin .mod (.sub (.var 0) (.int 0)) (.var 1))) (.cons (.setI 0 (.int 0) (.bin .fdiv (.sub (.var 0) (.int 0)) (.var 1))) (.cons (.ret (.var 2)) .nil))) .nil) (.cons (.setI 0 (.int 1) (.bin .add (.sub (.var 0) (.int 1)) (.int 1))) (.cons (.ret (.bin .mod (.bin .fdiv (.call 11 (.cons (.sub (.var 0) (.int 0)) (.cons (.sub (.var 0) (.int 1)) .nil))) (.int 8)) (.var 1))) .nil)))⟩
def c_law_rounds : Def := ⟨2, 3, (.cons (.ret (.comp (.name 2) (.rng1 (.bi .max2 (.cons (.int 1) (.cons (.bi .min2 (.cons (.var 1) (.cons (.bi .len (.cons (.var 0) .nil)) .nil))) .nil)))) .none (.cel (.cons (.call 10 (.cons (.var 0) (.cons (.var 2) .nil))) (.cons (.int 0) .nil))) [2])) .nil)⟩
def c_divisor : Def := ⟨2, 2, (.cons (.par [0, 1] (.cons (.bi .abs (.cons (.var 0) .nil)) (.cons (.bi .abs (.cons (.var 1) .nil)) .nil))) (.cons (.whl (.var 1) (.cons (.par [0, 1] (.cons (.var 1) (.cons (.bin .mod (.var 0) (.var 1)) .nil))) .nil)) (.cons (.ret (.var 0)) .nil)))⟩
def c_is_fraction : Def := ⟨1, 2, (.cons (.ifs (.or (.not (.bi (.isi .tuple) (.cons (.var 0) .nil))) (.or (.cmp .ne (.bi .len (.cons (.var 0) .nil)) (.int 2)) (.not (.bi .all (.cons (.comp (.name 1) (.val (.var 0)) .none (.call 1 (.cons (.var 1) .nil)) [1]) .nil))))) (.cons (.ret (.bl false)) .nil) .nil) (.cons (.ifs (.or (.not (.chain .lt .lt (.int 0) (.sub (.var 0) (.int 1)) (.bin .pow (.int 10) (.int 60)))) (.not (.chain .lt .lt (.neg (.bin .pow (.int 10) (.int 60))) (.sub (.var 0) (.int 0)) (.bin .pow (.int 10) (.int 60))))) (.cons (.ret (.bl false)) .nil) .nil) (.cons (.ret (.cmp .eq (.call 20 (.cons (.sub (.var 0) (.int 0)) (.cons (.sub (.var 0) (.int 1)) .nil))) (.int 1))) .nil)))⟩
def c_rows_of : Def := ⟨1, 6, (.cons (.asg 1 (.lst (.cons (.tup .nil) .nil))) (.cons (.fors (.tup2 (.name 2) (.name 3)) (.val (.var 0)) (.cons (.asg 4 (.lst .nil)) (.cons (.fors (.name 5) (.val (.var 1)) (.cons (.asg 4 (.bin .add (.var 4) (.ite (.cmp .eq (.var 2) (.var 3)) (.lst (.cons (.bin .add (.var 5) (.tup (.cons (.var 2) .nil))) .nil)) (.lst (.cons (.bin .add (.var 5) (.tup (.cons (.var 2) .nil))) (.cons (.bin .add (.var 5) (.tup (.cons (.var 3) .nil))) .nil)))))) .nil)) (.cons (.asg 1 (.var 4)) .nil)))) (.cons (.ret (.var 1)) .nil)))⟩
def c_corners_of : Def := ⟨1, 6, (.cons (.asg 1 (.lst (.cons (.tup .nil) .nil))) (.cons (.fors (.name 2) (.val (.var 0)) (.cons (.asg 3 (.lst .nil)) (.cons (.fors (.name 4) (.val (.var 1)) (.cons (.asg 3 (.bin .add (.var 3) (.comp (.name 5) (.val (.call 33 (.cons (.var 2) .nil))) .none (.bin .add (.var 4) (.tup (.cons (.var 5) .nil))) [5]))) .nil)) (.cons (.asg 1 (.var 3)) .nil)))) (.cons (.ret (.var 1)) .nil)))⟩
def c_minor : Def := ⟨3, 7, (.cons (.ret (.comp (.tup2 (.name 3) (.name 4)) (.enum (.var 0)) (.some (.cmp .ne (.var 3) (.var 1))) (.comp (.tup2 (.name 5) (.name 6)) (.enum (.var 4)) (.some (.cmp .ne (.var 5) (.var 2))) (.var 6) [5, 6]) [3, 4])) .nil)⟩
def c_determinant_of : Def := ⟨1, 4, (.cons (.ifs (.cmp .eq (.bi .len (.cons (.var 0) .nil)) (.int 0)) (.cons (.ret (.int 1)) .nil) .nil) (.cons (.ifs (.cmp .eq (.bi .len (.cons (.var 0) .nil)) (.int 1)) (.cons (.ret (.sub (.sub (.var 0) (.int 0)) (.int 0))) .nil) .nil) (.cons (.asg 1 (.int 0)) (.cons (.fors (.tup2 (.name 2) (.name 3)) (.enum (.sub (.var 0) (.int 0))) (.cons (.aug 1 (.bin .mul (.bin .mul (.sub (.tup (.cons (.int 1) (.cons (.neg (.int 1)) (.cons (.int 1) .nil)))) (.var 2)) (.var 3)) (.call 36 (.cons (.call 35 (.cons (.var 0) (.cons (.int 0) (.cons (.var 2) .nil)))) .nil)))) .nil)) (.cons (.ret (.var 1)) .nil)))))⟩
def c_with_values : Def := ⟨1, 2, (.cons (.ret (.comp (.name 1) (.val (.call 34 (.cons (.var 0) .nil))) .none (.tup (.cons (.call 36 (.cons (.var 1) .nil)) (.cons (.var 1) .nil))) [1])) .nil)⟩
def c_ends_of : Def := ⟨1, 4, (.cons (.asg 1 (.comp (.tup2 (.name 2) (.name 3)) (.val (.call 37 (.cons (.var 0) .nil))) .none (.var 2) [2, 3])) (.cons (.ret (.tup (.cons (.bi .min1 (.cons (.var 1) .nil)) (.cons (.bi .max1 (.cons (.var 1) .nil)) .nil)))) .nil))⟩
def c_lowest : Def := ⟨2, 3, (.cons (.asg 2 (.ite (.cmp .gt (.var 1) (.int 0)) (.call 20 (.cons (.var 0) (.cons (.var 1) .nil))) (.neg (.call 20 (.cons (.var 0) (.cons (.var 1) .nil)))))) (.cons (.ret (.tup (.cons (.bin .fdiv (.var 0) (.var 2)) (.cons (.bin .fdiv (.var 1) (.var 2)) .nil)))) .nil))⟩
def c_is_short : Def := ⟨1, 1, (.cons (.ret (.and (.call 21 (.cons (.var 0) .nil)) (.and (.cmp .le (.sub (.var 0) (.int 1)) (.bin .pow (.int 10) (.int 6))) (.cmp .le (.bi .abs (.cons (.sub (.var 0) (.int 0)) .nil)) (.bin .pow (.int 10) (.int 6)))))) .nil)⟩
def c_as_member : Def := ⟨1, 3, (.cons (.ret (.bi .tuple (.cons (.comp (.name 1) (.val (.var 0)) .none (.bi .tuple (.cons (.comp (.name 2) (.val (.var 1)) .none (.tup (.cons (.var 2) (.cons (.int 1) .nil))) [2]) .nil)) [1]) .nil))) .nil)⟩
def c_put : Def := ⟨4, 5, (.cons (.asg 4 (.bin .add (.bin .add (.slice (.sub (.var 0) (.var 1)) .none (.some (.var 2))) (.tup (.cons (.var 3) .nil))) (.slice (.sub (.var 0) (.var 1)) (.some (.bin .add (.var 2) (.int 1))) .none))) (.cons (.ret (.bin .add (.bin .add (.slice (.var 0) .none (.some (.var 1))) (.tup (.cons (.var 4) .nil))) (.slice (.var 0) (.some (.bin .add (.var 1) (.int 1))) .none))) .nil))⟩
def c_signed : Def := ⟨3, 4, (.cons (.asg 3 (.call 36 (.cons (.call 35 (.cons (.var 0) (.cons (.var 1) (.cons (.var 2) .nil)))) .nil))) (.cons (.ret (.ite (.cmp .eq (.bin .mod (.bin .add (.var 1) (.var 2)) (.int 2)) (.int 0)) (.var 3) (.neg (.var 3)))) .nil))⟩
def c_are_invertible : Def := ⟨1, 3, (.cons (.unp (.tup2 (.name 1) (.name 2)) (.call 38 (.cons (.var 0) .nil))) (.cons (.ret (.or (.cmp .gt (.var 1) (.int 0)) (.cmp .lt (.var 2) (.int 0)))) .nil))⟩
def c_need_place : Def := ⟨2, 2, (.cons (.ifs (.not (.call 2 (.cons (.var 1) (.cons (.int 0) (.cons (.bin .sub (.bi .len (.cons (.var 0) .nil)) (.int 1)) .nil))))) (.cons (.raise 3) .nil) .nil) .nil)⟩
def c_need_invertible : Def := ⟨1, 1, (.cons (.ifs (.not (.call 56 (.cons (.var 0) .nil))) (.cons (.raise 7) .nil) .nil) .nil)⟩
def c_inverse_values : Def := ⟨3, 5, (.cons (.ret (.comp (.tup2 (.name 3) (.name 4)) (.val (.call 37 (.cons (.var 0) .nil))) .none (.tup (.cons (.call 48 (.cons (.call 55 (.cons (.var 4) (.cons (.var 2) (.cons (.var 1) .nil)))) (.cons (.var 3) .nil))) (.cons (.var 4) .nil))) [3, 4])) .nil)⟩
def c_is_less : Def := ⟨2, 2, (.cons (.ret (.cmp .lt (.bin .mul (.sub (.var 0) (.int 0)) (.sub (.var 1) (.int 1))) (.bin .mul (.sub (.var 1) (.int 0)) (.sub (.var 0) (.int 1))))) .nil)⟩
def c_best_pair : Def := ⟨2, 4, (.cons (.asg 2 (.sub (.var 0) (.int 0))) (.cons (.fors (.name 3) (.val (.slice (.var 0) (.some (.int 1)) .none)) (.cons (.ifs (.ite (.cmp .gt (.var 1) (.int 0)) (.call 72 (.cons (.sub (.var 2) (.int 0)) (.cons (.sub (.var 3) (.int 0)) .nil))) (.call 72 (.cons (.sub (.var 3) (.int 0)) (.cons (.sub (.var 2) (.int 0)) .nil)))) (.cons (.asg 2 (.var 3)) .nil) .nil) .nil)) (.cons (.ret (.var 2)) .nil)))⟩
def c_need_inverse : Def := ⟨3, 3, (.cons (.ex (.call 6 (.cons (.var 0) .nil))) (.cons (.ex (.call 69 (.cons (.var 0) (.cons (.var 1) .nil)))) (.cons (.ex (.call 69 (.cons (.var 0) (.cons (.var 2) .nil)))) (.cons (.ex (.call 70 (.cons (.var 0) .nil))) .nil))))⟩
def c_inverse_range : Def := ⟨3, 4, (.cons (.ex (.call 74 (.cons (.var 0) (.cons (.var 1) (.cons (.var 2) .nil))))) (.cons (.asg 3 (.call 71 (.cons (.var 0) (.cons (.var 1) (.cons (.var 2) .nil))))) (.cons (.ret (.tup (.cons (.sub (.call 73 (.cons (.var 3) (.cons (.neg (.int 1)) .nil))) (.int 0)) (.cons (.sub (.call 73 (.cons (.var 3) (.cons (.int 1) .nil))) (.int 0)) .nil)))) .nil)))⟩
def c_inverse_corner : Def := ⟨3, 3, (.cons (.ex (.call 74 (.cons (.var 0) (.cons (.var 1) (.cons (.var 2) .nil))))) (.cons (.ret (.sub (.call 73 (.cons (.call 71 (.cons (.var 0) (.cons (.var 1) (.cons (.var 2) .nil)))) (.cons (.int 1) .nil))) (.int 1))) .nil))⟩
def c_widened : Def := ⟨2, 5, (.cons (.ret (.bi .tuple (.cons (.comp (.name 2) (.val (.var 0)) .none (.bi .tuple (.cons (.comp (.tup2 (.name 3) (.name 4)) (.val (.var 2)) .none (.tup (.cons (.bin .sub (.var 3) (.var 1)) (.cons (.bin .add (.var 4) (.var 1)) .nil))) [3, 4]) .nil)) [2]) .nil))) .nil)⟩
def c_margin : Def := ⟨1, 2, (.cons (.ex (.call 6 (.cons (.var 0) .nil))) (.cons (.ifs (.not (.call 56 (.cons (.var 0) .nil))) (.cons (.ret .non) .nil) .nil) (.cons (.asg 1 (.int 0)) (.cons (.whl (.call 56 (.cons (.call 80 (.cons (.var 0) (.cons (.bin .add (.var 1) (.int 1)) .nil))) .nil)) (.cons (.aug 1 (.int 1)) .nil)) (.cons (.ret (.var 1)) .nil)))))⟩
def c_need_right : Def := ⟨2, 2, (.cons (.ifs (.not (.call 4 (.cons (.var 1) (.cons (.bi .len (.cons (.var 0) .nil)) .nil)))) (.cons (.raise 1) .nil) .nil) .nil)⟩
def c_unknown : Def := ⟨4, 6, (.cons (.ret (.call 48 (.cons (.bi .sum (.cons (.comp (.tup2 (.name 4) (.name 5)) (.enum (.var 2)) .none (.bin .mul (.call 55 (.cons (.var 0) (.cons (.var 4) (.cons (.var 3) .nil)))) (.var 5)) [4, 5]) .nil)) (.cons (.var 1) .nil)))) .nil)⟩
def c_best_side : Def := ⟨5, 9, (.cons (.asgL 5 .nil) (.cons (.fors (.tup2 (.name 6) (.name 7)) (.enum (.var 2)) (.cons (.asg 8 (.bin .mul (.bin .mul (.call 55 (.cons (.var 0) (.cons (.var 6) (.cons (.var 3) .nil)))) (.var 1)) (.var 4))) (.cons (.app 5 (.ite (.cmp .gt (.var 8) (.int 0)) (.sub (.var 7) (.int 1)) (.sub (.var 7) (.int 0)))) .nil))) (.cons (.frz 5) (.cons (.ret (.bi .tuple (.cons (.var 5) .nil))) .nil))))⟩
def c_extremes : Def := ⟨4, 7, (.cons (.asgL 4 .nil) (.cons (.fors (.tup2 (.name 5) (.name 6)) (.val (.call 37 (.cons (.var 0) .nil))) (.cons (.app 4 (.tup (.cons (.call 85 (.cons (.var 6) (.cons (.var 5) (.cons (.call 86 (.cons (.var 6) (.cons (.var 5) (.cons (.var 1) (.cons (.var 2) (.cons (.var 3) .nil)))))) (.cons (.var 2) .nil))))) (.cons (.var 6) .nil)))) .nil)) (.cons (.frz 4) (.cons (.ret (.var 4)) .nil))))⟩
def c_need_system : Def := ⟨3, 3, (.cons (.ex (.call 6 (.cons (.var 0) .nil))) (.cons (.ex (.call 84 (.cons (.var 0) (.cons (.var 1) .nil)))) (.cons (.ex (.call 69 (.cons (.var 0) (.cons (.var 2) .nil)))) (.cons (.ex (.call 70 (.cons (.var 0) .nil))) .nil))))⟩
def c_solution_range : Def := ⟨3, 4, (.cons (.ex (.call 88 (.cons (.var 0) (.cons (.var 1) (.cons (.var 2) .nil))))) (.cons (.asg 3 (.sub (.call 73 (.cons (.call 87 (.cons (.var 0) (.cons (.var 1) (.cons (.var 2) (.cons (.neg (.int 1)) .nil))))) (.cons (.neg (.int 1)) .nil))) (.int 0))) (.cons (.ret (.tup (.cons (.var 3) (.cons (.sub (.call 73 (.cons (.call 87 (.cons (.var 0) (.cons (.var 1) (.cons (.var 2) (.cons (.int 1) .nil))))) (.cons (.int 1) .nil))) (.int 0)) .nil)))) .nil)))⟩
def c_need_vector : Def := ⟨2, 3, (.cons (.ifs (.or (.not (.bi (.isi .tuple) (.cons (.var 1) .nil))) (.or (.cmp .ne (.bi .len (.cons (.var 1) .nil)) (.bi .len (.cons (.var 0) .nil))) (.not (.bi .all (.cons (.comp (.name 2) (.val (.var 1)) .none (.call 49 (.cons (.var 2) .nil)) [2]) .nil))))) (.cons (.raise 2) .nil) .nil) .nil)⟩
def c_sum_of : Def := ⟨2, 6, (.cons (.asg 2 (.int 1)) (.cons (.fors (.name 3) (.val (.bin .add (.bi .list (.cons (.var 0) .nil)) (.bi .list (.cons (.var 1) .nil)))) (.cons (.asg 2 (.bin .mul (.var 2) (.sub (.var 3) (.int 1)))) .nil)) (.cons (.asg 4 (.int 0)) (.cons (.fors (.tup2 (.name 5) (.name 3)) (.enum (.var 0)) (.cons (.aug 4 (.bin .mul (.bin .mul (.sub (.var 3) (.int 0)) (.sub (.sub (.var 1) (.var 5)) (.int 0))) (.bin .fdiv (.var 2) (.bin .mul (.sub (.var 3) (.int 1)) (.sub (.sub (.var 1) (.var 5)) (.int 1)))))) .nil)) (.cons (.ret (.call 48 (.cons (.var 4) (.cons (.var 2) .nil)))) .nil)))))⟩
def c_end_of : Def := ⟨3, 7, (.cons (.asgL 3 .nil) (.cons (.fors (.tup2 (.name 4) (.name 5)) (.enum (.var 0)) (.cons (.asg 6 (.cmp .eq (.cmp .gt (.sub (.sub (.var 1) (.var 4)) (.int 0)) (.int 0)) (.var 2))) (.cons (.app 3 (.ite (.var 6) (.tup (.cons (.sub (.var 5) (.int 1)) (.cons (.int 1) .nil))) (.tup (.cons (.sub (.var 5) (.int 0)) (.cons (.int 1) .nil))))) .nil))) (.cons (.frz 3) (.cons (.ret (.var 3)) .nil))))⟩
def c_meets : Def := ⟨3, 5, (.cons (.par [3, 4] (.cons (.call 95 (.cons (.call 96 (.cons (.var 0) (.cons (.var 1) (.cons (.bl false) .nil)))) (.cons (.var 1) .nil))) (.cons (.call 95 (.cons (.call 96 (.cons (.var 0) (.cons (.var 1) (.cons (.bl true) .nil)))) (.cons (.var 1) .nil))) .nil))) (.cons (.ret (.and (.cmp .le (.sub (.var 3) (.int 0)) (.bin .mul (.sub (.var 2) (.int 1)) (.sub (.var 3) (.int 1)))) (.cmp .ge (.sub (.var 4) (.int 0)) (.bin .mul (.sub (.var 2) (.int 0)) (.sub (.var 4) (.int 1)))))) .nil))⟩
def c_need_all : Def := ⟨3, 3, (.cons (.ex (.call 6 (.cons (.var 0) .nil))) (.cons (.ex (.call 84 (.cons (.var 0) (.cons (.var 1) .nil)))) (.cons (.ex (.call 94 (.cons (.var 0) (.cons (.var 2) .nil)))) .nil)))⟩
def c_excluding : Def := ⟨3, 5, (.cons (.fors (.tup2 (.name 3) (.name 4)) (.enum (.var 0)) (.cons (.ifs (.not (.call 97 (.cons (.var 4) (.cons (.var 2) (.cons (.sub (.var 1) (.var 3)) .nil))))) (.cons (.ret (.var 3)) .nil) .nil) .nil)) (.cons (.ret .non) .nil))⟩
def c_between : Def := ⟨3, 5, (.cons (.asg 3 (.call 48 (.cons (.bin .sub (.bin .mul (.sub (.var 1) (.int 0)) (.sub (.var 0) (.int 1))) (.bin .mul (.sub (.var 0) (.int 0)) (.sub (.var 1) (.int 1)))) (.cons (.bin .mul (.sub (.var 0) (.int 1)) (.sub (.var 1) (.int 1))) .nil)))) (.cons (.asg 4 (.call 48 (.cons (.bin .mul (.sub (.var 3) (.int 0)) (.sub (.var 2) (.int 0))) (.cons (.bin .mul (.sub (.var 3) (.int 1)) (.sub (.var 2) (.int 1))) .nil)))) (.cons (.ret (.call 48 (.cons (.bin .add (.bin .mul (.sub (.var 0) (.int 0)) (.sub (.var 4) (.int 1))) (.bin .mul (.sub (.var 4) (.int 0)) (.sub (.var 0) (.int 1)))) (.cons (.bin .mul (.sub (.var 0) (.int 1)) (.sub (.var 4) (.int 1))) .nil)))) .nil)))⟩
def c_row_for : Def := ⟨3, 10, (.cons (.unp (.tup2 (.name 3) (.name 4)) (.tup (.cons (.call 96 (.cons (.var 0) (.cons (.var 1) (.cons (.bl false) .nil)))) (.cons (.call 96 (.cons (.var 0) (.cons (.var 1) (.cons (.bl true) .nil)))) .nil)))) (.cons (.par [5, 6] (.cons (.call 95 (.cons (.var 3) (.cons (.var 1) .nil))) (.cons (.call 95 (.cons (.var 4) (.cons (.var 1) .nil))) .nil))) (.cons (.ifs (.cmp .ge (.sub (.var 5) (.int 0)) (.bin .mul (.sub (.var 2) (.int 0)) (.sub (.var 5) (.int 1)))) (.cons (.ret (.bi .tuple (.cons (.var 3) .nil))) .nil) .nil) (.cons (.asg 7 (.call 48 (.cons (.bin .mul (.bin .sub (.bin .mul (.sub (.var 2) (.int 0)) (.sub (.var 5) (.int 1))) (.sub (.var 5) (.int 0))) (.sub (.var 6) (.int 1))) (.cons (.bin .sub (.bin .mul (.sub (.var 6) (.int 0)) (.sub (.var 5) (.int 1))) (.bin .mul (.sub (.var 5) (.int 0)) (.sub (.var 6) (.int 1)))) .nil)))) (.cons (.ret (.bi .tuple (.cons (.comp (.tup2 (.name 8) (.name 9)) (.enum (.var 3)) .none (.call 101 (.cons (.var 9) (.cons (.sub (.var 4) (.var 8)) (.cons (.var 7) .nil)))) [8, 9]) .nil))) .nil)))))⟩
def c_solved_by : Def := ⟨3, 5, (.cons (.ex (.call 98 (.cons (.var 0) (.cons (.var 1) (.cons (.var 2) .nil))))) (.cons (.ifs (.cmp .notn (.call 99 (.cons (.var 0) (.cons (.var 1) (.cons (.var 2) .nil)))) .non) (.cons (.ret .non) .nil) .nil) (.cons (.ret (.bi .tuple (.cons (.comp (.tup2 (.name 3) (.name 4)) (.enum (.var 0)) .none (.call 102 (.cons (.var 4) (.cons (.var 2) (.cons (.sub (.var 1) (.var 3)) .nil)))) [3, 4]) .nil))) .nil)))⟩
def c_is_mirrored : Def := ⟨1, 4, (.cons (.asg 1 (.bi .len (.cons (.var 0) .nil))) (.cons (.ret (.bi .all (.cons (.comp (.name 2) (.rng1 (.var 1)) .none (.bi .all (.cons (.comp (.name 3) (.rng1 (.var 1)) .none (.cmp .eq (.sub (.sub (.var 0) (.var 2)) (.var 3)) (.sub (.sub (.var 0) (.var 3)) (.var 2))) [3]) .nil)) [2]) .nil))) .nil))⟩
def c_need_mirrored : Def := ⟨1, 1, (.cons (.ex (.call 6 (.cons (.var 0) .nil))) (.cons (.ifs (.not (.call 112 (.cons (.var 0) .nil))) (.cons (.raise 8) .nil) .nil) .nil))⟩
def c_signs_of : Def := ⟨1, 5, (.cons (.asg 1 (.lst (.cons (.tup (.cons (.int 1) .nil)) .nil))) (.cons (.fors (.name 2) (.rng1 (.bin .sub (.var 0) (.int 1))) (.cons (.asg 1 (.comp2 (.name 3) (.val (.var 1)) (.name 4) (.val (.tup (.cons (.int 1) (.cons (.neg (.int 1)) .nil)))) (.bin .add (.var 3) (.tup (.cons (.var 4) .nil))) [3, 4] [4])) .nil)) (.cons (.ret (.var 1)) .nil)))⟩
def c_least_for : Def := ⟨2, 6, (.cons (.asg 2 (.bi .len (.cons (.var 0) .nil))) (.cons (.asgL 3 .nil) (.cons (.fors (.name 4) (.rng1 (.var 2)) (.cons (.app 3 (.bi .tuple (.cons (.comp (.name 5) (.rng1 (.var 2)) .none (.ite (.cmp .eq (.sub (.var 1) (.var 4)) (.sub (.var 1) (.var 5))) (.sub (.sub (.sub (.var 0) (.var 4)) (.var 5)) (.int 0)) (.sub (.sub (.sub (.var 0) (.var 4)) (.var 5)) (.int 1))) [5]) .nil))) .nil)) (.cons (.frz 3) (.cons (.ret (.bi .tuple (.cons (.var 3) .nil))) .nil)))))⟩
def c_part : Def := ⟨2, 3, (.cons (.ret (.comp (.name 2) (.val (.slice (.var 0) .none (.some (.var 1)))) .none (.bi .list (.cons (.slice (.var 2) .none (.some (.var 1))) .nil)) [2])) .nil)⟩
def c_bad_vector : Def := ⟨1, 6, (.cons (.asg 1 (.bi .len (.cons (.var 0) .nil))) (.cons (.fors (.name 2) (.rng2 (.int 1) (.bin .add (.var 1) (.int 1))) (.cons (.asg 3 (.call 116 (.cons (.var 0) (.cons (.var 2) .nil)))) (.cons (.ifs (.cmp .le (.call 36 (.cons (.var 3) .nil)) (.int 0)) (.cons (.asg 4 (.comp (.name 5) (.rng1 (.var 2)) .none (.call 55 (.cons (.var 3) (.cons (.bin .sub (.var 2) (.int 1)) (.cons (.var 5) .nil)))) [5])) (.cons (.ret (.bin .add (.bi .tuple (.cons (.var 4) .nil)) (.bin .mul (.tup (.cons (.int 0) .nil)) (.bin .sub (.var 1) (.var 2))))) .nil)) .nil) .nil))) (.cons (.ret .non) .nil)))⟩
def c_bad_pair : Def := ⟨1, 4, (.cons (.fors (.name 1) (.val (.call 114 (.cons (.bi .len (.cons (.var 0) .nil)) .nil))) (.cons (.asg 2 (.call 115 (.cons (.var 0) (.cons (.var 1) .nil)))) (.cons (.asg 3 (.call 117 (.cons (.var 2) .nil))) (.cons (.ifs (.cmp .notn (.var 3) .non) (.cons (.ret (.tup (.cons (.call 50 (.cons (.var 2) .nil)) (.cons (.var 3) .nil)))) .nil) .nil) .nil)))) (.cons (.ret .non) .nil))⟩
def c_all_positive : Def := ⟨1, 1, (.cons (.ex (.call 113 (.cons (.var 0) .nil))) (.cons (.ret (.cmp .isn (.call 118 (.cons (.var 0) .nil)) .non)) .nil))⟩
def c_checked : Def := ⟨1, 1, (.cons (.ifs (.not (.call 5 (.cons (.var 0) .nil))) (.cons (.raise 10) .nil) .nil) (.cons (.ret (.var 0)) .nil))⟩
def c_plus : Def := ⟨2, 8, (.cons (.ex (.call 6 (.cons (.var 0) .nil))) (.cons (.ex (.call 6 (.cons (.var 1) .nil))) (.cons (.ex (.call 7 (.cons (.var 0) (.cons (.var 1) .nil)))) (.cons (.asgL 2 .nil) (.cons (.fors (.tup2 (.name 3) (.name 4)) (.zip (.var 0) (.var 1)) (.cons (.app 2 (.bi .tuple (.cons (.comp (.tup2 (.name 5) (.tup2 (.name 6) (.name 7))) (.enum (.var 3)) .none (.tup (.cons (.bin .add (.var 6) (.sub (.sub (.var 4) (.var 5)) (.int 0))) (.cons (.bin .add (.var 7) (.sub (.sub (.var 4) (.var 5)) (.int 1))) .nil))) [5, 6, 7]) .nil))) .nil)) (.cons (.frz 2) (.cons (.ret (.call 129 (.cons (.bi .tuple (.cons (.var 2) .nil)) .nil))) .nil)))))))⟩
def c_ordered : Def := ⟨2, 2, (.cons (.ret (.tup (.cons (.bi .min2 (.cons (.var 0) (.cons (.var 1) .nil))) (.cons (.bi .max2 (.cons (.var 0) (.cons (.var 1) .nil))) .nil)))) .nil)⟩
def c_times : Def := ⟨2, 5, (.cons (.ex (.call 6 (.cons (.var 0) .nil))) (.cons (.ifs (.not (.call 2 (.cons (.var 1) (.cons (.neg (.int 9)) (.cons (.int 9) .nil))))) (.cons (.raise 4) .nil) .nil) (.cons (.ret (.call 129 (.cons (.bi .tuple (.cons (.comp (.name 2) (.val (.var 0)) .none (.bi .tuple (.cons (.comp (.tup2 (.name 3) (.name 4)) (.val (.var 2)) .none (.call 131 (.cons (.bin .mul (.var 3) (.var 1)) (.cons (.bin .mul (.var 4) (.var 1)) .nil))) [3, 4]) .nil)) [2]) .nil)) .nil))) .nil)))⟩
def c_number_of : Def := ⟨1, 2, (.cons (.asg 1 (.ite (.cmp .eq (.slice (.var 0) .none (.some (.int 1))) (.str "-")) (.slice (.var 0) (.some (.int 1)) .none) (.var 0))) (.cons (.ifs (.or (.cmp .ne (.bi .len (.cons (.var 1) .nil)) (.int 1)) (.or (.cmp .nin (.var 1) (.str "0123456789")) (.cmp .eq (.var 0) (.str "-0")))) (.cons (.raise 6) .nil) .nil) (.cons (.ret (.bi .int (.cons (.var 0) .nil))) .nil)))⟩
def c_range_of : Def := ⟨1, 3, (.cons (.asg 1 (.compX (.name 2) (.val (.m1 .split (.var 0) (.str ".."))) (.call 146 (.cons (.var 2) .nil)) [2])) (.cons (.ifs (.cmp .eq (.bi .len (.cons (.var 1) .nil)) (.int 1)) (.cons (.ret (.tup (.cons (.sub (.var 1) (.int 0)) (.cons (.sub (.var 1) (.int 0)) .nil)))) .nil) .nil) (.cons (.ifs (.or (.cmp .ne (.bi .len (.cons (.var 1) .nil)) (.int 2)) (.cmp .eq (.sub (.var 1) (.int 0)) (.sub (.var 1) (.int 1)))) (.cons (.raise 6) .nil) .nil) (.cons (.ret (.tup (.cons (.sub (.var 1) (.int 0)) (.cons (.sub (.var 1) (.int 1)) .nil)))) .nil))))⟩
def c_parse_table : Def := ⟨1, 4, (.cons (.ifs (.not (.bi (.isi .str) (.cons (.var 0) .nil))) (.cons (.raise 6) .nil) .nil) (.cons (.asg 1 (.bi .tuple (.cons (.compX (.name 2) (.val (.m1 .split (.var 0) (.str "; "))) (.bi .tuple (.cons (.compX (.name 3) (.val (.m1 .split (.var 2) (.str " "))) (.call 147 (.cons (.var 3) .nil)) [3]) .nil)) [2]) .nil))) (.cons (.ifs (.not (.call 5 (.cons (.var 1) .nil))) (.cons (.raise 6) .nil) .nil) (.cons (.ret (.var 1)) .nil))))⟩
def c_wall : Def := ⟨1, 1, (.cons (.whl (.bl true) (.cons .pass .nil)) .nil)⟩
def c_law_alone : Def := ⟨2, 4, (.cons (.asg 2 (.lst (.cons (.isx 0 (.var 0)) (.cons (.isx 1 (.var 0)) (.cons (.isx 2 (.var 0)) .nil))))) (.cons (.asg 2 (.bin .add (.var 2) (.lst (.cons (.isx 3 (.var 0)) (.cons (.isx 4 (.var 0)) (.cons (.isx 5 (.var 0)) .nil)))))) (.cons (.asg 2 (.bin .add (.var 2) (.lst (.cons (.isx 6 (.var 0)) (.cons (.isx 7 (.var 0)) (.cons (.isx 8 (.var 0)) .nil)))))) (.cons (.asg 2 (.bin .add (.var 2) (.lst (.cons (.isx 9 (.var 0)) (.cons (.isx 10 (.var 0)) (.cons (.isx 11 (.var 0)) .nil)))))) (.cons (.ret (.and (.isx 12 (.var 0)) (.cmp .eq (.var 2) (.comp (.name 3) (.rng1 (.int 12)) .none (.cmp .eq (.var 3) (.var 1)) [3])))) .nil)))))⟩
def c_law_155 : Def := ⟨1, 9, (.cons (.fors (.name 1) (.val (.call 13 (.cons (.var 0) (.cons (.int 4) .nil)))) (.cons (.unp (.tup2 (.name 2) (.name 3)) (.tup (.cons (.bin .add (.int 10) (.call 12 (.cons (.var 1) (.cons (.int 90) .nil)))) (.cons (.bin .add (.int 1) (.call 12 (.cons (.var 1) (.cons (.int 8) .nil)))) .nil)))) (.cons (.unp (.tup2 (.name 4) (.name 5)) (.tup (.cons (.tup (.cons (.tup (.cons (.tup (.cons (.var 3) (.cons (.int 9) .nil))) .nil)) .nil)) (.cons (.tup (.cons (.tup (.cons (.tup (.cons (.int 0) (.cons (.int 1) .nil))) (.cons (.tup (.cons (.int 0) (.cons (.var 3) .nil))) .nil))) (.cons (.tup (.cons (.tup (.cons (.int 0) (.cons (.int 0) .nil))) (.cons (.tup (.cons (.int 1) (.cons (.int 1) .nil))) .nil))) .nil))) .nil)))) (.cons (.asgL 6 (.cons (.met (.call 81 (.cons (.tup (.cons (.tup (.cons (.tup (.cons (.int 0) (.cons (.var 2) .nil))) .nil)) .nil)) .nil))) .nil)) (.cons (.app 6 (.met (.call 89 (.cons (.var 4) (.cons (.tup (.cons (.tup (.cons (.int 0) (.cons (.var 2) .nil))) .nil)) (.cons (.int 0) .nil)))))) (.cons (.app 6 (.met (.call 103 (.cons (.var 4) (.cons (.tup (.cons (.tup (.cons (.int 0) (.cons (.int 1) .nil))) .nil)) (.cons (.tup (.cons (.tup (.cons (.var 2) (.cons (.int 0) .nil))) .nil)) .nil)))))) (.cons (.app 6 (.met (.call 75 (.cons (.var 4) (.cons (.int 0) (.cons (.var 2) .nil)))))) (.cons (.app 6 (.met (.call 132 (.cons (.var 4) (.cons (.var 2) .nil))))) (.cons (.app 6 (.met (.meth 203 (.make 200 (.cons (.var 4) .nil)) (.cons (.int 0) (.cons (.int 0) (.cons (.int 0) (.cons (.var 3) .nil))))))) (.cons (.app 6 (.met (.call 148 (.cons (.bin .mul (.str ".") (.var 2)) .nil)))) (.cons (.app 6 (.met (.call 76 (.cons (.tup (.cons (.tup (.cons (.tup (.cons (.int 0) (.cons (.var 3) .nil))) .nil)) .nil)) (.cons (.int 0) (.cons (.int 0) .nil)))))) (.cons (.app 6 (.met (.call 119 (.cons (.var 5) .nil)))) (.cons (.app 6 (.met (.call 130 (.cons (.var 4) (.cons (.var 5) .nil))))) (.cons (.app 6 (.met (.call 130 (.cons (.var 4) (.cons (.var 4) .nil))))) (.cons (.app 6 (.met (.meth 208 (.make 200 (.cons (.var 4) .nil)) .nil))) (.cons (.frz 6) (.cons (.ifs (.not (.bi .all (.cons (.comp (.tup2 (.name 7) (.name 8)) (.enum (.var 6)) .none (.call 154 (.cons (.var 8) (.cons (.var 7) .nil))) [7, 8]) .nil))) (.cons (.ret (.bl false)) .nil) .nil) .nil))))))))))))))))) (.cons (.ret (.bl true)) .nil))⟩
def m_init : Def := ⟨2, 2, (.cons (.ex (.call 6 (.cons (.var 1) .nil))) (.cons (.fldS 0 (.var 0) (.var 1)) (.cons (.fldS 1 (.var 0) (.lst .nil)) (.cons (.fldS 2 (.var 0) (.lst .nil)) .nil))))⟩
def m_perform : Def := ⟨5, 5, (.cons (.fldS 1 (.var 0) (.bin .add (.fld 1 (.var 0)) (.lst (.cons (.tup (.cons (.var 1) (.cons (.fld 0 (.var 0)) .nil))) .nil)))) (.cons (.fldS 2 (.var 0) (.lst .nil)) (.cons (.fldS 0 (.var 0) (.call 51 (.cons (.fld 0 (.var 0)) (.cons (.var 2) (.cons (.var 3) (.cons (.var 4) .nil)))))) (.cons (.ret (.call 38 (.cons (.fld 0 (.var 0)) .nil))) .nil))))⟩
def m_range_at : Def := ⟨5, 5, (.cons (.ex (.call 69 (.cons (.fld 0 (.var 0)) (.cons (.var 1) .nil)))) (.cons (.ex (.call 69 (.cons (.fld 0 (.var 0)) (.cons (.var 2) .nil)))) (.cons (.ifs (.not (.call 3 (.cons (.tup (.cons (.var 3) (.cons (.var 4) .nil))) .nil))) (.cons (.raise 5) .nil) .nil) (.cons (.ret (.sub (.sub (.fld 0 (.var 0)) (.var 1)) (.var 2))) .nil))))⟩
def m_narrow : Def := ⟨5, 6, (.cons (.asg 5 (.meth 202 (.var 0) (.cons (.var 1) (.cons (.var 2) (.cons (.var 3) (.cons (.var 4) .nil)))))) (.cons (.ifs (.or (.cmp .lt (.var 3) (.sub (.var 5) (.int 0))) (.cmp .gt (.var 4) (.sub (.var 5) (.int 1)))) (.cons (.raise 5) .nil) .nil) (.cons (.ret (.meth 201 (.var 0) (.cons (.str "narrow") (.cons (.var 1) (.cons (.var 2) (.cons (.tup (.cons (.var 3) (.cons (.var 4) .nil))) .nil)))))) .nil)))⟩
def m_widen : Def := ⟨5, 6, (.cons (.asg 5 (.meth 202 (.var 0) (.cons (.var 1) (.cons (.var 2) (.cons (.var 3) (.cons (.var 4) .nil)))))) (.cons (.ifs (.or (.cmp .gt (.var 3) (.sub (.var 5) (.int 0))) (.cmp .lt (.var 4) (.sub (.var 5) (.int 1)))) (.cons (.raise 5) .nil) .nil) (.cons (.ret (.meth 201 (.var 0) (.cons (.str "widen") (.cons (.var 1) (.cons (.var 2) (.cons (.tup (.cons (.var 3) (.cons (.var 4) .nil))) .nil)))))) .nil)))⟩
def m_table : Def := ⟨1, 1, (.cons (.ret (.fld 0 (.var 0))) .nil)⟩
def m_is_settled : Def := ⟨1, 3, (.cons (.unp (.tup2 (.name 1) (.name 2)) (.call 38 (.cons (.fld 0 (.var 0)) .nil))) (.cons (.ret (.or (.cmp .gt (.var 1) (.int 0)) (.or (.cmp .lt (.var 2) (.int 0)) (.and (.cmp .eq (.var 1) (.int 0)) (.cmp .eq (.var 2) (.int 0)))))) .nil))⟩
def m_undo : Def := ⟨1, 3, (.cons (.ifs (.cmp .eq (.fld 1 (.var 0)) (.lst .nil)) (.cons (.raise 11) .nil) .nil) (.cons (.unp (.tup2 (.name 1) (.name 2)) (.sub (.fld 1 (.var 0)) (.neg (.int 1)))) (.cons (.fldS 1 (.var 0) (.slice (.fld 1 (.var 0)) .none (.some (.neg (.int 1))))) (.cons (.fldS 2 (.var 0) (.bin .add (.fld 2 (.var 0)) (.lst (.cons (.tup (.cons (.var 1) (.cons (.fld 0 (.var 0)) .nil))) .nil)))) (.cons (.fldS 0 (.var 0) (.var 2)) (.cons (.ret (.var 1)) .nil))))))⟩
def m_redo : Def := ⟨1, 3, (.cons (.ifs (.cmp .eq (.fld 2 (.var 0)) (.lst .nil)) (.cons (.raise 11) .nil) .nil) (.cons (.unp (.tup2 (.name 1) (.name 2)) (.sub (.fld 2 (.var 0)) (.neg (.int 1)))) (.cons (.fldS 2 (.var 0) (.slice (.fld 2 (.var 0)) .none (.some (.neg (.int 1))))) (.cons (.fldS 1 (.var 0) (.bin .add (.fld 1 (.var 0)) (.lst (.cons (.tup (.cons (.var 1) (.cons (.fld 0 (.var 0)) .nil))) .nil)))) (.cons (.fldS 0 (.var 0) (.var 2)) (.cons (.ret (.var 1)) .nil))))))⟩
def m_len : Def := ⟨1, 1, (.cons (.ret (.bi .len (.cons (.fld 1 (.var 0)) .nil))) .nil)⟩
def Pd : Nat → Option Def
  | 1 => some c_is_number
  | 2 => some c_is_whole
  | 3 => some c_is_range
  | 4 => some c_is_row
  | 5 => some c_is_table
  | 6 => some c_need_table
  | 7 => some c_need_alike
  | 10 => some c_law_cell
  | 11 => some c_law_drawn
  | 12 => some c_law_roll
  | 13 => some c_law_rounds
  | 20 => some c_divisor
  | 21 => some c_is_fraction
  | 33 => some c_rows_of
  | 34 => some c_corners_of
  | 35 => some c_minor
  | 36 => some c_determinant_of
  | 37 => some c_with_values
  | 38 => some c_ends_of
  | 48 => some c_lowest
  | 49 => some c_is_short
  | 50 => some c_as_member
  | 51 => some c_put
  | 55 => some c_signed
  | 56 => some c_are_invertible
  | 69 => some c_need_place
  | 70 => some c_need_invertible
  | 71 => some c_inverse_values
  | 72 => some c_is_less
  | 73 => some c_best_pair
  | 74 => some c_need_inverse
  | 75 => some c_inverse_range
  | 76 => some c_inverse_corner
  | 80 => some c_widened
  | 81 => some c_margin
  | 84 => some c_need_right
  | 85 => some c_unknown
  | 86 => some c_best_side
  | 87 => some c_extremes
  | 88 => some c_need_system
  | 89 => some c_solution_range
  | 94 => some c_need_vector
  | 95 => some c_sum_of
  | 96 => some c_end_of
  | 97 => some c_meets
  | 98 => some c_need_all
  | 99 => some c_excluding
  | 101 => some c_between
  | 102 => some c_row_for
  | 103 => some c_solved_by
  | 112 => some c_is_mirrored
  | 113 => some c_need_mirrored
  | 114 => some c_signs_of
  | 115 => some c_least_for
  | 116 => some c_part
  | 117 => some c_bad_vector
  | 118 => some c_bad_pair
  | 119 => some c_all_positive
  | 129 => some c_checked
  | 130 => some c_plus
  | 131 => some c_ordered
  | 132 => some c_times
  | 146 => some c_number_of
  | 147 => some c_range_of
  | 148 => some c_parse_table
  | 152 => some c_wall
  | 154 => some c_law_alone
  | 155 => some c_law_155
  | 200 => some m_init
  | 201 => some m_perform
  | 202 => some m_range_at
  | 203 => some m_narrow
  | 204 => some m_widen
  | 205 => some m_table
  | 206 => some m_is_settled
  | 207 => some m_undo
  | 208 => some m_redo
  | 209 => some m_len
  | _ => none
end Rt
set_option maxHeartbeats 0
namespace Rt
open PySem PySem.Spec PyProof.Rows L2
def topS (i : Nat) : Stmt := PySem.Challenge.pw_rangetables_k21_errors_apart.main.body.getD i (.Pass ⟨0, 0, 0, 0⟩)
def clsS (i j : Nat) : Stmt := match topS i with
  | .ClassDef _ _ _ b _ _ _ _ _ _ _ => b.getD j (.Pass ⟨0, 0, 0, 0⟩)
  | _ => .Pass ⟨0, 0, 0, 0⟩
def ents0 : List Ent := [⟨152, "_wall", ["k"], ["k"], c_wall, topS 0, false, "_wall", ("_wall", none)⟩,
  ⟨1, "is_number", ["value"], ["value"], c_is_number, topS 16, false, "is_number", ("is_number", none)⟩,
  ⟨2, "is_whole", ["value", "low", "high"], ["value", "low", "high"], c_is_whole, topS 17, false, "is_whole", ("is_whole", none)⟩,
  ⟨20, "divisor", ["one", "other"], ["one", "other"], c_divisor, topS 18, false, "divisor", ("divisor", none)⟩,
  ⟨48, "lowest", ["top", "under"], ["top", "under", "common"], c_lowest, topS 19, false, "lowest", ("lowest", none)⟩,
  ⟨21, "is_fraction", ["value"], ["value", "one"], c_is_fraction, topS 20, false, "is_fraction", ("is_fraction", none)⟩,
  ⟨49, "is_short", ["value"], ["value"], c_is_short, topS 21, false, "is_short", ("is_short", none)⟩,
  ⟨3, "is_range", ["value"], ["value", "one"], c_is_range, topS 22, false, "is_range", ("is_range", none)⟩,
  ⟨4, "is_row", ["value", "many"], ["value", "many", "one"], c_is_row, topS 23, false, "is_row", ("is_row", none)⟩,
  ⟨5, "is_table", ["value"], ["value", "row"], c_is_table, topS 24, false, "is_table", ("is_table", none)⟩,
  ⟨6, "need_table", ["table"], ["table"], c_need_table, topS 25, false, "need_table", ("need_table", none)⟩,
  ⟨69, "need_place", ["table", "place"], ["table", "place"], c_need_place, topS 26, false, "need_place", ("need_place", none)⟩,
  ⟨7, "need_alike", ["one", "other"], ["one", "other"], c_need_alike, topS 27, false, "need_alike", ("need_alike", none)⟩,
  ⟨33, "rows_of", ["bounds"], ["bounds", "found", "low", "high", "longer", "some"], c_rows_of, topS 28, false, "rows_of", ("rows_of", none)⟩,
  ⟨34, "corners_of", ["table"], ["table", "found", "bounds", "longer", "some", "row"], c_corners_of, topS 29, false, "corners_of", ("corners_of", none)⟩,
  ⟨50, "as_member", ["rows"], ["rows", "row", "one"], c_as_member, topS 30, false, "as_member", ("as_member", none)⟩,
  ⟨129, "checked", ["table"], ["table"], c_checked, topS 32, false, "checked", ("checked", none)⟩,
  ⟨130, "plus", ["one", "other"], ["one", "other", "rows", "row", "more", "at", "low", "high"], c_plus, topS 33, false, "plus", ("plus", none)⟩,
  ⟨131, "ordered", ["one", "last"], ["one", "last"], c_ordered, topS 34, false, "ordered", ("ordered", none)⟩,
  ⟨132, "times", ["table", "factor"], ["table", "factor", "row", "low", "high"], c_times, topS 35, false, "times", ("times", none)⟩]
def ents1 : List Ent := [⟨35, "minor", ["rows", "i", "j"], ["rows", "i", "j", "number", "row", "at", "one"], c_minor, topS 37, false, "minor", ("minor", none)⟩,
  ⟨36, "determinant_of", ["rows"], ["rows", "found", "place", "one"], c_determinant_of, topS 38, false, "determinant_of", ("determinant_of", none)⟩,
  ⟨55, "signed", ["rows", "i", "j"], ["rows", "i", "j", "own"], c_signed, topS 39, false, "signed", ("signed", none)⟩,
  ⟨37, "with_values", ["table"], ["table", "rows"], c_with_values, topS 40, false, "with_values", ("with_values", none)⟩,
  ⟨38, "ends_of", ["table"], ["table", "values", "value", "rows"], c_ends_of, topS 41, false, "ends_of", ("ends_of", none)⟩,
  ⟨51, "put", ["rows", "i", "j", "value"], ["rows", "i", "j", "value", "row"], c_put, topS 42, false, "put", ("put", none)⟩,
  ⟨56, "are_invertible", ["table"], ["table", "low", "high"], c_are_invertible, topS 46, false, "are_invertible", ("are_invertible", none)⟩,
  ⟨70, "need_invertible", ["table"], ["table"], c_need_invertible, topS 47, false, "need_invertible", ("need_invertible", none)⟩,
  ⟨71, "inverse_values", ["table", "i", "j"], ["table", "i", "j", "value", "rows"], c_inverse_values, topS 48, false, "inverse_values", ("inverse_values", none)⟩,
  ⟨72, "is_less", ["one", "other"], ["one", "other"], c_is_less, topS 49, false, "is_less", ("is_less", none)⟩,
  ⟨73, "best_pair", ["pairs", "sign"], ["pairs", "sign", "best", "pair"], c_best_pair, topS 50, false, "best_pair", ("best_pair", none)⟩,
  ⟨74, "need_inverse", ["table", "i", "j"], ["table", "i", "j"], c_need_inverse, topS 51, false, "need_inverse", ("need_inverse", none)⟩,
  ⟨75, "inverse_range", ["table", "i", "j"], ["table", "i", "j", "pairs"], c_inverse_range, topS 52, false, "inverse_range", ("inverse_range", none)⟩,
  ⟨76, "inverse_corner", ["table", "i", "j"], ["table", "i", "j"], c_inverse_corner, topS 53, false, "inverse_corner", ("inverse_corner", none)⟩,
  ⟨80, "widened", ["table", "by"], ["table", "by", "row", "low", "high"], c_widened, topS 54, false, "widened", ("widened", none)⟩,
  ⟨81, "margin", ["table"], ["table", "found"], c_margin, topS 55, false, "margin", ("margin", none)⟩,
  ⟨112, "is_mirrored", ["rows"], ["rows", "many", "i", "j"], c_is_mirrored, topS 57, false, "is_mirrored", ("is_mirrored", none)⟩,
  ⟨113, "need_mirrored", ["table"], ["table"], c_need_mirrored, topS 58, false, "need_mirrored", ("need_mirrored", none)⟩,
  ⟨114, "signs_of", ["many"], ["many", "found", "turn", "some", "sign"], c_signs_of, topS 59, false, "signs_of", ("signs_of", none)⟩,
  ⟨115, "least_for", ["table", "signs"], ["table", "signs", "many", "rows", "i", "j"], c_least_for, topS 60, false, "least_for", ("least_for", none)⟩]
def ents2 : List Ent := [⟨116, "part", ["rows", "many"], ["rows", "many", "row"], c_part, topS 61, false, "part", ("part", none)⟩,
  ⟨117, "bad_vector", ["rows"], ["rows", "many", "size", "own", "found", "j"], c_bad_vector, topS 62, false, "bad_vector", ("bad_vector", none)⟩,
  ⟨118, "bad_pair", ["table"], ["table", "signs", "rows", "vector"], c_bad_pair, topS 63, false, "bad_pair", ("bad_pair", none)⟩,
  ⟨119, "all_positive", ["table"], ["table"], c_all_positive, topS 64, false, "all_positive", ("all_positive", none)⟩,
  ⟨84, "need_right", ["table", "right"], ["table", "right"], c_need_right, topS 66, false, "need_right", ("need_right", none)⟩,
  ⟨94, "need_vector", ["table", "vector"], ["table", "vector", "one"], c_need_vector, topS 67, false, "need_vector", ("need_vector", none)⟩,
  ⟨85, "unknown", ["rows", "value", "side", "i"], ["rows", "value", "side", "i", "number", "one"], c_unknown, topS 68, false, "unknown", ("unknown", none)⟩,
  ⟨86, "best_side", ["rows", "value", "right", "i", "sign"], ["rows", "value", "right", "i", "sign", "found", "number", "bounds", "own"], c_best_side, topS 69, false, "best_side", ("best_side", none)⟩,
  ⟨87, "extremes", ["table", "right", "i", "sign"], ["table", "right", "i", "sign", "found", "value", "rows"], c_extremes, topS 70, false, "extremes", ("extremes", none)⟩,
  ⟨88, "need_system", ["table", "right", "i"], ["table", "right", "i"], c_need_system, topS 71, false, "need_system", ("need_system", none)⟩,
  ⟨89, "solution_range", ["table", "right", "i"], ["table", "right", "i", "low"], c_solution_range, topS 72, false, "solution_range", ("solution_range", none)⟩,
  ⟨95, "sum_of", ["entries", "vector"], ["entries", "vector", "under", "one", "found", "place"], c_sum_of, topS 73, false, "sum_of", ("sum_of", none)⟩,
  ⟨96, "end_of", ["bounds", "vector", "high"], ["bounds", "vector", "high", "found", "place", "one", "is_high"], c_end_of, topS 74, false, "end_of", ("end_of", none)⟩,
  ⟨97, "meets", ["bounds", "vector", "side"], ["bounds", "vector", "side", "low", "high"], c_meets, topS 75, false, "meets", ("meets", none)⟩,
  ⟨98, "need_all", ["table", "right", "vector"], ["table", "right", "vector"], c_need_all, topS 76, false, "need_all", ("need_all", none)⟩,
  ⟨99, "excluding", ["table", "right", "vector"], ["table", "right", "vector", "number", "bounds"], c_excluding, topS 77, false, "excluding", ("excluding", none)⟩,
  ⟨101, "between", ["one", "other", "part"], ["one", "other", "part", "gap", "step"], c_between, topS 78, false, "between", ("between", none)⟩,
  ⟨102, "row_for", ["bounds", "vector", "side"], ["bounds", "vector", "side", "first", "last", "low", "high", "part", "place", "one"], c_row_for, topS 79, false, "row_for", ("row_for", none)⟩,
  ⟨103, "solved_by", ["table", "right", "vector"], ["table", "right", "vector", "number", "bounds"], c_solved_by, topS 80, false, "solved_by", ("solved_by", none)⟩,
  ⟨146, "number_of", ["word"], ["word", "digits"], c_number_of, topS 82, false, "number_of", ("number_of", none)⟩]
def ents3 : List Ent := [⟨147, "range_of", ["word"], ["word", "numbers", "one"], c_range_of, topS 83, false, "range_of", ("range_of", none)⟩,
  ⟨148, "parse_table", ["text"], ["text", "table", "row", "word"], c_parse_table, topS 84, false, "parse_table", ("parse_table", none)⟩,
  ⟨10, "_law_cell", ["script", "k"], ["script", "k"], c_law_cell, topS 86, false, "_law_cell", ("_law_cell", none)⟩,
  ⟨11, "_law_drawn", ["cell", "k"], ["cell", "k", "more"], c_law_drawn, topS 87, false, "_law_drawn", ("_law_drawn", none)⟩,
  ⟨12, "_law_roll", ["dice", "many"], ["dice", "many", "told"], c_law_roll, topS 88, false, "_law_roll", ("_law_roll", none)⟩,
  ⟨13, "_law_rounds", ["script", "most"], ["script", "most", "k"], c_law_rounds, topS 89, false, "_law_rounds", ("_law_rounds", none)⟩,
  ⟨154, "_law_alone", ["e", "own"], ["e", "own", "some", "at"], c_law_alone, topS 91, false, "_law_alone", ("_law_alone", none)⟩,
  ⟨200, "__init__", ["self", "table"], ["self", "table"], m_init, clsS 44 0, false, "Desk.__init__", ("Desk", some "__init__")⟩,
  ⟨201, "perform", ["self", "name", "i", "j", "bounds"], ["self", "name", "i", "j", "bounds"], m_perform, clsS 44 1, false, "Desk.perform", ("Desk", some "perform")⟩,
  ⟨202, "range_at", ["self", "i", "j", "low", "high"], ["self", "i", "j", "low", "high"], m_range_at, clsS 44 2, false, "Desk.range_at", ("Desk", some "range_at")⟩,
  ⟨203, "narrow", ["self", "i", "j", "low", "high"], ["self", "i", "j", "low", "high", "own"], m_narrow, clsS 44 3, false, "Desk.narrow", ("Desk", some "narrow")⟩,
  ⟨205, "table", ["self"], ["self"], m_table, clsS 44 5, false, "Desk.table", ("Desk", some "table")⟩,
  ⟨207, "undo", ["self"], ["self", "name", "table"], m_undo, clsS 44 7, false, "Desk.undo", ("Desk", some "undo")⟩,
  ⟨208, "redo", ["self"], ["self", "name", "table"], m_redo, clsS 44 8, false, "Desk.redo", ("Desk", some "redo")⟩,
  ⟨209, "__len__", ["self"], ["self"], m_len, clsS 44 9, false, "Desk.__len__", ("Desk", some "__len__")⟩]
def ents : List Ent := ents0 ++ ents1 ++ ents2 ++ ents3
def loose : List Str := (["_wall", "RangeError", "InvalidTable", "InvalidRight", "InvalidVector", "InvalidPlace", "InvalidNumber", "InvalidRange", "InvalidText", "Singular", "NotSymmetric", "Unlike", "TooLarge", "NothingToUndo", "is_number", "is_whole", "divisor", "lowest", "is_fraction", "is_short"] : List Str) ++ (["is_range", "is_row", "is_table", "need_table", "need_place", "need_alike", "rows_of", "corners_of", "as_member", "checked", "plus", "ordered", "times", "minor", "determinant_of", "signed", "with_values", "ends_of", "put", "Desk"] : List Str) ++ (["are_invertible", "need_invertible", "inverse_values", "is_less", "best_pair", "need_inverse", "inverse_range", "inverse_corner", "widened", "margin", "is_mirrored", "need_mirrored", "signs_of", "least_for", "part", "bad_vector", "bad_pair", "all_positive", "need_right", "need_vector"] : List Str) ++ (["unknown", "best_side", "extremes", "need_system", "solution_range", "sum_of", "end_of", "meets", "need_all", "excluding", "between", "row_for", "solved_by", "number_of", "range_of", "parse_table", "_law_cell", "_law_drawn", "_law_roll", "_law_rounds"] : List Str) ++ (["_law_met", "_law_alone"] : List Str)
abbrev Rw : PySem.W.OpenRow := PySem.W.OpenLaw.row PySem.Challenge.rw_rangetables_k21_errors_apart
def eLaw : Ent := ⟨155, "law", ["script"], ["script", "dice", "more", "own", "one", "two", "made", "at", "e"], c_law_155, topS 92, true, "law", ("law", none)⟩
abbrev hk : PySem.W.Hook := hookA (faT ents "law") (fnT ents eLaw (topS 90)) ((tdsOf ents eLaw).map (·.at_)) (moreO (tdsOf ents eLaw))
def ob (s : PySem.W.SharedT) : He.AlX := obsA (faT ents "law") (fnT ents eLaw (topS 90)) ((tdsOf ents eLaw).map (·.at_)) (moreO (tdsOf ents eLaw)) (HandSHeadRun.getT s)
theorem ob_eq (s : PySem.W.SharedT) : ob s = hk.obs s.abs := obsA_eq (HandSHeadRun.getT_eq s)
theorem runs (w : World) : HandSHeadRun.RunEq Rw (PySem.W.view Rw.prog [92]) hk ob 6000 loose w := by
  intro os
  kernel_rfl
end Rt
set_option maxHeartbeats 200000
namespace Rt
open PySem L2
/-- the constants of a law: tables of code objects, the written part, the exception classes' places -/
structure Cn where
  T : List (Addr × Str)
  K : PySem.W.Frag
  ca : Nat → Addr
  ob : Bool
  dk : Addr
/-- a list that no one changes -/
def Fz (K : PySem.W.Frag) (H : Hp) (a : Addr) (xs : List V) : Prop := (∃ o, H a = some (.frz o (.lst xs))) ∨
  ∃ (o : Obj) (its : Array Value) (n : Nat), K.lookup a = some o ∧ o.cls = .type "list" ∧ o.dict = none ∧ o.data = .seq its n ∧ its.size ≤ sizeLine ∧ Vals xs its.toList
theorem Fz.sq {K : PySem.W.Frag} {H : Hp} {a : Addr} {xs : List V} (h : Fz K H a xs) : SqL K H a xs := by
  rcases h with h | h
  · exact .inl (.inr h)
  · exact .inr h
/-- an exception that is held as a value -/
def excV (cls : Value) (a : Addr) : HO := .ext fun h => ∃ (oe : Obj) (vs : Array Value), h.get? a = some oe ∧ L2N.Zn cls none oe ∧ oe.data = .fields vs
/-- what may change where it stands -/
def mutO : HO → Bool
  | .lst _ => true
  | .ins _ _ _ => true
  | _ => false
mutual
inductive Sd (K : PySem.W.Frag) (H : Hp) (mu : List Addr) : V → D → Prop where
  | non : Sd K H mu .non .non
  | bl (b : Bool) : Sd K H mu (.bl b) (.bl b)
  | int (i : Int) : Sd K H mu (.int i) (.int i)
  | str (x : Str) : Sd K H mu (.str x) (.str x)
  | tup {a : Addr} {xs : List V} {ds : List D} : SqT K H a xs → SdA K H mu xs ds → Sd K H mu (.ref a) (.tup ds)
  | lst {a : Addr} {xs : List V} {ds : List D} : Fz K H a xs → SdA K H mu xs ds → Sd K H mu (.ref a) (.lst ds)
  | cell {a : Addr} {n : Nat} : mu[n]? = some a → Sd K H mu (.ref a) (.cell n)
  | exc {a : Addr} {c : Nat} : H a = some (excV (.ref (He.ga K (excName c))) a) → Sd K H mu (.ref a) (.exc c)
inductive SdA (K : PySem.W.Frag) (H : Hp) (mu : List Addr) : List V → List D → Prop where
  | nil : SdA K H mu [] []
  | cons {v : V} {vs : List V} {d : D} {ds : List D} : Sd K H mu v d → SdA K H mu vs ds → SdA K H mu (v :: vs) (d :: ds)
end
/-- from (H, mu) to (H', mu'): what may have happened -/
structure Ext (mu mu' : List Addr) (H H' : Hp) : Prop where
  pre : ∃ more, mu' = mu ++ more
  keepN : ∀ b o, H b = some o → mutO o = false → (∀ ps, o ≠ .tbl ps) → H' b = some o
  keepL : ∀ b xs, H b = some (.lst xs) → b ∉ mu → H' b = some (.lst xs)
  keepT : ∀ b ps, H b = some (.tbl ps) → ∃ ps', H' b = some (.tbl ps')
  new : ∀ a, a ∈ mu' → a ∉ mu → H a = none
  keepI : ∀ b C dx fs, H b = some (.ins C dx fs) → b ∉ mu → H' b = some (.ins C dx fs)
/-- what data leans on stays -/
structure ExtW (mu mu' : List Addr) (H H' : Hp) : Prop where
  pre : ∃ more, mu' = mu ++ more
  keepN : ∀ b o, H b = some o → mutO o = false → (∀ ps, o ≠ .tbl ps) → H' b = some o
theorem Ext.w {mu mu' : List Addr} {H H' : Hp} (e : Ext mu mu' H H') : ExtW mu mu' H H' := ⟨e.pre, e.keepN⟩
theorem ExtW.refl {mu : List Addr} {H : Hp} : ExtW mu mu H H := ⟨⟨[], by simp⟩, fun _ _ h _ _ => h⟩
theorem ExtW.trans {mu mu1 mu2 : List Addr} {H H1 H2 : Hp} (e : ExtW mu mu1 H H1) (f : ExtW mu1 mu2 H1 H2) : ExtW mu mu2 H H2 := by
  refine ⟨?_, fun b o h n m => f.keepN b o (e.keepN b o h n m) n m⟩
  obtain ⟨m, rfl⟩ := e.pre
  obtain ⟨m', rfl⟩ := f.pre
  exact ⟨m ++ m', by simp⟩
theorem ExtW.updL {mu : List Addr} {H : Hp} {a : Addr} {zs : List V} {o : HO} (h : H a = some (.lst zs)) : ExtW mu mu H (L2.upd H a o) := ⟨⟨[], by simp⟩, fun b o' q n m => by
  have nb : b ≠ a := fun z => by subst z; rw [h] at q; cases q; cases n
  rw [upd_ne nb]; exact q⟩
namespace Ext
variable {mu mu1 mu2 : List Addr} {H H1 H2 : Hp}
theorem refl : Ext mu mu H H := ⟨⟨[], by simp⟩, fun _ _ h _ _ => h, fun _ _ h _ => h, fun _ ps h => ⟨ps, h⟩, fun _ h n => absurd h n, fun _ _ _ _ h _ => h⟩
theorem mem (e : Ext mu mu1 H H1) {a : Addr} (h : a ∈ mu) : a ∈ mu1 := by
  obtain ⟨m, rfl⟩ := e.pre
  exact List.mem_append_left _ h
theorem notin (e : Ext mu mu1 H H1) {a : Addr} {o : HO} (h : H a = some o) (n : a ∉ mu) : a ∉ mu1 := fun q => by
  rw [e.new a q n] at h
  cases h
theorem isSome (e : Ext mu mu1 H H1) {a : Addr} (h : H1 a = none) (n : a ∉ mu) : H a = none := by
  cases q : H a with
  | none => rfl
  | some o =>
    cases o with
    | lst xs => rw [e.keepL a xs q n] at h; cases h
    | ins C dx fs => rw [e.keepI a C dx fs q n] at h; cases h
    | tbl ps =>
      obtain ⟨p, z⟩ := e.keepT a ps q
      rw [z] at h; cases h
    | _ => rw [e.keepN a _ q rfl (fun _ z => by cases z)] at h; cases h
theorem trans (e : Ext mu mu1 H H1) (f : Ext mu1 mu2 H1 H2) : Ext mu mu2 H H2 := by
  refine ⟨?_, fun b o h n m => f.keepN b o (e.keepN b o h n m) n m, fun b xs h n => f.keepL b xs (e.keepL b xs h n) (e.notin h n), fun b ps h => ?_, fun a h n => ?_, fun b C dx fs h n => f.keepI b C dx fs (e.keepI b C dx fs h n) (e.notin h n)⟩
  · obtain ⟨m, rfl⟩ := e.pre
    obtain ⟨m', rfl⟩ := f.pre
    exact ⟨m ++ m', by simp⟩
  · obtain ⟨p, z⟩ := e.keepT b ps h
    exact f.keepT b p z
  · by_cases q : a ∈ mu1
    · exact e.new a q n
    · exact e.isSome (f.new a h q) n
/-- a new object -/
theorem upd {p : Addr} {o : HO} (h : H p = none) : Ext mu mu H (upd H p o) := by
  refine ⟨⟨[], by simp⟩, fun b o' q _ _ => ?_, fun b xs q _ => ?_, fun b ps q => ⟨ps, ?_⟩, fun _ h n => absurd h n, fun b C dx fs q _ => by rw [upd_ne (ne_of_none q h)]; exact q⟩
  · rw [upd_ne (ne_of_none q h)]; exact q
  · rw [upd_ne (ne_of_none q h)]; exact q
  · rw [upd_ne (ne_of_none q h)]; exact q
end Ext
section
variable {K : PySem.W.Frag} {mu mu1 : List Addr} {H H1 : Hp}
theorem Fz.mono {a : Addr} {xs : List V} (e : ExtW mu mu1 H H1) (h : Fz K H a xs) : Fz K H1 a xs := by
  rcases h with ⟨o, h⟩ | h
  · exact .inl ⟨o, e.keepN _ _ h rfl (fun _ z => by cases z)⟩
  · exact .inr h
theorem sqT_mono {a : Addr} {xs : List V} (e : ExtW mu mu1 H H1) (h : SqT K H a xs) : SqT K H1 a xs := by
  rcases h with (h | ⟨o, h⟩) | h
  · exact .inl (.inl (e.keepN _ _ h rfl (fun _ z => by cases z)))
  · exact .inl (.inr ⟨o, e.keepN _ _ h rfl (fun _ z => by cases z)⟩)
  · exact .inr h
mutual
theorem Sd.monoW (e : ExtW mu mu1 H H1) : ∀ {v : V} {d : D}, Sd K H mu v d → Sd K H1 mu1 v d
  | _, _, .non => .non
  | _, _, .bl b => .bl b
  | _, _, .int i => .int i
  | _, _, .str x => .str x
  | _, _, .tup h t => .tup (sqT_mono e h) (SdA.monoW e t)
  | _, _, .lst h t => .lst (h.mono e) (SdA.monoW e t)
  | _, _, .cell h => .cell (by
      obtain ⟨m, rfl⟩ := e.pre
      rw [List.getElem?_append_left (List.getElem?_eq_some_iff.mp h).1]
      exact h)
  | _, _, .exc h => .exc (e.keepN _ _ h rfl (fun _ z => by cases z))
theorem SdA.monoW (e : ExtW mu mu1 H H1) : ∀ {vs : List V} {ds : List D}, SdA K H mu vs ds → SdA K H1 mu1 vs ds
  | _, _, .nil => .nil
  | _, _, .cons h t => .cons (Sd.monoW e h) (SdA.monoW e t)
end
theorem Sd.mono (e : Ext mu mu1 H H1) {v : V} {d : D} (h : Sd K H mu v d) : Sd K H1 mu1 v d := Sd.monoW e.w h
theorem SdA.mono (e : Ext mu mu1 H H1) {vs : List V} {ds : List D} (h : SdA K H mu vs ds) : SdA K H1 mu1 vs ds := SdA.monoW e.w h
theorem SdA.length : ∀ {vs : List V} {ds : List D}, SdA K H mu vs ds → vs.length = ds.length
  | _, _, .nil => rfl
  | _, _, .cons _ t => by rw [List.length_cons, List.length_cons, SdA.length t]
theorem SdA.get : ∀ {vs : List V} {ds : List D} {i : Nat} {d : D}, SdA K H mu vs ds → ds[i]? = some d → ∃ v, vs[i]? = some v ∧ Sd K H mu v d
  | _, _, _, _, .nil, e => by simp at e
  | _, _, 0, _, .cons r _, e => by simp at e; subst e; exact ⟨_, rfl, r⟩
  | _, _, i + 1, d, .cons _ t, e => by
    obtain ⟨u, h1, h2⟩ := SdA.get (i := i) (d := d) t (by simpa using e)
    exact ⟨u, by simpa using h1, h2⟩
theorem SdA.append : ∀ {vs ws : List V} {ds es : List D}, SdA K H mu vs ds → SdA K H mu ws es → SdA K H mu (vs ++ ws) (ds ++ es)
  | _, _, _, _, .nil, s => s
  | _, _, _, _, .cons r t, s => .cons r (SdA.append t s)
theorem SdA.set {v : V} {d : D} (r : Sd K H mu v d) : ∀ {vs : List V} {ds : List D} (i : Nat), SdA K H mu vs ds → SdA K H mu (vs.set i v) (ds.set i d)
  | _, _, _, .nil => .nil
  | _, _, 0, .cons _ t => .cons r t
  | _, _, i + 1, .cons q t => .cons q (SdA.set r i t)
theorem SdA.drop : ∀ {vs : List V} {ds : List D} (n : Nat), SdA K H mu vs ds → SdA K H mu (vs.drop n) (ds.drop n)
  | _, _, 0, r => r
  | _, _, _ + 1, .nil => .nil
  | _, _, n + 1, .cons _ t => SdA.drop n t
theorem SdA.take : ∀ {vs : List V} {ds : List D} (n : Nat), SdA K H mu vs ds → SdA K H mu (vs.take n) (ds.take n)
  | _, _, 0, _ => .nil
  | _, _, _ + 1, .nil => .nil
  | _, _, n + 1, .cons r t => .cons r (SdA.take n t)
theorem SdA.reverse {vs : List V} {ds : List D} (h : SdA K H mu vs ds) : SdA K H mu vs.reverse ds.reverse := by
  induction vs generalizing ds with
  | nil => cases h; exact .nil
  | cons v vs ih =>
    cases h with
    | cons r t =>
      rw [List.reverse_cons, List.reverse_cons]
      exact (ih t).append (.cons r .nil)
theorem SdA.rep {vs : List V} {ds : List D} (h : SdA K H mu vs ds) : ∀ k : Nat, SdA K H mu (List.replicate k vs).flatten (List.replicate k ds).flatten
  | 0 => .nil
  | k + 1 => by
    rw [List.replicate_succ, List.replicate_succ, List.flatten_cons, List.flatten_cons]
    exact h.append (SdA.rep h k)
theorem SdA.nil_iff {vs : List V} {ds : List D} (h : SdA K H mu vs ds) : vs = [] ↔ ds = [] := by
  have := h.length
  constructor <;> intro e <;> subst e
  · exact List.length_eq_zero_iff.mp this.symm
  · exact List.length_eq_zero_iff.mp this
end
theorem SdA.noOb {K : PySem.W.Frag} {H : Hp} {mu : List Addr} {vs : List V} {ds : List D} (h : SdA K H mu vs ds) : isOb ds = false := by
  cases h with
  | nil => rfl
  | cons q _ => cases q <;> rfl
/-- what stands behind an entry of the store -/
def CelOk (C : Cn) (H : Hp) (mu : List Addr) (a : Addr) : List D → Prop
  | .ob :: fs => C.ob = true ∧ ∃ dx vs, H a = some (.ins C.dk dx (deskFl.zip vs)) ∧ SdA C.K H mu vs fs ∧ vs.length ≤ 3
  | ds => ∃ xs, H a = some (.lst xs) ∧ SdA C.K H mu xs ds
theorem celOk_lst {C : Cn} {H : Hp} {mu : List Addr} {a : Addr} {ds : List D} (h : isOb ds = false) : CelOk C H mu a ds ↔ ∃ xs, H a = some (.lst xs) ∧ SdA C.K H mu xs ds := by
  cases ds with
  | nil => exact Iff.rfl
  | cons d r => cases d <;> first | exact Iff.rfl | cases h
/-- an entry stays: its data by ExtW, its place by what stands there -/
theorem CelOk.mono {C : Cn} {H H1 : Hp} {mu mu1 : List Addr} {a : Addr} {ds : List D} (e : ExtW mu mu1 H H1) (k : ∀ o, H a = some o → mutO o = true → H1 a = some o) (h : CelOk C H mu a ds) : CelOk C H1 mu1 a ds := by
  cases z : isOb ds with
  | false =>
    obtain ⟨xs, q, t⟩ := (celOk_lst z).mp h
    exact (celOk_lst z).mpr ⟨xs, k _ q rfl, t.monoW e⟩
  | true =>
    match ds, z with
    | .ob :: fs, _ =>
      obtain ⟨ho, dx, vs, q, t, l⟩ := h
      exact ⟨ho, dx, vs, k _ q rfl, t.monoW e, l⟩
theorem CelOk.there {C : Cn} {H : Hp} {mu : List Addr} {a : Addr} {ds : List D} (h : CelOk C H mu a ds) : ∃ o, H a = some o ∧ mutO o = true := by
  cases z : isOb ds with
  | false =>
    obtain ⟨xs, q, t⟩ := (celOk_lst z).mp h
    exact ⟨_, q, rfl⟩
  | true =>
    match ds, z with
    | .ob :: fs, _ =>
      obtain ⟨ho, dx, vs, q, t, l⟩ := h
      exact ⟨_, q, rfl⟩
structure SRel (C : Cn) (H : Hp) (mu : List Addr) (st : Sto) : Prop where
  len : mu.length = st.length
  nd : mu.Nodup
  cel : ∀ (n : Nat) (a : Addr) (ds : List D), mu[n]? = some a → st[n]? = some ds → CelOk C H mu a ds
  tabs : LamX.Tabs C.T H
theorem SRel.inMu {C : Cn} {H : Hp} {mu : List Addr} {st : Sto} (s : SRel C H mu st) {a : Addr} (h : a ∈ mu) : ∃ o, H a = some o := by
  obtain ⟨n, hn, rfl⟩ := List.getElem_of_mem h
  have h2 : n < st.length := by rw [← s.len]; exact hn
  obtain ⟨o, q, _⟩ := (s.cel n _ st[n] (List.getElem?_eq_getElem hn) (List.getElem?_eq_getElem h2)).there
  exact ⟨o, q⟩
/-- a new object is laid; the store stands -/
theorem SRel.upd {C : Cn} {H : Hp} {mu : List Addr} {st : Sto} (s : SRel C H mu st) {p : Addr} {o : HO} (h : H p = none) : SRel C (upd H p o) mu st := by
  refine ⟨s.len, s.nd, fun n a ds h1 h2 => ?_, s.tabs.ext fun b o' e => by rw [upd_ne (ne_of_none e h)]; exact e⟩
  exact (s.cel n a ds h1 h2).mono (Ext.upd h).w fun o q _ => by rw [upd_ne (ne_of_none q h)]; exact q
/-- a list that is no cell is changed -/
theorem SRel.updL {C : Cn} {H : Hp} {mu : List Addr} {st : Sto} (s : SRel C H mu st) {a : Addr} {zs : List V} {o : HO} (h : H a = some (.lst zs)) (n : a ∉ mu) : SRel C (L2.upd H a o) mu st := by
  refine ⟨s.len, s.nd, fun m b ds' h1 h2 => ?_, fun p hp => ?_⟩
  · have nb : b ≠ a := fun z => by subst z; exact n (List.mem_of_getElem? h1)
    exact (s.cel m b ds' h1 h2).mono (ExtW.updL h) fun o q _ => by rw [upd_ne nb]; exact q
  · have ne : ∀ b o', H b = some o' → (∀ ws, o' ≠ .lst ws) → b ≠ a := fun b o' q m z => by
      subst z; rw [h] at q; cases q; exact m zs rfl
    obtain ⟨ps, a1, a2, a3⟩ := s.tabs p hp
    refine ⟨ps, by rw [upd_ne (ne _ _ a1 (fun _ z => by cases z))]; exact a1, a2, fun pos cv hc => ?_⟩
    obtain ⟨c, e1, e2⟩ := a3 pos cv hc
    exact ⟨c, e1, by rw [upd_ne (ne _ _ e2 (fun _ z => by unfold LamX.CodeO at z; cases z))]; exact e2⟩
/-- what a slot holds -/
def SlotOk (K : PySem.W.Frag) (H : Hp) (mu : List Addr) (H0 : Hp) : Option (Option V) → Slot → Prop
  | _, .no => True
  | some (some v), .val d => Sd K H mu v d
  | some (some (.ref a)), .own ds => H0 a = none ∧ a ∉ mu ∧ ∃ xs, H a = some (.lst xs) ∧ SdA K H mu xs ds
  | _, _ => False
structure Rel (C : Cn) (H0 : Hp) (mu0 : List Addr) (σ : L2.St) (H : Hp) (r : Env) (st : Sto) (mu : List Addr) : Prop where
  len : σ.length = r.length
  slots : ∀ (i : Nat) (sl : Slot), r[i]? = some sl → SlotOk C.K H mu H0 σ[i]? sl
  dis : ∀ (i j : Nat) (a : Addr) (ds es : List D), i ≠ j → σ[i]? = some (some (.ref a)) → σ[j]? = some (some (.ref a)) → r[i]? = some (.own ds) → r[j]? = some (.own es) → False
  srel : SRel C H mu st
  ext : Ext mu0 mu H0 H
section
variable {C : Cn} {H0 H H1 : Hp} {mu0 mu mu1 : List Addr} {σ : L2.St} {r : Env} {st st1 : Sto}
theorem SlotOk.mono {o : Option (Option V)} {sl : Slot} (e : Ext mu mu1 H H1) (h : SlotOk C.K H mu H0 o sl) : SlotOk C.K H1 mu1 H0 o sl := by
  cases sl with
  | no => exact trivial
  | val d =>
    match o, h with
    | some (some v), h => exact Sd.mono e h
  | own ds =>
    match o, h with
    | some (some (.ref a)), h =>
      obtain ⟨h1, h2, xs, h3, h4⟩ := h
      exact ⟨h1, e.notin h3 h2, xs, e.keepL _ _ h3 h2, h4.mono e⟩
theorem Rel.step (R : Rel C H0 mu0 σ H r st mu) (e : Ext mu mu1 H H1) (s : SRel C H1 mu1 st1) : Rel C H0 mu0 σ H1 r st1 mu1 :=
  ⟨R.len, fun i sl h => (R.slots i sl h).mono e, R.dis, s, R.ext.trans e⟩
theorem Rel.val (R : Rel C H0 mu0 σ H r st mu) {i : Nat} {d : D} (h : getV r i = some d) : ∃ v, σ[i]? = some (some v) ∧ Sd C.K H mu v d := by
  unfold getV at h
  split at h
  · next q =>
    cases h
    have := R.slots i _ q
    match hs : σ[i]?, this with
    | some (some v), this => exact ⟨v, rfl, this⟩
  · cases h
theorem Rel.own (R : Rel C H0 mu0 σ H r st mu) {i : Nat} {ds : List D} (h : getO r i = some ds) : ∃ a xs, σ[i]? = some (some (.ref a)) ∧ H0 a = none ∧ a ∉ mu ∧ H a = some (.lst xs) ∧ SdA C.K H mu xs ds := by
  unfold getO at h
  split at h
  · next q =>
    cases h
    have := R.slots i _ q
    match hs : σ[i]?, this with
    | some (some (.ref a)), ⟨h1, h2, xs, h3, h4⟩ => exact ⟨a, xs, rfl, h1, h2, h3, h4⟩
  · cases h
/-- a slot takes a value -/
theorem Rel.set (R : Rel C H0 mu0 σ H r st mu) {v : V} {d : D} (i : Nat) (h : Sd C.K H mu v d) : Rel C H0 mu0 (σ.set i (some v)) H (r.set i (.val d)) st mu := by
  refine ⟨by rw [List.length_set, List.length_set]; exact R.len, fun j sl hj => ?_, fun k j a ds es hne h1 h2 h3 h4 => ?_, R.srel, R.ext⟩
  · by_cases e : i = j
    · subst e
      have hi : i < r.length := by
        have := (List.getElem?_eq_some_iff.mp hj).1
        simpa using this
      rw [List.getElem?_set_self hi] at hj
      cases hj
      rw [List.getElem?_set_self (by rw [R.len]; exact hi)]
      exact h
    · rw [List.getElem?_set_ne e] at hj ⊢
      exact R.slots j sl hj
  · have ne : ∀ (k : Nat) (ds : List D), (r.set i (Slot.val d))[k]? = some (Slot.own ds) → i ≠ k := fun k ds hk z => by
      subst z
      have hi : i < r.length := by
        have := (List.getElem?_eq_some_iff.mp hk).1
        simpa using this
      rw [List.getElem?_set_self hi] at hk
      cases hk
    have n1 := ne k ds h3
    have n2 := ne j es h4
    rw [List.getElem?_set_ne n1] at h1 h3
    rw [List.getElem?_set_ne n2] at h2 h4
    exact R.dis k j a ds es hne h1 h2 h3 h4
/-- a slot takes a new list of its own -/
theorem Rel.setOwn (R : Rel C H0 mu0 σ H r st mu) {p : Addr} {xs : List V} {ds : List D} (i : Nat) (hp : H p = none) (h : SdA C.K H mu xs ds) : Rel C H0 mu0 (σ.set i (some (.ref p))) (L2.upd H p (.lst xs)) (r.set i (.own ds)) st mu := by
  have e : Ext mu mu H (L2.upd H p (.lst xs)) := Ext.upd hp
  have s : SRel C (L2.upd H p (.lst xs)) mu st := R.srel.upd hp
  have hpm : p ∉ mu := fun z => by
    obtain ⟨_, q⟩ := R.srel.inMu z
    rw [q] at hp; cases hp
  have h0p : H0 p = none := R.ext.isSome hp (fun z => hpm (R.ext.mem z))
  have R1 := R.step e s
  refine ⟨by rw [List.length_set, List.length_set]; exact R.len, fun j sl hj => ?_, fun k j a ds' es hne h1 h2 h3 h4 => ?_, s, R1.ext⟩
  · by_cases z : i = j
    · subst z
      have hi : i < r.length := by
        have := (List.getElem?_eq_some_iff.mp hj).1
        simpa using this
      rw [List.getElem?_set_self hi] at hj
      cases hj
      rw [List.getElem?_set_self (by rw [R.len]; exact hi)]
      exact ⟨h0p, hpm, xs, upd_same, h.mono e⟩
    · rw [List.getElem?_set_ne z] at hj ⊢
      exact R1.slots j sl hj
  · have addr : ∀ (k : Nat) (ds : List D), r[k]? = some (Slot.own ds) → σ[k]? ≠ some (some (V.ref p)) := fun k ds hk z => by
      have := R.slots k _ hk
      rw [z] at this
      obtain ⟨_, _, _, q, _⟩ := this
      rw [q] at hp; cases hp
    by_cases z1 : i = k
    · subst z1
      have z2 : i ≠ j := hne
      rw [List.getElem?_set_ne z2] at h2 h4
      have hi : i < σ.length := by
        have := (List.getElem?_eq_some_iff.mp h1).1
        simpa using this
      rw [List.getElem?_set_self hi] at h1
      cases h1
      exact addr j es h4 h2
    · rw [List.getElem?_set_ne z1] at h1 h3
      by_cases z2 : i = j
      · subst z2
        have hi : i < σ.length := by
          have := (List.getElem?_eq_some_iff.mp h2).1
          simpa using this
        rw [List.getElem?_set_self hi] at h2
        cases h2
        exact addr k ds' h3 h1
      · rw [List.getElem?_set_ne z2] at h2 h4
        exact R.dis k j a ds' es hne h1 h2 h3 h4
/-- .. one that lies there since -/
theorem Rel.ownAt (R : Rel C H0 mu0 σ H r st mu) {p : Addr} {xs : List V} {ds : List D} (i : Nat) (hp : H p = none) (e : Ext mu mu1 H H1) (s : SRel C H1 mu1 st1) (hx : H1 p = some (.lst xs)) (hm : p ∉ mu1) (h : SdA C.K H1 mu1 xs ds) : Rel C H0 mu0 (σ.set i (some (.ref p))) H1 (r.set i (.own ds)) st1 mu1 := by
  have hpm : p ∉ mu := fun z => by
    obtain ⟨_, q⟩ := R.srel.inMu z
    rw [q] at hp; cases hp
  have h0p : H0 p = none := R.ext.isSome hp (fun z => hpm (R.ext.mem z))
  have R1 := R.step e s
  refine ⟨by rw [List.length_set, List.length_set]; exact R.len, fun j sl hj => ?_, fun k j a ds' es hne h1 h2 h3 h4 => ?_, s, R1.ext⟩
  · by_cases z : i = j
    · subst z
      have hi : i < r.length := by
        have := (List.getElem?_eq_some_iff.mp hj).1
        simpa using this
      rw [List.getElem?_set_self hi] at hj
      cases hj
      rw [List.getElem?_set_self (by rw [R.len]; exact hi)]
      exact ⟨h0p, hm, xs, hx, h⟩
    · rw [List.getElem?_set_ne z] at hj ⊢
      exact R1.slots j sl hj
  · have addr : ∀ (k : Nat) (ds : List D), r[k]? = some (Slot.own ds) → σ[k]? ≠ some (some (V.ref p)) := fun k ds hk z => by
      have := R.slots k _ hk
      rw [z] at this
      obtain ⟨_, _, _, q, _⟩ := this
      rw [q] at hp; cases hp
    by_cases z1 : i = k
    · subst z1
      have z2 : i ≠ j := hne
      rw [List.getElem?_set_ne z2] at h2 h4
      have hi : i < σ.length := by
        have := (List.getElem?_eq_some_iff.mp h1).1
        simpa using this
      rw [List.getElem?_set_self hi] at h1
      cases h1
      exact addr j es h4 h2
    · rw [List.getElem?_set_ne z1] at h1 h3
      by_cases z2 : i = j
      · subst z2
        have hi : i < σ.length := by
          have := (List.getElem?_eq_some_iff.mp h2).1
          simpa using this
        rw [List.getElem?_set_self hi] at h2
        cases h2
        exact addr k ds' h3 h1
      · rw [List.getElem?_set_ne z2] at h2 h4
        exact R.dis k j a ds' es hne h1 h2 h3 h4
/-- an owned list is changed -/
theorem Rel.grow (R : Rel C H0 mu0 σ H r st mu) {i : Nat} {a : Addr} {ys : List V} {ds es : List D} (hi : r[i]? = some (.own ds)) (hs : σ[i]? = some (some (.ref a))) (h : SdA C.K H mu ys es) :
    Rel C H0 mu0 σ (L2.upd H a (.lst ys)) (r.set i (.own es)) st mu := by
  have hq := R.slots i _ hi
  rw [hs] at hq
  obtain ⟨h0, hm, xs, hx, _⟩ := hq
  have ex : Ext mu0 mu H0 (L2.upd H a (.lst ys)) := by
    refine ⟨R.ext.pre, fun b o q n m => ?_, fun b zs q n => ?_, fun b ps q => ?_, R.ext.new, fun b C dx fs q n => by rw [upd_ne (ne_of_none q h0)]; exact R.ext.keepI b C dx fs q n⟩
    · rw [upd_ne (ne_of_none q h0)]; exact R.ext.keepN b o q n m
    · rw [upd_ne (ne_of_none q h0)]; exact R.ext.keepL b zs q n
    · rw [upd_ne (ne_of_none q h0)]; exact R.ext.keepT b ps q
  have sd := ExtW.updL (mu := mu) (o := .lst ys) hx
  have sr : SRel C (L2.upd H a (.lst ys)) mu st := R.srel.updL hx hm
  refine ⟨by rw [List.length_set]; exact R.len, fun j sl hj => ?_, fun k j b ds' es' hne h1 h2 h3 h4 => ?_, sr, ex⟩
  · by_cases z : i = j
    · subst z
      rw [List.getElem?_set_self (List.getElem?_eq_some_iff.mp hi).1] at hj
      cases hj
      rw [hs]
      exact ⟨h0, hm, ys, upd_same, h.monoW sd⟩
    · rw [List.getElem?_set_ne z] at hj
      have hq := R.slots j sl hj
      cases sl with
      | no => exact trivial
      | val d =>
        match hs' : σ[j]?, hq with
        | some (some v), hq => exact Sd.monoW sd hq
      | own ds' =>
        match hs' : σ[j]?, hq with
        | some (some (.ref b)), ⟨q1, q2, zs, q3, q4⟩ =>
          have nb : b ≠ a := fun z' => by
            subst z'
            exact R.dis i j b ds ds' z hs hs' hi hj
          exact ⟨q1, q2, zs, by rw [upd_ne nb]; exact q3, q4.monoW sd⟩
  · have old : ∀ (k : Nat) (ds' : List D), (r.set i (Slot.own es))[k]? = some (Slot.own ds') → ∃ ds2, r[k]? = some (Slot.own ds2) := fun k ds' hk => by
      by_cases z : i = k
      · subst z; exact ⟨ds, hi⟩
      · rw [List.getElem?_set_ne z] at hk; exact ⟨ds', hk⟩
    obtain ⟨d1, o1⟩ := old k ds' h3
    obtain ⟨d2, o2⟩ := old j es' h4
    exact R.dis k j b d1 d2 hne h1 h2 o1 o2
/-- an owned list is frozen -/
theorem Rel.frz (R : Rel C H0 mu0 σ H r st mu) {i : Nat} {a : Addr} {xs : List V} {ds : List D} {o : Obj} (hi : r[i]? = some (.own ds)) (hs : σ[i]? = some (some (.ref a))) (hx : H a = some (.lst xs)) :
    Rel C H0 mu0 σ (L2.upd H a (.frz o (.lst xs))) (r.set i (.val (.lst ds))) st mu := by
  have hq := R.slots i _ hi
  rw [hs] at hq
  obtain ⟨h0, hm, xs', hx', hd⟩ := hq
  rw [hx] at hx'; cases hx'
  have sd := ExtW.updL (mu := mu) (o := .frz o (.lst xs)) hx
  have sr : SRel C (L2.upd H a (.frz o (.lst xs))) mu st := R.srel.updL hx hm
  have ex : Ext mu0 mu H0 (L2.upd H a (.frz o (.lst xs))) := by
    refine ⟨R.ext.pre, fun b o' q n m => ?_, fun b zs q n => ?_, fun b ps q => ?_, R.ext.new, fun b C dx fs q n => by rw [upd_ne (ne_of_none q h0)]; exact R.ext.keepI b C dx fs q n⟩
    · rw [upd_ne (ne_of_none q h0)]; exact R.ext.keepN b o' q n m
    · rw [upd_ne (ne_of_none q h0)]; exact R.ext.keepL b zs q n
    · rw [upd_ne (ne_of_none q h0)]; exact R.ext.keepT b ps q
  refine ⟨by rw [List.length_set]; exact R.len, fun j sl hj => ?_, fun k j b ds' es' hne h1 h2 h3 h4 => ?_, sr, ex⟩
  · by_cases z : i = j
    · subst z
      rw [List.getElem?_set_self (List.getElem?_eq_some_iff.mp hi).1] at hj
      cases hj
      rw [hs]
      exact .lst (.inl ⟨o, upd_same⟩) (hd.monoW sd)
    · rw [List.getElem?_set_ne z] at hj
      have hq := R.slots j sl hj
      cases sl with
      | no => exact trivial
      | val d =>
        match hs' : σ[j]?, hq with
        | some (some v), hq => exact Sd.monoW sd hq
      | own ds' =>
        match hs' : σ[j]?, hq with
        | some (some (.ref b)), ⟨q1, q2, zs, q3, q4⟩ =>
          have nb : b ≠ a := fun z' => by
            subst z'
            exact R.dis i j b ds ds' z hs hs' hi hj
          exact ⟨q1, q2, zs, by rw [upd_ne nb]; exact q3, q4.monoW sd⟩
  · have old : ∀ (k : Nat) (ds' : List D), (r.set i (Slot.val (.lst ds)))[k]? = some (Slot.own ds') → r[k]? = some (Slot.own ds') := fun k ds' hk => by
      by_cases z : i = k
      · subst z
        rw [List.getElem?_set_self (List.getElem?_eq_some_iff.mp hi).1] at hk
        cases hk
      · rw [List.getElem?_set_ne z] at hk; exact hk
    exact R.dis k j b ds' es' hne h1 h2 (old k ds' h3) (old j es' h4)
theorem Rel.no (R : Rel C H0 mu0 σ H r st mu) (i : Nat) : Rel C H0 mu0 (σ.set i none) H (r.set i .no) st mu := by
  refine ⟨by rw [List.length_set, List.length_set]; exact R.len, fun j sl hj => ?_, fun k j a ds es hne h1 h2 h3 h4 => ?_, R.srel, R.ext⟩
  · by_cases e : i = j
    · subst e
      have hi : i < r.length := by
        have := (List.getElem?_eq_some_iff.mp hj).1
        simpa using this
      rw [List.getElem?_set_self hi] at hj
      cases hj
      exact trivial
    · rw [List.getElem?_set_ne e] at hj ⊢
      exact R.slots j sl hj
  · have ne : ∀ (k : Nat) (ds : List D), (r.set i Slot.no)[k]? = some (Slot.own ds) → i ≠ k := fun k ds hk z => by
      subst z
      have hi : i < r.length := by
        have := (List.getElem?_eq_some_iff.mp hk).1
        simpa using this
      rw [List.getElem?_set_self hi] at hk
      cases hk
    have n1 := ne k ds h3
    have n2 := ne j es h4
    rw [List.getElem?_set_ne n1] at h1 h3
    rw [List.getElem?_set_ne n2] at h2 h4
    exact R.dis k j a ds es hne h1 h2 h3 h4
theorem Rel.wipe (R : Rel C H0 mu0 σ H r st mu) : ∀ vs : List Nat, Rel C H0 mu0 (L2.wipe σ vs) H (wipeE r vs) st mu
  | [] => R
  | v :: vs => (Rel.wipe R vs).no v
end
end Rt
namespace Rt
open PySem PySem.Spec PyProof.Rows L2
section
variable {X : Cx}
theorem peImp {e : Expr} {t t' : TE} (h : PE X e t) (w : ∀ σ H Q, t' σ H Q → t σ H Q) : PE X e t' := ⟨fun pins s σ H Q I q => h.run pins s σ H Q I (w σ H Q q)⟩
theorem ptImp {e : Expr} {t t' : TT} (h : PT X e t) (w : ∀ σ H Q, t' σ H Q → t σ H Q) : PT X e t' := ⟨fun pins s σ H Q I q => h.run pins s σ H Q I (w σ H Q q)⟩
theorem pwImp {e : Expr} {t t' : TT} (h : PW X e t) (w : ∀ σ H Q, t' σ H Q → t σ H Q) : PW X e t' := ⟨fun wh pins s σ H Q I q => h.run wh pins s σ H Q I (w σ H Q q)⟩
theorem paImp {es : List Expr} {t t' : TA} (h : PA X es t) (w : ∀ σ H Q, t' σ H Q → t σ H Q) : PA X es t' := ⟨fun pos pins s σ H Q I q => h.run pos pins s σ H Q I (w σ H Q q)⟩
theorem psImp {st : Stmt} {t t' : TS} (h : PS X st t) (w : ∀ D σ H, t' D σ H → t D σ H) : PS X st t' := ⟨fun pins s σ H D I q => h.run pins s σ H D I (w D σ H q)⟩
theorem pssImp {st : List Stmt} {t t' : TS} (h : PSs X st t) (w : ∀ D σ H, t' D σ H → t D σ H) : PSs X st t' := ⟨fun pins s σ H D I q => h.run pins s σ H D I (w D σ H q)⟩
theorem piImp {tg iter : Expr} {t t' : TI} (h : PI X tg iter t) (w : ∀ σ H R, t' σ H R → t σ H R) : PI X tg iter t' := ⟨fun pins s σ H R I q => h.run pins s σ H R I (w σ H R q)⟩
theorem pgImp {tg : Expr} {t t' : TG} (h : PG X tg t) (w : ∀ v σ H Q, t' v σ H Q → t v σ H Q) : PG X tg t' := ⟨fun pins s σ H v u Q I r q => h.run pins s σ H v u Q I r (w v σ H Q q)⟩
/-- the list that came is frozen -/
theorem peFrz {e : Expr} {t : TE} (h : PE X e t) : PE X e (fun σ H Q => t σ H fun v H1 => ∃ a xs, v = .ref a ∧ H1 a = some (.lst xs) ∧ ∀ o, Q v (upd H1 a (.frz o (.lst xs)))) := by
  refine ⟨fun pins s σ H Q I q => thn (h.run pins s σ H _ I q) fun u s1 ⟨v, H1, I1, r, a, xs, ev, ha, q1⟩ => ?_⟩
  obtain ⟨o, I2⟩ := I1.lock (u := .lst xs) ha trivial
  exact ⟨v, _, I2, r, q1 o⟩
/-- a list is frozen ahead of a block -/
theorem pssFrz {sts : List Stmt} {t : TS} (h : PSs X sts t) : PSs X sts (fun D σ H => ∃ a xs, H a = some (.lst xs) ∧ ∀ o, t D σ (upd H a (.frz o (.lst xs)))) := by
  refine ⟨fun pins s σ H D I q => ?_⟩
  obtain ⟨a, xs, ha, q1⟩ := q
  obtain ⟨o, I2⟩ := I.lock (u := .lst xs) ha trivial
  exact h.run pins s σ _ D I2 (q1 o)
/-- a if t else b, as a test -/
theorem ptIf {c a b : Expr} {pos : Pos} {tc ta tb : TT} (hc : PT X c tc) (ha : PT X a ta) (hb : PT X b tb) : PT X (.IfExp c a b pos) (fun σ H Q => tc σ H fun k H1 => if k = true then ta σ H1 Q else tb σ H1 Q) := by
  refine ⟨fun pins s σ H Q I q => ?_⟩
  have e : ∀ wh, isTrue (.IfExp c a b pos) X.env wh = (do if ← isTrue c X.env (eval c X.env) then isTrue a X.env (eval a X.env) else isTrue b X.env (eval b X.env)) := fun _ => by
    rw [PySem.isTrue]
  rw [e]
  refine wpAny_bind (thn (hc.run pins s σ H _ I q) fun k s1 ⟨H1, I1, q1⟩ => ?_)
  cases k with
  | true => exact ha.run pins s1 σ H1 Q I1 q1
  | false => exact hb.run pins s1 σ H1 Q I1 q1
theorem mulOk_ok {i j : Int} (h : mulOk i j = true) : IntMulOk i j := by
  unfold mulOk at h
  simp only [Bool.or_eq_true, Bool.and_eq_true, decide_eq_true_eq] at h
  rcases h with (h | h) | ⟨h1, h2⟩
  · exact CMul.ok (.inl ⟨by omega, by omega⟩)
  · exact CMul.ok (.inr ⟨by omega, by omega⟩)
  · refine CMulW.ok (wide_mul (a := 100000) (b := 100000) ?_ ?_ (by decide) (by decide) (by decide))
    · unfold bigN at h1; exact h1
    · unfold bigN at h2; exact h2
theorem op_mulX : OpR X (binaryOp .Mult) (rI (fun i j => mulOk i j = true) fun i j => .int (i * j)) := opI fun _ _ _ _ _ _ _ hc q => mul_int q (mulOk_ok hc)
theorem op_divX : OpR X (binaryOp .FloorDiv) (rI (fun _ j => divOk j = true) fun i j => .int (i.fdiv j)) := opI fun i j _ _ _ _ _ hc q => by
  unfold divOk at hc
  simp only [Bool.and_eq_true, decide_eq_true_eq] at hc
  refine floordiv_int hc.1 q (.inl (PyProof.noPylong_of_log2 ?_))
  unfold divN at hc
  exact PySem.Flt.log2_lt_of (by decide) hc.2
theorem op_catX : OpR X (binaryOp .Add) (fun x y H Q => ∃ l b xs zs, x = .ref l ∧ y = .ref b ∧ SqL X.K H l xs ∧ SqL X.K H b zs ∧ xs.length + zs.length ≤ sizeLine ∧ ∀ p, H p = none → Q (.ref p) (upd H p (.lst (xs ++ zs)))) := by
  intro pins s σ H x y v u Q I rx ry h
  obtain ⟨l, b, xs, zs, rfl, rfl, hH, hB, hz, q⟩ := h
  cases rx
  cases ry
  obtain ⟨its, r, ⟨⟨cls, dd, data, sl⟩, n, ho, hc, hd0, hd⟩, z⟩ := I.list hH
  obtain ⟨its2, r2, ⟨⟨cls2, dd2, data2, sl2⟩, n2, ho2, hc2, hd02, hd2⟩, z2⟩ := I.list hB
  simp only at hc hd hc2 hd2
  subst hc hd hc2 hd2
  have hl := r.length
  have hl2 := r2.length
  refine concat_meets ⟨_, ho, rfl⟩ ⟨_, ho2, rfl⟩ noFill_list_add seq_list_add PySem.F.slot_list_add PySem.F.entry_list_add (PySem.F.args_list_add_2 _ _) (list_addW l b its.toArray its2.toArray n n2 dd dd2 sl sl2 (by simp; omega)) ⟨ho, ho2, ?_⟩
  have ea : its.toArray ++ its2.toArray = (its ++ its2).toArray := by simp
  rw [ea]
  exact ⟨.ref _, _, I.lnew (t' := s.toks) (r.append r2) (by rw [List.length_append]; omega), rfl, q _ I.fresh⟩
theorem tuple_mul1 (l : Addr) (items : Array Value) (n : Nat) (dd : Option Addr) (sl : Array (Option Value)) (x : Int) (u : Tok) (c0 : (decide (x < -(2 ^ 63)) || decide (x ≥ 2 ^ 63)) = false) (c1 : (items.isEmpty || x == 1) = true) :
    Meets (Builtin.«tuple.__mul__» ⟨[.ref l, .int x u], []⟩) (fun _ R s => s.heap.get? l = some { cls := .type "tuple", dict := dd, data := .seq items n, slots := sl } ∧ R (.ok (.ret (Value.ref l))) s) :=
  .of_wp fun prog w A R s h => by
    obtain ⟨hp, g, d, tk, os⟩ := s
    obtain ⟨hl, h⟩ := h
    have f1 := AutoSeq1.idx_int
    have f2 := AutoSeq1.sub_tuple_tuple
    wp_walk using wpAny_loadPart' hl
    repeat (first
      | (refine wpAny_ite_false (decide_eq_false (by rw [c0]; exact Bool.false_ne_true)) ?_; wp_walk using wpAny_loadPart' hl)
      | (refine wpAny_ite_true (decide_eq_true c1) ?_; wp_walk using wpAny_loadPart' hl))
    exact ⟨_, rfl, h⟩
theorem tuple_mul0 (l : Addr) (items : Array Value) (n : Nat) (dd : Option Addr) (sl : Array (Option Value)) (x : Int) (u : Tok) (c0 : (decide (x < -(2 ^ 63)) || decide (x ≥ 2 ^ 63)) = false) (c1 : (items.isEmpty || x == 1) = false) (c2 : (decide (x ≤ 0) || items.isEmpty) = true) :
    Meets (Builtin.«tuple.__mul__» ⟨[.ref l, .int x u], []⟩) (fun _ R s => s.heap.get? l = some { cls := .type "tuple", dict := dd, data := .seq items n, slots := sl } ∧
      R (.ok (.ret (Value.ref s.heap.objs.size))) { s with heap := s.heap.push { cls := Value.type "tuple", data := Data.seq #[] }, toks := s.toks }) :=
  .of_wp fun prog w A R s h => by
    obtain ⟨hp, g, d, tk, os⟩ := s
    obtain ⟨hl, h⟩ := h
    have f1 := AutoSeq1.idx_int
    have f2 := AutoSeq1.sub_tuple_tuple
    wp_walk using wpAny_loadPart' hl
    repeat (first
      | (refine wpAny_ite_false (decide_eq_false (by rw [c0]; exact Bool.false_ne_true)) ?_; wp_walk using wpAny_loadPart' hl)
      | (refine wpAny_ite_false (decide_eq_false (by rw [c1]; exact Bool.false_ne_true)) ?_; wp_walk using wpAny_loadPart' hl)
      | (refine wpAny_ite_true (decide_eq_true c2) ?_; wp_walk using wpAny_loadPart' hl))
    exact ⟨_, rfl, h⟩
theorem op_repTX : OpR X (binaryOp .Mult) (fun x y H Q => ∃ l k xs, x = .ref l ∧ y = .int k ∧ SqT X.K H l xs ∧ xs ≠ [] ∧ -1000 ≤ k ∧ k ≤ 1000 ∧ xs.length ≤ 1000 ∧ (k = 1 → Q (.ref l) H) ∧ (k ≠ 1 → ∀ p, H p = none → Q (.ref p) (upd H p (.tup (List.replicate k.toNat xs).flatten)))) := by
  intro pins s σ H x y v u Q I rx ry h
  obtain ⟨l, k, xs, ex, ey, hT, hne, h0, h1, hz, q1, q2⟩ := h
  by_cases k2 : 2 ≤ k
  · exact op_repT pins s σ H x y v u Q I rx ry ⟨l, k, xs, ex, ey, hT, hne, k2, h1, hz, q2 (by omega)⟩
  subst ex ey
  cases rx
  obtain ⟨t, rfl⟩ := ry
  obtain ⟨its, r, ⟨⟨cls, dd, data, sl⟩, ho, hc, n, hd⟩, hs⟩ := I.tuple hT
  simp only at hc hd
  subst hc hd
  have hle : its.length = xs.length := r.length.symm
  have hn : its ≠ [] := fun e => hne (by
    rw [e] at hle
    exact List.eq_nil_of_length_eq_zero hle.symm)
  have hi : its.toArray.isEmpty = false := by
    cases its with
    | nil => exact absurd rfl hn
    | cons a b => rfl
  have c0 : (decide (k < -(2 ^ 63)) || decide (k ≥ 2 ^ 63)) = false := by
    rw [decide_eq_false (by omega), decide_eq_false (by omega)] <;> rfl
  by_cases k1 : k = 1
  · refine wpAny_binaryOp_repeat_ref (T := "tuple") (U := "int") (by decide) ⟨_, ho, rfl⟩ (fun s' => typeIs_int s' k t) noFill_tuple_mul F.fills_int_mul F.slot_int_rmul repeat_tuple F.slot_int_index.lookup
      (call_meets F.slot_int_rmul (typeIs_int s k t) F.entry_int_rmul (F.args_int_rmul_2 _ _) (int_rmul_tuple k t l its.toArray n dd sl)
        ⟨ho, rfl, ⟨_, ho, rfl⟩, call_meets F.slot_tuple_mul ⟨_, ho, rfl⟩ F.entry_tuple_mul (F.args_tuple_mul_2 _ _) (tuple_mul1 l its.toArray n dd sl k t c0 (by rw [hi, k1]; rfl)) ⟨ho, ?_⟩⟩)
    exact ⟨.ref l, H, I, rfl, q1 k1⟩
  · have c1 : (its.toArray.isEmpty || k == 1) = false := by
      rw [hi, Bool.false_or]
      exact beq_eq_false_iff_ne.mpr (by omega)
    have c2 : (decide (k ≤ 0) || its.toArray.isEmpty) = true := by
      rw [decide_eq_true (by omega)]; rfl
    refine wpAny_binaryOp_repeat_ref (T := "tuple") (U := "int") (by decide) ⟨_, ho, rfl⟩ (fun s' => typeIs_int s' k t) noFill_tuple_mul F.fills_int_mul F.slot_int_rmul repeat_tuple F.slot_int_index.lookup
      (call_meets F.slot_int_rmul (typeIs_int s k t) F.entry_int_rmul (F.args_int_rmul_2 _ _) (int_rmul_tuple k t l its.toArray n dd sl)
        ⟨ho, rfl, ⟨_, ho, rfl⟩, call_meets F.slot_tuple_mul ⟨_, ho, rfl⟩ F.entry_tuple_mul (F.args_tuple_mul_2 _ _) (tuple_mul0 l its.toArray n dd sl k t c0 c1 c2) ⟨ho, ?_⟩⟩)
    have e0 : (List.replicate k.toNat xs).flatten = [] := by
      rw [show k.toNat = 0 by omega]; rfl
    refine ⟨.ref s.heap.objs.size, _, I.laid (t' := s.toks) (o := .tup []) (fun b ob q => Heap.get?_push_of_some _ q) (Nat.le_refl _) ?_, rfl, ?_⟩
    · exact ⟨Nat.zero_le _, _, .nil, IsTup.new _ _⟩
    · have := q2 k1 _ (I.hok.fresh (Nat.le_refl s.heap.objs.size))
      rw [e0] at this
      exact this
end
theorem meets_enumerate_newT {v : Value} {o : Obj} {H : Heap → Prop} (B : Begins v o H) :
    Meets (Builtin.«enumerate.__new__» ⟨[.type "enumerate", v], []⟩) (fun _ R s => H s.heap ∧
      R (.ok (.ret (.ref (s.heap.push o).objs.size))) { s with heap := (s.heap.push o).push { cls := .type "enumerate", data := .fields #[.none, .bool false, .ref s.heap.objs.size, rawInt 0, .none, .none] } }) :=
  .of_wp fun prog w A R s h => by
    obtain ⟨hp, g, d, tk, os⟩ := s; obtain ⟨h1, h⟩ := h
    have hsub := sub_enumerate
    have q1 : ∀ {A' : Around} {E : Value → Shared → Prop} {Q : Value → Shared → Prop}, Q (.ref hp.objs.size) ⟨hp.push o, g, d, tk, os⟩ → wpAny (model prog w) A' (pyIter v) Q E ⟨hp, g, d, tk, os⟩ :=
      fun q => B.iter prog w _ _ ⟨hp, g, d, tk, os⟩ _ h1 q
    wp_walk using q1
    refine wpAny_stack_any fun st => wpAny_pure ?_
    split
    · rename_i c _ _ _ _ _
      cases (c == Value.type "enumerate")
      · wp_walk using q1
        exact ⟨_, rfl, h⟩
      · wp_walk using q1
        exact ⟨_, rfl, h⟩
    · wp_walk using q1
      exact ⟨_, rfl, h⟩
theorem call_enumerate_tup {prog : Program} {w : World} {A : Around} {E : Value → Shared → Prop} {s : Shared} {t : Addr} {items : Array Value} {Q : Value → Shared → Prop} (hT : s.heap.IsTuple t items)
    (h : ∀ h', IsEnum h' (s.heap.objs.size + 1) s.heap.objs.size 0 .none → h'.IsTupleIter s.heap.objs.size t 0 → h'.objs.size = s.heap.objs.size + 2 →
      (∀ b o, s.heap.get? b = some o → h'.get? b = some o) → Q (.ref (s.heap.objs.size + 1)) { s with heap := h' }) :
    wpAny (model prog w) A (call (.type "enumerate") [.ref t]) Q E s := by
  have B := begins_tuple t items
  refine callType_new F.called_enumerate (by decide) (F.typeCall_enumerate_1 _) (F.newCall_enumerate_1 _) (fun obj => F.args_object_init_2 obj _) F.entry_enumerate_new
    (meets_enumerate_newT B) ⟨hT, ?_⟩
  have hz : (s.heap.push { cls := .type "tuple_iterator", data := .fields #[.ref t, .int 0 0] }).objs.size = s.heap.objs.size + 1 := Heap.size_push ..
  show _ ∧ _
  rw [hz]
  have he : IsEnum ((s.heap.push { cls := .type "tuple_iterator", data := .fields #[.ref t, .int 0 0] }).push { cls := .type "enumerate", data := .fields #[.none, .bool false, .ref s.heap.objs.size, rawInt 0, .none, .none] }) (s.heap.objs.size + 1) s.heap.objs.size 0 .none := by
    have := Heap.get?_push_size (s.heap.push { cls := .type "tuple_iterator", data := .fields #[.ref t, .int 0 0] }) (o := { cls := .type "enumerate", data := .fields #[.none, .bool false, .ref s.heap.objs.size, rawInt 0, .none, .none] }) rfl
    rw [hz] at this; exact this
  refine ⟨⟨_, he, rfl⟩, h _ he ?_ (by rw [Heap.size_push, hz]) fun b o x => Heap.get?_push_of_some _ (Heap.get?_push_of_some _ x)⟩
  exact ⟨_, Heap.get?_push_of_some _ (Heap.get?_push_size _ rfl), rfl, rfl⟩
def IteT (K : PySem.W.Frag) (a : Addr) : L2.It :=
  ⟨fun i H => ∃ (xs : List V) (x : V), SqT K H a xs ∧ xs[i]? = some x, fun i H v H' => ∃ T x, v = .ref T ∧ H T = none ∧ H' = upd H T (.tup [.int (i : Nat), x]) ∧ ∀ xs, SqT K H a xs → xs[i]? = some x, fun i H => ∃ xs : List V, SqT K H a xs ∧ xs.length ≤ i⟩
theorem sqT_ne {K : PySem.W.Frag} {X : Cx} {pins : List (Addr × Obj)} {σ : L2.St} {H : Hp} {s : Shared} {a b : Addr} {xs : List V} {o : Obj} {c : String} (I : L2.Inv X pins σ H s) (h : SqT X.K H a xs) (hb : s.heap.get? b = some o) (hc : o.cls = .type c) (n : c ≠ "tuple") : a ≠ b := fun z => by
  subst z
  obtain ⟨its, _, ⟨o', e, c', _⟩, _⟩ := I.tuple h
  rw [hb] at e; cases e
  rw [hc] at c'
  exact n (by injection c')
theorem turn_enumT {P : Program} {w : World} {K : PySem.W.Frag} {elts : List Expr} {kk : Nat} {tpos : Pos} (a e it : Addr) :
    Turn P w K (.Tuple elts kk tpos) (IteT K a) [e, it] e (fun i h => (∃ old, IsEnum h e it ((i : Nat) : Int) old) ∧ h.IsTupleIter it a i ∧ e ≠ it) where
  mem := by simp
  obj := fun i h st b hb => by
    obtain ⟨⟨old, he⟩, ⟨o, ho, hc, hd⟩, _⟩ := st
    have e' : b = e ∨ b = it := by simpa using hb
    rcases e' with z | z
    · rw [z]; exact ⟨_, he, fun v q => nomatch q⟩
    · rw [z]; exact ⟨o, ho, fun v q => by rw [hd] at q; cases q⟩
  keep := fun i h h' st k => let ⟨⟨old, he⟩, hi, hne⟩ := st; ⟨⟨old, k e (by simp) _ he⟩, hi.at fun o q => k it (by simp) o q, hne⟩
  item := by
    intro X hP hw hK hc i pins s σ H E I hf st hg
    subst hP hw hK
    obtain ⟨⟨old, he⟩, hit, hne⟩ := st
    obtain ⟨xs, x, hq, hx⟩ := hg
    obtain ⟨its, rv, p, hz⟩ := I.tuple hq
    obtain ⟨u, hu, ru⟩ := rv.get hx
    have hel : e < s.heap.objs.size := Heap.lt_size he
    have hil : it < s.heap.objs.size := by obtain ⟨_, q, _⟩ := hit; exact Heap.lt_size q
    have ai : a ≠ it := by obtain ⟨o, q, c, _⟩ := hit; exact sqT_ne (K := X.K) I hq q c (by decide)
    have ae : a ≠ e := sqT_ne (K := X.K) I hq he rfl (by decide)
    have hh : X.A.in1.handled = none := I.ok.hd hc
    have D := Draws.tuple (prog := X.prog) (w := X.w) hh it a ai its.toArray
    have hlt : i < its.toArray.size := by
      have := (List.getElem?_eq_some_iff.mp hu).1
      simpa using this
    refine wpAny_pyNext_enum_itemC D he (i := i) ⟨hit, p⟩ hlt hne (by simp; exact ⟨hne, fun z => ae z.symm⟩) fun x' h' tk hx' ho hst' hT hsz hk => ?_
    have ex : x' = u := by
      have h1 : its[i]? = some x' := by simpa using hx'
      rw [hu] at h1; exact (Option.some.inj h1).symm
    subst ex
    refine ⟨_, rfl, wpAny_letOwnedTupleGo_enum (s := { s with heap := h', toks := tk + 1 }) ho fun h'' he' sb => ?_⟩
    have hT2 : h''.get? s.heap.objs.size = some { cls := .type "tuple", data := .seq #[.int i tk, x'] } := (sb.2 _ (Nat.ne_of_gt hel)).trans hT
    have new : ObjOk X.prog X.w (upd H s.heap.objs.size (.tup [.int (i : Nat), x])) h'' s.heap.objs.size (.tup [.int (i : Nat), x]) :=
      ⟨by show 2 ≤ sizeLine; decide, [.int i tk, x'], .cons ⟨_, rfl⟩ (.cons ru .nil), ⟨_, hT2, rfl, _, rfl⟩⟩
    have I1 : L2.Inv X pins σ (upd H s.heap.objs.size (.tup [.int (i : Nat), x])) { s with heap := h'', toks := tk + 1 } :=
      I.turnedNew (ch := [e, it]) (fun b ob hb q => (sb.2 b (fun z => hb (by simp [z]))).trans (hk b ob (fun z => hb (by simp [z])) (fun z => hb (by simp [z])) q)) hf (Nat.le_refl _) new
    refine ⟨.ref s.heap.objs.size, _, I1, rfl, ⟨_, x, rfl, I.hok.fresh (Nat.le_refl _), rfl, fun ys hy => by rw [I.tuple_inj hy hq]; exact hx⟩, ⟨⟨x', ?_⟩, hst'.1.at fun o q => (sb.2 it (Ne.symm hne)).trans q, hne⟩, fun b hb => ?_⟩
    · have e1 : ((i + 1 : Nat) : Int) = (i : Int) + 1 := by omega
      rw [e1]; exact he'
    · have hb' : b < s.heap.objs.size := by
        have e' : b = e ∨ b = it := by simpa using hb
        rcases e' with z | z
        · rw [z]; exact hel
        · rw [z]; exact hil
      rw [upd_ne (Nat.ne_of_lt hb')]
      exact (hf b hb).1
  done := by
    intro X hP hw hK hc i pins s σ H E I hf st hg
    subst hP hw hK
    obtain ⟨⟨old, he⟩, hit, hne⟩ := st
    obtain ⟨xs, hq, hx⟩ := hg
    obtain ⟨its, rv, p, hz⟩ := I.tuple hq
    obtain ⟨f0, f1, f2, f3, f4, f5⟩ := hf it (by simp)
    have hl := rv.length
    have ai : a ≠ it := by obtain ⟨o, q, c, _⟩ := hit; exact sqT_ne (K := X.K) I hq q c (by decide)
    have hh : X.A.in1.handled = none := I.ok.hd hc
    have D0 := Draws.tuple (prog := X.prog) (w := X.w) hh it a ai its.toArray
    have D : Draws X.prog X.w X.A.in1 it [it, a] i (fun j v => False) (fun j h => j = i ∧ h.IsTupleIter it a i ∧ h.IsTuple a its.toArray) := by
      refine ⟨fun _ _ st => let ⟨o, ho, _⟩ := st.2.1; ⟨o, ho⟩, fun _ _ _ st hk => ⟨st.1, st.2.1.at fun o e => hk it (by simp) o e, st.2.2.at fun o e => hk a (by simp) o e⟩, fun j s' Q E' hj st => ?_, fun s' Q E' st hE => ?_⟩
      · exact absurd st.1 (Nat.ne_of_lt hj)
      · exact wpAny_nextOf_tuple_end hh st.2.1 st.2.2 (by simp; omega) hE
    exact wpAny_pyNext_enum_endD D he ⟨rfl, hit, p⟩ fun h' eb => ⟨rfl, I.turned (t' := s.toks) (fun b o hb q => eb b o hb q) f0 f1 f3 f4 f5⟩
  self := fun A i s Q E st h => let ⟨⟨_, he⟩, _⟩ := st; wpAny_pyIter_enum he h
def iEnumA (K : PySem.W.Frag) (ta : TA) : TI := fun σ H R => ta σ H fun vs H1 => ∃ a xs, vs = [.ref a] ∧ ((SqL K H1 a xs ∧ R (Ite K a) H1) ∨ (SqT K H1 a xs ∧ R (IteT K a) H1))
theorem pi_enumA {X : Cx} {e : Expr} {ta : TA} {p pos tpos : Pos} {elts : List Expr} {kk : Nat} (hg : Gl X "enumerate") (hm : X.mg "enumerate" = none) (ha : PA X [e] ta) (hs : starEach [e] X.env = [(false, eval e X.env)] := by rfl) :
    PI X (.Tuple elts kk tpos) (.Call (.Name "enumerate" p) [e] [] pos) (iEnumA X.K ta) := by
  refine ⟨fun pins s σ H R I h => ?_⟩
  refine Call_ (ld_blt I hg hm boot_enumerate (PyProof.Rows.callWith_type1 (thn (ha.run pos pins s σ H _ I h) fun us s1 ⟨vs, H1, I1, r1, q1⟩ => ?_) hs rfl))
  obtain ⟨a, xs, ex, q1⟩ := q1
  subst ex
  cases r1 with
  | cons r rr =>
    cases rr
    cases r
    have fin : ∀ b, (b = s1.heap.objs.size + 1 ∨ b = s1.heap.objs.size) → FpOk X pins H1 b := fun b e' => by
      have hle : s1.heap.objs.size ≤ b := by
        rcases e' with z | z
        · rw [z]; exact Nat.le_add_right _ _
        · rw [z]; exact Nat.le_refl _
      exact I1.fpOk hle (I1.hok.fresh hle)
    rcases q1 with ⟨hq, q⟩ | ⟨hq, q⟩
    · obtain ⟨its, rv, p', hz⟩ := I1.list hq
      refine call_enumerate_list p'.isList fun h' he hit hsz hk => wpAny_pyIter_enum he ?_
      have I2 : L2.Inv X pins σ H1 { s1 with heap := h' } := I1.kept (t' := s1.toks) hk
      exact ⟨s1.heap.objs.size + 1, [s1.heap.objs.size + 1, s1.heap.objs.size], _, _, H1, rfl, I2, turn_enum a (s1.heap.objs.size + 1) s1.heap.objs.size, ⟨⟨.none, he⟩, hit, Nat.succ_ne_self _⟩, fun b hb => fin b (by simpa using hb), q⟩
    · obtain ⟨its, rv, p', hz⟩ := I1.tuple hq
      refine call_enumerate_tup p' fun h' he hit hsz hk => wpAny_pyIter_enum he ?_
      have I2 : L2.Inv X pins σ H1 { s1 with heap := h' } := I1.kept (t' := s1.toks) hk
      exact ⟨s1.heap.objs.size + 1, [s1.heap.objs.size + 1, s1.heap.objs.size], _, _, H1, rfl, I2, turn_enumT a (s1.heap.objs.size + 1) s1.heap.objs.size, ⟨⟨.none, he⟩, hit, Nat.succ_ne_self _⟩, fun b hb => fin b (by simpa using hb), q⟩
end Rt
set_option maxHeartbeats 2000000
namespace Rt
open PySem PySem.Spec PyProof.Rows L2
/-- an exception in the air of X, the frame's own names at L -/
def XEL (X : Cx) (L : Addr) (W : WX) (u : Value) (s' : Shared) : Prop :=
  ∃ (a : Addr) (B : Heap) (sI : Shared) (pins : List (Addr × Obj)) (σ : L2.St) (H : Hp) (cls : Value) (d : Option Addr),
    u = .ref a ∧ Inv X pins σ H sI ∧ (∀ b o, sI.heap.get? b = some o → b ∉ frs X.stack → B.get? b = some o) ∧ sI.heap.UpToSlots s'.heap ∧
      Sky B X.stack a (L2N.Zn cls d) L s'.heap ∧ H a = none ∧ s'.os = sI.os ∧ AllBare s'.gens ∧ W cls d σ H
def TakesL (X : Cx) (L : Addr) (W : WX) : Prop := ∀ u s', XEL X L W u s' → X.xe u s'
section
variable {X : Cx} {pins : List (Addr × Obj)} {σ : L2.St} {H : Hp} {sI s s' : Shared} {B : Heap} {W : WX} {E : XK} {L : Addr}
theorem takesL_of (t : L2N.Takes X W) : TakesL X X.env.locals W := t
theorem XEL.of_call (I : Inv X pins σ H s) (hW : ∀ cls d H', E cls d H' → W cls d σ H') {u : Value} (c : L2N.CX X.prog X.w X.stack H s E u s') : XEL X L W u s' := by
  obtain ⟨a, B, H', cls, d, rfl, fl, hok, ub, na, os, ag, hE⟩ := c
  obtain ⟨G, g1, g2⟩ := restrict s'.heap fun b => (B.get? b).isSome || decide (b ∈ frs X.stack)
  have st : B.StaysIn s'.heap := fl.1
  have gB : ∀ b o, B.get? b = some o → G.get? b = some o := fun b o e => by
    rw [g1 b (by simp [e])]
    exact st b o e
  have gF : ∀ b, b ∈ frs X.stack → G.get? b = s'.heap.get? b := fun b hb => g1 b (by simp [hb])
  have og : ∀ b o, G.get? b = some o → s'.heap.get? b = some o ∧ ((B.get? b).isSome = true ∨ b ∈ frs X.stack) := fun b o e => by
    cases q : ((B.get? b).isSome || decide (b ∈ frs X.stack)) with
    | false => rw [g2 b q] at e; cases e
    | true =>
      rw [g1 b q] at e
      exact ⟨e, by simpa [Bool.or_eq_true] using q⟩
  refine ⟨a, B, { s with heap := G, gens := s'.gens, drawn := s'.drawn, toks := s'.toks }, pins, σ, H', cls, d, rfl, ?_, fun b o e hb => ?_, Heap.UpToSlots.of_keeps fun b o e => (og b o e).1, .inr (.inl fl), na, os, ag, hW _ _ _ hE⟩
  · refine I.call (ch := []) ⟨fun b o e n hb _ => gB b o (ub.keep b o e n hb), fun b o e n hb _ => ?_, fun b o e n _ => ub.free b o e n, fun b o e _ => ?_, ub.tups, ub.frzs, ub.tbls⟩ (hok.kept gB) ag (fun _ z => nomatch z)
    · obtain ⟨sl, q⟩ := ub.slot b o e hb
      exact ⟨sl, by rw [gF b hb]; exact q⟩
    · by_cases hb : b ∈ frs X.stack
      · obtain ⟨sl, q⟩ := ub.slot b o e hb
        exact ⟨_, by rw [gF b hb]; exact q⟩
      · obtain ⟨o', q⟩ := ub.there b o e hb
        exact ⟨o', gB b o' q⟩
  · obtain ⟨e', h⟩ := og b o e
    rcases h with h | h
    · obtain ⟨o', q⟩ := Option.isSome_iff_exists.mp h
      have z := st b o' q
      rw [e'] at z; cases z
      exact q
    · exact absurd h hb
theorem XEL.new {a : Addr} {oe : Obj} {vs : Array Value} {cls : Value} {d : Option Addr} (I : Inv X pins σ H sI) (k : ∀ b o, sI.heap.get? b = some o → s'.heap.get? b = some o) (hne : sI.heap.get? a = none) (he : s'.heap.get? a = some oe)
    (hz : L2N.Zn cls d oe) (hd : oe.data = .fields vs) (h1 : vs[1]? = some .none) (na : H a = none) (os : s'.os = sI.os) (ag : AllBare s'.gens) (w : W cls d σ H) : XEL X L W (.ref a) s' := by
  refine ⟨a, PySem.W.hideAll sI.heap (frs X.stack), sI, pins, σ, H, cls, d, rfl, I, fun b o e hb => PySem.W.hideAll_get _ e hb, Heap.UpToSlots.of_keeps k,
    .inl ⟨fun b o e => k b o (PySem.W.of_hideAll _ e), ?_, ?_, oe, vs, he, hz, hd, h1⟩, na, os, ag, w⟩
  · cases q : (PySem.W.hideAll sI.heap (frs X.stack)).get? a with
    | none => rfl
    | some o =>
      have z := PySem.W.of_hideAll _ q
      rw [hne] at z; cases z
  · exact Heap.FunFrames.of_keeps (fun b o e _ => ⟨o, k b o e, rfl⟩) (funFrames_none I.stack fun b hb => PySem.W.hideAll_none _ hb)
theorem passesL (tk : TakesL X L W) (hW : ∀ cls d σ H, E cls d H → W cls d σ H) : ∀ (pins : List (Addr × Obj)) (σ : L2.St) (H : Hp) (s : Shared) (e : Value) (s' : Shared), Inv X pins σ H s → L2N.CX X.prog X.w X.stack H s E e s' → X.xe e s' :=
  fun _ σ _ _ e s' I c => tk e s' (XEL.of_call I (fun cls d H' h => hW cls d σ H' h) c)
end
theorem ps_raiseL {X : Cx} {L : Addr} {W : WX} {e : Expr} {t : L2.St → Hp → XK → Prop} {pos : Pos} (hc : X.calm = true) (tk : TakesL X L W) (he : L2N.PMk X e t) : PS X (.Raise (some e) none pos) (fun _ σ H => t σ H fun cls d H' => W cls d σ H') := by
  refine ⟨fun pins s σ H D I h => ?_⟩
  show wpAny _ _ (do standAt pos; raiseStmt X.env (some (do let v ← eval e X.env; standAt pos; pure v)) none) _ _ _
  refine wpAny_bind (wpAny_standAt (raise_made (I.ok.hd hc) (wpAny_bind (wpAny_mono (he pins s σ H _ I h) (fun u s1 hu => wpAny_bind (wpAny_standAt (wpAny_pure ?_))) fun _ _ x => x))))
  obtain ⟨a, oe, vs, sI, H', cls, d, rfl, J, k, hne, ha, hz, hd, h1, na, os, ag, r, q⟩ := hu
  obtain ⟨r1, r2⟩ := r (model X.prog X.w) s1.heap (J.kIn.keeps k)
  exact ⟨a, oe, vs, cls, rfl, ha, hz.1, hd, h1, r1, r2, tk _ _ (XEL.new J k hne ha hz hd h1 na os ag q)⟩
/-- a block's context that lets out -/
abbrev blkX (X : Cx) (s : Shared) (H : Hp) (scope : Scope) (cenv : PySem.Env) (fp : List Addr) (xe : Value → Shared → Prop) : Cx := { X.blk s H scope cenv fp with xe := xe }
theorem invXe {X : Cx} {pins : List (Addr × Obj)} {σ : L2.St} {H : Hp} {s : Shared} {xe : Value → Shared → Prop} (I : Inv X pins σ H s) : Inv { X with xe := xe } pins σ H s := by
  obtain ⟨ok, a1, a2, a3, a4, a5, a6, a7, a8, a9, a10⟩ := I
  exact ⟨⟨ok.mod, ok.kind, ok.glob, ok.blt, ok.above, ok.inj, ok.has, ok.cab, ok.hd, ok.frames, ok.stk, ok.exf, ok.bs, ok.bsz, ok.noex, ok.exfs, ok.funs, ok.frf⟩, a1, a2, a3, a4, a5, a6, a7, a8, a9, a10⟩
theorem frames_base {h B B' : Heap} (k : ∀ b, B.get? b = none → B'.get? b = none) : ∀ {l : List PySem.Env}, h.FunFrames B l → h.FunFrames B' l
  | [], _ => trivial
  | _ :: _, ⟨hk, ⟨L', o, hf, hb, ho, hd⟩, hr⟩ => ⟨hk, ⟨L', o, hf, k _ hb, ho, hd⟩, frames_base k hr⟩
theorem note_env (e : Value) {cenv env : PySem.Env} (h : cenv.frame = env.frame) : noteFrame e cenv = noteFrame e env := by
  unfold noteFrame PySem.frameOf
  rw [h]
theorem ns_slots {h h' : Heap} {L : Addr} {m : Str → Option Value} (hn : h.Ns L m) (hk : ∀ b o, h.get? b = some o → (∀ vs, o.data ≠ .fields vs) → ∃ sl, h'.get? b = some { o with slots := sl }) : h'.Ns L m := by
  obtain ⟨oL, es, ep, hoL, hdL, r⟩ := hn
  obtain ⟨sl, e⟩ := hk L oL hoL fun vs q => by rw [hdL] at q; cases q
  exact ⟨_, es, ep, e, hdL, r⟩
/-- what leaves a block is taken by the def -/
theorem comp_takes {X : Cx} {W : XK} {L : Addr} {env0 : PySem.Env} {outer0 : List PySem.Env} {s3 : Shared} {H3 : Hp} {scope : Scope} {cl : List (Str × Addr)} {fp : List Addr} {pins : List (Addr × Obj)} {σ : L2.St} {ce : PySem.Env} {xe : Value → Shared → Prop}
    (hstk : X.stack = env0 :: outer0) (hf0 : env0.frame = some L) (hf : X.env.frame = some L) (tk : TakesL X L (fun cls d _ H => W cls d H)) (I3 : Inv X pins σ H3 s3) (f3 : ∀ b ∈ fp, FpOk X pins H3 b)
    (hce : ce = compEnvC scope cl s3.heap.objs.size X.env) (hxe : xe = notedBy (model X.prog X.w) X.A ce (CompFails (model X.prog X.w) X.A X.xe ce)) :
    TakesL (blkX X s3 H3 scope ce fp xe) L (fun cls d _ H => W cls d H) := by
  rintro u s' ⟨a, B, sI, pins', σ', H', cls, d, rfl, J, nb, up, sky, na, os, ag, w⟩
  show xe _ _
  rw [hxe]
  have cL : ce.locals = s3.heap.objs.size := by rw [hce]; rfl
  have cF : ce.frame = some L := by rw [hce]; exact hf
  have I7 : Inv X pins σ H' sI := I3.call' (ch := fp) J.os J.base J.hok J.bare fun b hb => ⟨(f3 b hb).2.2.2.1, (f3 b hb).2.1, (f3 b hb).2.2.2.2.1, (f3 b hb).2.2.2.2.2⟩
  have nC : H' ce.locals = none := J.free
  obtain ⟨m, hn, _⟩ := J.loc
  have hn : sI.heap.Ns ce.locals m := hn
  have hfr : X.A.frames = some (env0 :: outer0) := by rw [I3.ok.frames, hstk]
  have fpC : FpOk X pins H' ce.locals := by
    have z := nC
    rw [cL] at z ⊢
    exact I3.fpOk (Nat.le_refl _) z
  have fin : ∀ h1, HandSPX.HeldZ B (env0 :: outer0) a (L2N.Zn cls d) L h1 → s'.heap.UpToSlots h1 → CompFails (model X.prog X.w) X.A X.xe ce (.ref a) { s' with heap := h1 } := by
    intro h1 hh up1
    have hn1 : h1.Ns ce.locals m := ns_slots hn fun b o e nf => by
      obtain ⟨sl, e1⟩ := up b o e nf
      obtain ⟨sl2, e2⟩ := up1 b _ e1 nf
      exact ⟨sl2, e2⟩
    refine ⟨m, hn1, fun h2 m2 hn2 hs2 => ?_⟩
    obtain ⟨b1, b0, f1, oe, vs, T, oT, ts, he, hz, hd, hv1, hnT, hTe, hT, hdT, h3⟩ := hh
    have nf : ∀ b o vs, h1.get? b = some o → o.data = .fields vs → b ≠ ce.locals := fun b o vs e dd z => by
      obtain ⟨oL, es, ep, hoL, hdL, _⟩ := hn1
      rw [z, hoL] at e
      cases e
      rw [hdL] at dd
      cases dd
    have hB' : ∀ b, B.get? b = none → (PySem.W.hideAll B [ce.locals]).get? b = none := fun b e => by
      cases q : (PySem.W.hideAll B [ce.locals]).get? b with
      | none => rfl
      | some o =>
        have z := PySem.W.of_hideAll _ q
        rw [e] at z; cases z
    have hBC : ∀ b o, (PySem.W.hideAll B [ce.locals]).get? b = some o → b ≠ ce.locals := fun b o e z => by
      rw [z, PySem.W.hideAll_none _ (by simp)] at e
      cases e
    have hh2 : HandSPX.HeldZ (PySem.W.hideAll B [ce.locals]) (env0 :: outer0) a (L2N.Zn cls d) L h2 := by
      refine ⟨fun b o e => (hs2.2 b (hBC b o e)).trans (b1 b o (PySem.W.of_hideAll _ e)), hB' a b0, frames_base hB' (Heap.FunFrames.sameBut hs2 hn2 f1), oe, vs, T, oT, ts, (hs2.2 a (nf a _ _ he hd)).trans he, hz, hd, hv1, hB' T hnT, hTe, (hs2.2 T (nf T _ _ hT hdT)).trans hT, hdT, h3⟩
    unfold PySem.passOn
    refine wpAny_bind (wpAny_field ((hs2.2 a (nf a _ _ he hd)).trans he) hd hv1 ?_)
    rw [if_neg (show ¬ ((Value.ref T == Value.none) = true) from by simp)]
    rw [cF]
    refine wpAny_bind (HandSPX.setFlight_onZ (s := { s' with heap := h2 }) hh2 fun h4 hh4 up4 => wpAny_throw (tk _ _ ?_))
    have I8 : Inv X pins σ H' { sI with heap := PySem.W.hideAll sI.heap [ce.locals] } := I7.turned (t' := sI.toks) (fun b o hb e => PySem.W.hideAll_get _ e (by simpa using hb)) fpC.1 fpC.2.1 fpC.2.2.2.1 fpC.2.2.2.2.1 fpC.2.2.2.2.2
    have hIC : ∀ b o, (PySem.W.hideAll sI.heap [ce.locals]).get? b = some o → b ≠ ce.locals := fun b o e z => by
      rw [z, PySem.W.hideAll_none _ (by simp)] at e
      cases e
    refine ⟨a, PySem.W.hideAll B [ce.locals], { sI with heap := PySem.W.hideAll sI.heap [ce.locals] }, pins, σ, H', cls, d, rfl, I8, fun b o e hb => ?_, fun b o e nf' => ?_, .inr (.inr (by rw [hstk]; exact hh4)), na, os, ag, w⟩
    · exact PySem.W.hideAll_get _ (nb b o (PySem.W.of_hideAll _ e) hb) (by simpa using hIC b o e)
    · obtain ⟨sl, e1⟩ := up b o (PySem.W.of_hideAll _ e) nf'
      obtain ⟨sl2, e2⟩ := up1 b _ e1 nf'
      obtain ⟨sl3, e3⟩ := up4 b _ ((hs2.2 b (hIC b o e)).trans e2) nf'
      exact ⟨sl3, e3⟩
  show wpAny (model X.prog X.w) X.A (noteFrame (.ref a) ce) _ _ s'
  rw [note_env _ (cF.trans hf0.symm)]
  have sky : Sky B (env0 :: outer0) a (L2N.Zn cls d) L s'.heap := by rw [← hstk]; exact sky
  rcases sky with ⟨hB, hn', hl, oe, vs, he, hz, hd, h1⟩ | fl | hh
  · exact PXN.look_newZ L2N.Zn.steady hfr hl hf0 he hB hn' hd h1 hz fin
  · exact PXN.looks_onZ L2N.Zn.steady hfr hf0 fl fin
  · exact HandSPX.againZ hf0 hh.2.2.2 (fin s'.heap hh (Heap.UpToSlots.refl _))
end Rt
set_option maxHeartbeats 4000000
namespace Rt
open PySem PySem.Spec PyProof.Rows L2
section
variable {X : Cx}
/-- [elt for target in iter]: D the new list; W by the turn and a measure, Nx what a turn is to reach -/
def tLcX (wi : TI) (g : TG) (te : TE) (vs : List Nat) : TE := fun σ H Q => wi σ H fun J H1 => ∀ D, H1 D = none → ∃ W : Nat → Nat → Hp → Prop, (∃ m, W 0 m (upd H1 D (.lst []))) ∧ ∀ i m H, W i m H →
  (J.stop i H ∧ Q (.ref D) H) ∨ (J.go i H ∧ ∃ Nx : Hp → Prop, (∀ H', Nx H' → ∃ m', m' < m ∧ W (i + 1) m' H') ∧ ∀ x H', J.yld i H x H' → g x (wipe σ vs) H' fun σ2 H2 => wipe σ2 vs = wipe σ vs ∧
    te σ2 H2 fun y H4 => ∃ acc, H4 D = some (.lst acc) ∧ acc.length < sizeLine ∧ Nx (upd H4 D (.lst (acc ++ [y]))))
/-- how a block's parts are given -/
def Blks (X : Cx) (L : Addr) (W : XK) (scope : Scope) (P : Cx → Prop) : Prop := ∀ (s : Shared) (H : Hp) (C : Addr) (cl : List (Str × Addr)) (fp : List Addr) (xe : Value → Shared → Prop),
  TakesL (blkX X s H scope (compEnvC scope cl C X.env) fp xe) L (fun cls d _ H => W cls d H) → P (blkX X s H scope (compEnvC scope cl C X.env) fp xe)
theorem lc_coreX {pins : List (Addr × Obj)} {s : Shared} {σ : L2.St} {H : Hp} {Q : VK} {elt tg iter : Expr} {scope : Scope} {own : List (Str × Nat)} {pos pos' : Pos} {wi : TI} {g : TG} {te : TE} {use : Option (Value → Sem Unit)} {Qf : Value → Shared → Prop}
    {L : Addr} {W : XK} {env0 : PySem.Env} {outer0 : List PySem.Env} (hstk : X.stack = env0 :: outer0) (hf0 : env0.frame = some L) (hf : X.env.frame = some L) (tk : TakesL X L (fun cls d _ H => W cls d H))
    (hc : X.calm = true) (hN : X.N.Nodup) (I : Inv X pins σ H s) (hi : PI X tg iter wi) (ok : BlkOk X.N X.env.scope scope own)
    (hg : Blks X L W scope fun Y => PG Y tg g) (he : Blks X L W scope fun Y => PE Y elt te) (hs : ∀ x, foldedSetIterable iter X.env x = pure x)
    (h : tLcX wi g te (own.map (·.2)) σ H Q)
    (hRR : ∀ D (ce : PySem.Env) s' m H', Inv X pins σ H' s' → Q (.ref D) H' → s'.heap.Ns ce.locals m → FpOk X pins H' ce.locals → compEnds (model X.prog X.w) X.A X.xe use Qf (.ref D) ce (.ok .next) s') :
    wpAny (model X.prog X.w) X.A (comprehension (.ListComp elt [⟨tg, iter, [], 0⟩] scope pos) scope X.env pos' (newList []) false (eval iter X.env) use) Qf X.xe s := by
  have hfree : ∀ y ∈ scope.names, y.2 = .free → ∃ c, X.env.cells.lookup y.1 = some c := fun y hy e => by
    rcases ok.free y hy e with k | k
    · exact I.ok.has _ (.inl k)
    · exact I.ok.has _ (.inr k)
  refine comprehension_at (use := use) rfl hs (closure_ok hfree) ok.kind (fun y hy e => by rw [ok.uniq y hy, e])
    (thn (hi.run pins s σ H _ I h) fun xv s1 hx => thn hx fun itv s2 h2 => ?_)
  obtain ⟨it, fp, tn, J, H2, e, I2, T, st2, f2, q⟩ := h2
  subst e
  refine wpAny_newObj_type (newEnv_comp ?_) (by show 0 ≤ sizeLine; decide)
  generalize hD : s2.heap.objs.size = D
  have hDn : H2 D = none := I2.hok.fresh (Nat.le_of_eq hD)
  obtain ⟨W', ⟨m0, w0⟩, turn⟩ := q D hDn
  -- the new list
  generalize hs3 : ({ s2 with heap := s2.heap.push { cls := .type "list", data := .seq ([] : List Value).toArray } } : Shared) = s3
  have I3 : Inv X pins σ (upd H2 D (.lst [])) s3 := by
    rw [← hs3]
    refine I2.laid (t' := s2.toks) (fun b o e => Heap.get?_push_of_some _ e) (Nat.le_of_eq hD) ⟨Nat.zero_le _, [], 0, .nil, ?_⟩
    rw [← hD]
    exact Heap.get?_push_size _ rfl
  have h3 : s3.heap = s2.heap.push { cls := .type "list", data := .seq ([] : List Value).toArray } := by rw [← hs3]
  have sz : ∀ b ∈ fp, b < s2.heap.objs.size := fun b hb => by
    obtain ⟨o, e, _⟩ := T.obj _ _ st2 b hb
    exact Heap.lt_size e
  have f3 : ∀ b ∈ fp, FpOk X pins (upd H2 D (.lst [])) b ∧ b < s3.heap.objs.size := fun b hb => by
    have hlt := sz b hb
    refine ⟨⟨?_, (f2 b hb).2⟩, by rw [h3, Heap.size_push]; exact Nat.lt_succ_of_lt hlt⟩
    rw [upd_ne (by rw [← hD]; exact Nat.ne_of_lt hlt)]
    exact (f2 b hb).1
  have st3 : tn 0 s3.heap := T.keep _ _ _ st2 fun b _ o e => by rw [h3]; exact Heap.get?_push_of_some _ e
  have I4 := block_start I3 ok hN f3
  have nfp : ∀ b ∈ fp, (upd H2 D (.lst [])) b = none := fun b hb => (f3 b hb).1.1
  show codeAny _ _ (.compStart (.ListComp elt [⟨tg, iter, [], 0⟩] scope pos) 0 (.ref it) (.ref D) (compEnvC scope (cellsFrom (s3.heap.objs.size + 1) scope.names (cloFrom X.env.cells scope.names [])) s3.heap.objs.size X.env)) (compEnds (model X.prog X.w) X.A X.xe use Qf (.ref D) (compEnvC scope (cellsFrom (s3.heap.objs.size + 1) scope.names (cloFrom X.env.cells scope.names [])) s3.heap.objs.size X.env)) { s3 with heap := pushCells (s3.heap.push { cls := .type "dict", data := .dict #[] }) scope.names }
  generalize hcl : cellsFrom (s3.heap.objs.size + 1) scope.names (cloFrom X.env.cells scope.names []) = cl at I4 ⊢
  generalize hH3 : upd H2 D (.lst []) = H3 at I3 I4 w0 nfp f3
  have tkb := comp_takes (scope := scope) (cl := cl) (fp := fp) (ce := compEnvC scope cl s3.heap.objs.size X.env) hstk hf0 hf tk I3 (fun b hb => (f3 b hb).1) rfl rfl
  have pg := hg s3 H3 s3.heap.objs.size cl fp _ tkb
  have pe := he s3 H3 s3.heap.objs.size cl fp _ tkb
  have I4 := invXe (xe := notedBy (model X.prog X.w) X.A (compEnvC scope cl s3.heap.objs.size X.env) (CompFails (model X.prog X.w) X.A X.xe (compEnvC scope cl s3.heap.objs.size X.env))) I4
  generalize hce : compEnvC scope cl s3.heap.objs.size X.env = ce at I4 pg pe tkb ⊢
  have cL : ce.locals = s3.heap.objs.size := by subst hce; rfl
  generalize hxe : notedBy (model X.prog X.w) X.A ce (CompFails (model X.prog X.w) X.A X.xe ce) = xb at I4 pg pe tkb
  have hxb : ∀ v s', xb v s' → notedBy (model X.prog X.w) X.A ce (fun e s' => compEnds (model X.prog X.w) X.A X.xe use Qf (.ref D) ce (.error e) s') v s' := fun v s' z => by
    rw [← hxe] at z
    cases use <;> exact z
  generalize hs4 : ({ s3 with heap := pushCells (s3.heap.push { cls := .type "dict", data := .dict #[] }) scope.names } : Shared) = s4 at I4 ⊢
  have st4 : tn 0 s4.heap := T.keep _ _ _ st3 fun b _ o e => by rw [← hs4]; exact pushCells_keeps _ _ _ _ (Heap.get?_push_of_some _ e)
  have stat : ∀ {σ' : L2.St} {H' : Hp} {s' : Shared}, Inv (blkX X s3 H3 scope ce fp xb) [] σ' H' s' → (∀ b ∈ fp, H' b = none) → ∀ b ∈ fp, FpOk (blkX X s3 H3 scope ce fp xb) [] H' b := fun {σ' H' s'} I' hn b hb =>
    ⟨hn b hb, (I'.ok.exf b hb).1, I'.ok.exfs b hb, .inl hb, fun x c e => (I'.ok.exf b hb).2 x c e, fun p hp => absurd (show p ∈ ([] : List (Addr × Obj)) ++ [] from hp) (by simp)⟩
  have loop : codeAny (model X.prog X.w) X.A (.compLoop (.ListComp elt [⟨tg, iter, [], 0⟩] scope pos) 0 (.ref it) (.ref D) ce) (compEnds (model X.prog X.w) X.A X.xe use Qf (.ref D) ce) s4 := by
    refine compLoop_any (fun n s' => ∃ i H', Inv (blkX X s3 H3 scope ce fp xb) [] (wipe σ (own.map (·.2))) H' s' ∧ tn i s'.heap ∧ (∀ b ∈ fp, H' b = none) ∧ W' i n H') ?_ m0 ⟨0, H3, I4, st4, nfp, w0⟩
    rintro n s5 ⟨i, H5, I5, st5, n5, w5⟩
    rcases turn i n H5 w5 with ⟨stop, qq⟩ | ⟨go, Nx, hNx, step⟩
    · have td := T.done (blkX X s3 H3 scope ce fp xb) rfl rfl rfl hc i [] s5 _ H5 (fun _ _ => False) I5 (stat I5 n5) st5 stop
      refine thnF td fun r s6 ⟨hr, I6⟩ => ?_
      subst hr
      -- back in the def's context
      have I7 : Inv X pins σ H5 s6 := I3.call' (ch := fp) I6.os I6.base I6.hok I6.bare fun b hb => ⟨(f3 b hb).1.2.2.2.1, (f3 b hb).1.2.1, (f3 b hb).1.2.2.2.2.1, (f3 b hb).1.2.2.2.2.2⟩
      have nC : H5 ce.locals = none := I6.free
      obtain ⟨m, hn, _⟩ := I6.loc
      have hn : s6.heap.Ns ce.locals m := hn
      refine hRR D ce s6 m H5 I7 qq hn ?_
      rw [cL] at nC ⊢
      exact I3.fpOk (Nat.le_refl _) nC
    · have ti := T.item (blkX X s3 H3 scope ce fp xb) rfl rfl rfl hc i [] s5 _ H5 (fun _ _ => False) I5 (stat I5 n5) st5 go
      refine thnF ti fun r s6 ⟨u, hr, h6⟩ => ?_
      subst hr
      refine thnF h6 fun _ s7 ⟨x, H7, I7, r7, y7, st7, n7⟩ => ?_
      have I7' := I7.pinned (stat I7 n7) (T.obj _ _ st7)
      refine wpAny_mono (pg.run _ s7 _ H7 x u _ I7' r7 (step x H7 y7)) (fun _ s8 ⟨σ8, H8, I8, hw8, q8⟩ => ?_) (fun v s' z => hxb v s' z)
      refine wpAny_tests_nil ?_
      -- the turn's end
      have fin : ∀ {s' : Shared} {H' : Hp}, Inv (blkX X s3 H3 scope ce fp xb) ([] ++ pinsAt fp s7.heap) σ8 H' s' → Nx H' → ∃ m, m < n ∧ ∃ i H', Inv (blkX X s3 H3 scope ce fp xb) [] (wipe σ (own.map (·.2))) H' s' ∧ tn i s'.heap ∧ (∀ b ∈ fp, H' b = none) ∧ W' i m H' := fun {s' H'} I' nx => by
        obtain ⟨m', hm, w'⟩ := hNx H' nx
        have pin' : ∀ b ∈ fp, ∀ o, s7.heap.get? b = some o → s'.heap.get? b = some o ∧ H' b = none := fun b hb o e =>
          let z := I'.pin (b, o) (List.mem_append_right _ (List.mem_append_right _ (mem_pinsAt hb e)))
          ⟨z.1, z.2.1⟩
        have hl : (wipe σ (own.map (·.2))).length = σ8.length := by rw [← hw8, wipe_length]
        refine ⟨m', hm, i + 1, H', (I'.unpinned (pins := [])).weak hl (fun j v e => ?_), T.keep _ _ _ st7 fun b hb o e => (pin' b hb o e).1, fun b hb => ?_, w'⟩
        · rw [← hw8] at e
          exact (wipe_some e).1
        · obtain ⟨o, e, _⟩ := T.obj _ _ st7 b hb
          exact (pin' b hb o e).2
      simp only [if_true]
      refine wpAny_mono (pe.run _ s8 σ8 H8 _ I8 q8) (fun z s10 ⟨yv, H10, I10, r10, acc, hD10, hz10, nx⟩ => ?_) (fun v s' z => hxb v s' z)
      exact app_ok (X := blkX X s3 H3 scope ce fp xb) I10 hD10 hz10 r10 fun s11 I11 => fin I11 nx
  exact codeAny_compStart_list loop (T.self X.A 0 _ _ _ st4 loop)
variable {L : Addr} {W : XK} {env0 : PySem.Env} {outer0 : List PySem.Env}
/-- as a value -/
theorem pe_lcX {elt tg iter : Expr} {scope : Scope} {own : List (Str × Nat)} {pos : Pos} {wi : TI} {g : TG} {te : TE} (hstk : X.stack = env0 :: outer0) (hf0 : env0.frame = some L) (hf : X.env.frame = some L) (tk : TakesL X L (fun cls d _ H => W cls d H)) (hc : X.calm = true) (hN : X.N.Nodup) (hi : PI X tg iter wi) (ok : BlkOk X.N X.env.scope scope own)
    (hg : Blks X L W scope fun Y => PG Y tg g) (he : Blks X L W scope fun Y => PE Y elt te) (hs : ∀ x, foldedSetIterable iter X.env x = pure x) :
    PE X (.ListComp elt [⟨tg, iter, [], 0⟩] scope pos) (tLcX wi g te (own.map (·.2))) := by
  refine ⟨fun pins s σ H Q I h => ?_⟩
  rw [eval_ListComp]
  refine lc_coreX hstk hf0 hf tk hc hN I hi ok hg he hs h fun D ce s' m H' I' q hn f => ⟨m, hn, fun h'' sb => ?_⟩
  obtain ⟨f0, f1, f2, f3, f4, f5⟩ := f
  exact ⟨.ref D, H', I'.turned (t' := s'.toks) (fun b o hb e => (sb.2 b hb).trans e) f0 f1 f3 f4 f5, rfl, q⟩
/-- name = [..] on one line, the name a local -/
theorem ps_setLcX {i : Nat} {y : Str} {py : Pos} {elt tg iter : Expr} {scope : Scope} {own : List (Str × Nat)} {pos spos : Pos} {wi : TI} {g : TG} {te : TE} (hstk : X.stack = env0 :: outer0) (hf0 : env0.frame = some L) (hf : X.env.frame = some L) (tk : TakesL X L (fun cls d _ H => W cls d H)) (hc : X.calm = true) (hN : X.N.Nodup) (hy : X.N[i]? = some y) (hyl : X.env.scope.names.lookup y = some .local)
    (hsw : swapsWith (.ListComp elt [⟨tg, iter, [], 0⟩] scope pos) (some (.Name y py)) spos.line X.env = pure true) (hi : PI X tg iter wi) (ok : BlkOk X.N X.env.scope scope own)
    (hg : Blks X L W scope fun Y => PG Y tg g) (he : Blks X L W scope fun Y => PE Y elt te) (hs : ∀ x, foldedSetIterable iter X.env x = pure x) :
    PS X (.Assign [.Name y py] (.ListComp elt [⟨tg, iter, [], 0⟩] scope pos) spos) (tAsg (tLcX wi g te (own.map (·.2))) (gName i)) := by
  refine ⟨fun pins s σ H D I h => ?_⟩
  rw [exec_Assign_Name_used _ _ _ _ hsw]
  refine wpAny_bind (wpAny_standAt (wpAny_bind ?_))
  show wpAny _ X.A (do let _ ← comprehension (.ListComp elt [⟨tg, iter, [], 0⟩] scope pos) scope X.env (firstIterPos [⟨tg, iter, [], 0⟩] pos) (newList []) false (eval iter X.env) (some (assign (.Name y py) X.env))) _ _ s
  have h : tLcX wi g te (own.map (·.2)) σ H (fun x H1 => gName i x σ H1 D.nx) := h
  refine wpAny_bind (thn (lc_coreX (Qf := fun _ s' => SP X pins D .next s') hstk hf0 hf tk hc hN I hi ok hg he hs h fun Lx ce s' m H' I' q hn f => ?_) fun _ s' hq => wpAny_pure (wpAny_pure hq))
  show wpAny _ _ (assign (.Name y py) X.env (.ref Lx)) _ _ _
  refine wpAny_assign_Name (store_ok2 (v := V.ref Lx) I' hN hy (.inl hyl) rfl (fun s2 I2 ⟨a, sb, ha⟩ => ?_) (.inr hyl))
  obtain ⟨f0, f1, f2, f3, f4, f5⟩ := f
  have haC : ce.locals ≠ a := by
    rcases ha with z | z
    · rw [z]; exact f1
    · exact fun e => f4 y a z e.symm
  refine ⟨m, hn.sameBut sb haC, fun h3 sb3 => ?_⟩
  exact ⟨_, H', I2.turned (t' := s2.toks) (fun b o hb e => (sb3.2 b hb).trans e) f0 f1 f3 f4 f5, q⟩
end
end Rt
namespace Rt
open PySem PySem.Spec PyProof.Rows L2
/-- what is asked of a result: for whatever lies in the heap behind it -/
def Post (C : Cn) {a b : Type} (Rl : Hp → List Addr → b → a → Prop) (r : Res a) (H : Hp) (mu : List Addr) (Q : b → Hp → Prop) (E : XK) : Prop := match r with
  | .ok d st => ∀ v H' mu', Ext mu mu' H H' → SRel C H' mu' st → Rl H' mu' v d → Q v H'
  | .exc c st => ∀ H' mu', Ext mu mu' H H' → SRel C H' mu' st → E (.ref (C.ca c)) none H'
  | .bad => False
section
variable {C : Cn} {a b c d : Type} {Rl : Hp → List Addr → b → a → Prop} {Rl2 : Hp → List Addr → d → c → Prop} {H H1 : Hp} {mu mu1 : List Addr} {Q : b → Hp → Prop} {Q2 : d → Hp → Prop} {E : XK}
theorem Post.mono {r : Res a} (h : Post C Rl r H mu Q E) (e : Ext mu mu1 H H1) : Post C Rl r H1 mu1 Q E := by
  cases r with
  | ok x st => exact fun v H' mu' f s q => h v H' mu' (e.trans f) s q
  | exc x st => exact fun H' mu' f s => h H' mu' (e.trans f) s
  | bad => exact h
theorem Post.bind {r : Res a} {f : a → Sto → Res c} (h : Post C Rl2 (r.bind f) H mu Q2 E)
    (k : ∀ x st v H1 mu1, Ext mu mu1 H H1 → SRel C H1 mu1 st → Rl H1 mu1 v x → Post C Rl2 (f x st) H1 mu1 Q2 E → Q v H1) : Post C Rl r H mu Q E := by
  cases r with
  | ok x st => exact fun v H' mu' e s q => k x st v H' mu' e s q (Post.mono h e)
  | exc x st => exact h
  | bad => exact h
theorem Post.here {x : a} {st : Sto} {v : b} (h : Post C Rl (.ok x st) H mu Q E) (s : SRel C H mu st) (q : Rl H mu v x) : Q v H := h v H mu .refl s q
theorem Post.imp {r : Res a} {Q' : b → Hp → Prop} (h : Post C Rl r H mu Q E) (w : ∀ v H', Q v H' → Q' v H') : Post C Rl r H mu Q' E := by
  cases r with
  | ok x st => exact fun v H' mu' f s q => w _ _ (h v H' mu' f s q)
  | exc x st => exact h
  | bad => exact h
end
def RSd (C : Cn) : Hp → List Addr → V → D → Prop := fun H mu v d => Sd C.K H mu v d
def RSdA (C : Cn) : Hp → List Addr → List V → List D → Prop := fun H mu v d => SdA C.K H mu v d
/-- a def's promise, by the function that it is -/
def spec (C : Cn) (G : List D → Sto → Res D) (np : Nat) : Sp := fun vs H Q E => vs.length = np ∧ ∃ ds st mu, SdA C.K H mu vs ds ∧ SRel C H mu st ∧ Post C (RSd C) (G ds st) H mu Q E
/-- what is around: names of defs by number -/
structure Gam where
  N : List Str
  fnm : Nat → Option Str
  exn : Nat → Option Str
/-- what a class of exceptions must have -/
def ExcOk (X : Cx) (x : Str) (a : Addr) : Prop := (x == ("__debug__" : Str)) = false ∧ X.mg x = some (.ref a) ∧ PySem.W.excIn X.K a HandSPX.veTail "ValueError.__new__" = true ∧ PySem.W.keepIn X.K (.ref a) = true ∧
  PySem.W.subIn X.K (.ref a) (.type "BaseException") = some true ∧ PySem.W.typeIn X.K (.ref a) = some (.type "type")
/-- what isinstance must find of the twelve classes of exceptions -/
structure IxOk (K : PySem.W.Frag) (mg : Str → Option Value) (ca : Nat → Addr) : Prop where
  ve : mg "ValueError" = none
  cls : ∀ n, n < 12 → mg (excName n) = some (.ref (ca n))
  exc : ∀ n, n < 12 → ExcC K (ca n) ∧ PySem.W.kitOne K (.ref (ca n)) (.type "ValueError") = some true ∧ ∀ i, i < 12 → PySem.W.kitOne K (.ref (ca n)) (.ref (ca i)) = some (decide (i = n))
structure Good (C : Cn) (G : Gam) (F : Nat → List D → Sto → Res D) (k : Nat) (X : Cx) (E : XK) : Prop where
  hK : X.K = C.K
  hN : X.N = G.N
  nd : G.N.Nodup
  dbg : ∀ x ∈ G.N, (x == ("__debug__" : Str)) = false ∧ (x == ("__classdict__" : Str)) = false
  calm : X.calm = true
  room : Room (k + 1) X.A
  tk : ∃ (L : Addr) (env0 : PySem.Env) (outer0 : List PySem.Env), X.stack = env0 :: outer0 ∧ env0.frame = some L ∧ X.env.frame = some L ∧ TakesL X L (fun cls d _ H => E cls d H)
  blt : ∀ x ∈ bltNames, X.mg x = none
  fns : ∀ f x, G.fnm f = some x → isM f = false → (x == ("__debug__" : Str)) = false ∧ ∃ fa fd ps, X.mg x = some (.ref fa) ∧ PySem.W.keepIn X.K (.ref fa) = true ∧ Binds X.K fd ps [] ∧
    FnOk X.prog X.w X.K X.mg X.base (L2N.CX X.prog X.w) k fa fd ps (spec C (F f) ps.length) ∧ ∀ ds st, ds.length ≠ ps.length → F f ds st = .bad
  exf : ∀ c x, G.exn c = some x → ExcOk X x (C.ca c)
  dsk : C.ob = true → Cls X.K C.dk ∧ ∀ nm ∈ deskFl, NoAttr X.K C.dk nm
  mth : ∀ f x, G.fnm f = some x → isM f = true → ∃ fa fd ps, Meth X.K C.dk x fa ∧ Binds X.K fd ps [] ∧ FnOk X.prog X.w X.K X.mg X.base (L2N.CX X.prog X.w) k fa fd ps (spec C (F f) ps.length) ∧ ∀ ds st, ds.length ≠ ps.length → F f ds st = .bad
  mke : ∀ f, G.fnm f = some "__init__" → isM f = true → C.ob = true ∧ X.mg "Desk" = some (.ref C.dk) ∧ ∃ fa fd ps, Mk X.K C.dk fa ∧ Binds X.K fd ps [] ∧ FnOk X.prog X.w X.K X.mg X.base (L2N.CX X.prog X.w) k fa fd ps (spec C (F f) ps.length) ∧ ∀ ds st, ds.length ≠ ps.length → F f ds st = .bad
  xi : IxOk X.K X.mg C.ca
  hca : ∀ c, C.ca c = He.ga C.K (excName c)
section
variable (C : Cn) (F : Nat → List D → Sto → Res D)
/-- readings -/
def rdE (c : E) (E : XK) : TE := fun σ H Q => ∃ H0 mu0 r st mu, Rel C H0 mu0 σ H r st mu ∧ Post C (RSd C) (ev F c r st) H mu Q E
def rdEs (c : Es) (E : XK) : TA := fun σ H Q => ∃ H0 mu0 r st mu, Rel C H0 mu0 σ H r st mu ∧ Post C (RSdA C) (evs F c r st) H mu Q E
def RB : Hp → List Addr → Bool → Bool → Prop := fun _ _ b d => b = d
def rdT (c : E) (E : XK) : TT := fun σ H Q => ∃ H0 mu0 r st mu, Rel C H0 mu0 σ H r st mu ∧ Post C RB (tst (ev F c r st)) H mu Q E
end
section
variable {C : Cn} {G : Gam} {F : Nat → List D → Sto → Res D} {k : Nat} {X : Cx} {E : XK}
theorem Sd.cInt {K : PySem.W.Frag} {H : Hp} {mu : List Addr} {v : V} {i : Int} (h : Sd K H mu v (.int i)) : v = .int i := by cases h; rfl
theorem Sd.cBl {K : PySem.W.Frag} {H : Hp} {mu : List Addr} {v : V} {i : Bool} (h : Sd K H mu v (.bl i)) : v = .bl i := by cases h; rfl
theorem Sd.cTup {K : PySem.W.Frag} {H : Hp} {mu : List Addr} {v : V} {ds : List D} (h : Sd K H mu v (.tup ds)) : ∃ a xs, v = .ref a ∧ SqT K H a xs ∧ SdA K H mu xs ds := by
  cases h with
  | tup h t => exact ⟨_, _, rfl, h, t⟩
theorem Sd.cLst {K : PySem.W.Frag} {H : Hp} {mu : List Addr} {v : V} {ds : List D} (h : Sd K H mu v (.lst ds)) : ∃ a xs, v = .ref a ∧ Fz K H a xs ∧ SdA K H mu xs ds := by
  cases h with
  | lst h t => exact ⟨_, _, rfl, h, t⟩
theorem Sd.cCell {K : PySem.W.Frag} {H : Hp} {mu : List Addr} {v : V} {n : Nat} (h : Sd K H mu v (.cell n)) : ∃ a, v = .ref a ∧ mu[n]? = some a := by
  cases h with
  | cell h => exact ⟨_, rfl, h⟩
theorem Sd.cStr {K : PySem.W.Frag} {H : Hp} {mu : List Addr} {v : V} {x : Str} (h : Sd K H mu v (.str x)) : v = .str x := by cases h; rfl
theorem sizeN_le : sizeN ≤ sizeLine := by rw [sizeLine_eq]; decide
/-- the result is a value that needs nothing new -/
theorem Post.val {d : D} {st : Sto} {H : Hp} {mu : List Addr} {Q : VK} {v : V} (h : Post C (RSd C) (.ok d st) H mu Q E) (s : SRel C H mu st) (q : Sd C.K H mu v d) : Q v H := Post.here h s q
/-- .. a new tuple -/
theorem Post.tup {ds : List D} {st : Sto} {H : Hp} {mu : List Addr} {Q : VK} {xs : List V} {p : Addr} (h : Post C (RSd C) (.ok (.tup ds) st) H mu Q E) (s : SRel C H mu st) (q : SdA C.K H mu xs ds) (hp : H p = none) : Q (.ref p) (upd H p (.tup xs)) :=
  h _ _ mu (Ext.upd hp) (s.upd hp) (.tup (.inl (.inl upd_same)) (q.mono (Ext.upd hp)))
/-- .. a new list, frozen at once -/
theorem Post.lst {ds : List D} {st : Sto} {H : Hp} {mu : List Addr} {Q : VK} {xs : List V} {p : Addr} (h : Post C (RSd C) (.ok (.lst ds) st) H mu Q E) (s : SRel C H mu st) (q : SdA C.K H mu xs ds) (hp : H p = none) :
    ∃ a ys, V.ref p = .ref a ∧ (upd H p (.lst xs)) a = some (.lst ys) ∧ ∀ o, Q (.ref p) (upd (upd H p (.lst xs)) a (.frz o (.lst ys))) := by
  refine ⟨p, xs, rfl, upd_same, fun o => ?_⟩
  rw [upd_upd]
  exact h _ _ mu (Ext.upd hp) (s.upd hp) (.lst (.inl ⟨o, upd_same⟩) (q.mono (Ext.upd hp)))
theorem sVar (g : Good C G F k X E) {i : Nat} {x : Str} {pos : Pos} (hi : G.N[i]? = some x) (hv : Vis X.env.scope x) : PE X (.Name x pos) (rdE C F (.var i) E) := by
  have hd := g.dbg x (List.mem_of_getElem? hi)
  refine peImp (pe_var (i := i) (by rw [g.hN]; exact hi) hv hd.1 hd.2) fun σ H Q ⟨H0, mu0, r, st, mu, R, h⟩ => ?_
  unfold ev at h
  cases e : getV r i with
  | none => rw [e] at h; exact h.elim
  | some d =>
    rw [e] at h
    obtain ⟨v, hs, q⟩ := R.val e
    exact ⟨v, hs, Post.val h R.srel q⟩
theorem sInt {i : Int} {j : Nat} {pos : Pos} : PE X (.Constant (.int i) j pos) (rdE C F (.int i) E) :=
  peImp pe_int fun σ H Q ⟨H0, mu0, r, st, mu, R, h⟩ => by unfold ev at h; exact Post.val h R.srel (.int i)
theorem sBl {i : Bool} {j : Nat} {pos : Pos} : PE X (.Constant (.bool i) j pos) (rdE C F (.bl i) E) :=
  peImp pe_bl fun σ H Q ⟨H0, mu0, r, st, mu, R, h⟩ => by unfold ev at h; exact Post.val h R.srel (.bl i)
theorem sNon {j : Nat} {pos : Pos} : PE X (.Constant .none j pos) (rdE C F .non E) :=
  peImp pe_non fun σ H Q ⟨H0, mu0, r, st, mu, R, h⟩ => by unfold ev at h; exact Post.val h R.srel .non
theorem sStr {x : Str} {j : Nat} {pos : Pos} : PE X (.Constant (.str x) j pos) (rdE C F (.str x) E) :=
  peImp pe_str fun σ H Q ⟨H0, mu0, r, st, mu, R, h⟩ => by unfold ev at h; exact Post.val h R.srel (.str x)
theorem sNil : PA X [] (rdEs C F .nil E) := paImp pa_nil fun σ H Q ⟨H0, mu0, r, st, mu, R, h⟩ => by
  unfold evs at h
  exact Post.here h R.srel .nil
theorem sCons {e : Expr} {es : List Expr} {c : Rt.E} {cs : Es} (he : PE X e (rdE C F c E)) (hes : PA X es (rdEs C F cs E)) (hs : starEach (e :: es) X.env = (false, eval e X.env) :: starEach es X.env) : PA X (e :: es) (rdEs C F (.cons c cs) E) := by
  refine paImp (pa_cons he hes hs) fun σ H Q ⟨H0, mu0, r, st, mu, R, h⟩ => ?_
  unfold evs at h
  refine ⟨H0, mu0, r, st, mu, R, Post.bind h fun x st1 v H1 mu1 e1 s1 q1 h1 => ?_⟩
  refine ⟨H0, mu0, r, st1, mu1, R.step e1 s1, Post.bind h1 fun xs st2 vs H2 mu2 e2 s2 q2 h2 => ?_⟩
  exact Post.here h2 s2 (.cons (Sd.mono e2 q1) q2)
def Es.len : Es → Nat
  | .nil => 0
  | .cons _ es => es.len + 1
theorem evs_len : ∀ {es : Es} {r : Env} {s s' : Sto} {ds : List D}, evs F es r s = .ok ds s' → ds.length = es.len
  | .nil, r, s, s', ds, h => by unfold evs at h; cases h; rfl
  | .cons e es, r, s, s', ds, h => by
    unfold evs at h
    cases h1 : ev F e r s with
    | ok x s1 =>
      rw [h1] at h
      simp only [Res.bind_ok] at h
      cases h2 : evs F es r s1 with
      | ok xs s2 =>
        rw [h2] at h
        simp only [Res.bind_ok] at h
        cases h
        rw [List.length_cons, evs_len h2]
        rfl
      | exc c s2 => rw [h2] at h; cases h
      | bad => rw [h2] at h; cases h
    | exc c s1 => rw [h1] at h; cases h
    | bad => rw [h1] at h; cases h
/-- bind, and the result is known to be of its length -/
theorem Post.bindLen {es : Es} {r : Env} {st : Sto} {c d : Type} {Rl2 : Hp → List Addr → d → c → Prop} {f : List D → Sto → Res c} {H : Hp} {mu : List Addr} {Q2 : d → Hp → Prop} {Q : List V → Hp → Prop} (h : Post C Rl2 ((evs F es r st).bind f) H mu Q2 E)
    (k : ∀ x st v H1 mu1, x.length = es.len → Ext mu mu1 H H1 → SRel C H1 mu1 st → SdA C.K H1 mu1 v x → Post C Rl2 (f x st) H1 mu1 Q2 E → Q v H1) : Post C (RSdA C) (evs F es r st) H mu Q E := by
  cases q : evs F es r st with
  | ok x st' =>
    rw [q] at h
    exact fun v H' mu' e s z => k x st' v H' mu' (evs_len q) e s z (Post.mono h e)
  | exc x st' => rw [q] at h; exact h
  | bad => rw [q] at h; exact h
theorem small_line {n : Nat} (h : n ≤ 1000) : n ≤ sizeLine := Nat.le_trans h (by rw [sizeLine_eq]; decide)
theorem small_line_mul {n m : Nat} (h : n ≤ 1000) (h2 : m ≤ 1000) : n * m ≤ sizeLine := Nat.le_trans (Nat.mul_le_mul h h2) (by rw [sizeLine_eq]; decide)
theorem sTup {es : List Expr} {cs : Es} {j : Nat} {pos : Pos} (hes : PA X es (rdEs C F cs E)) (hl : cs.len ≤ 1000) : PE X (.Tuple es j pos) (rdE C F (.tup cs) E) := by
  refine peImp (pe_tup hes) fun σ H Q ⟨H0, mu0, r, st, mu, R, h⟩ => ?_
  unfold ev at h
  refine ⟨H0, mu0, r, st, mu, R, Post.bindLen h fun xs st1 vs H1 mu1 len e1 s1 q1 h1 => ?_⟩
  exact ⟨by rw [q1.length, len]; exact small_line hl, fun p hp => Post.tup h1 s1 q1 hp⟩
theorem sLst {es : List Expr} {cs : Es} {pos : Pos} (hes : PA X es (rdEs C F cs E)) (hl : cs.len ≤ 1000) : PE X (.List es pos) (rdE C F (.lst cs) E) := by
  refine peImp (peFrz (pe_lst hes)) fun σ H Q ⟨H0, mu0, r, st, mu, R, h⟩ => ?_
  unfold ev at h
  refine ⟨H0, mu0, r, st, mu, R, Post.bindLen h fun xs st1 vs H1 mu1 len e1 s1 q1 h1 => ?_⟩
  exact ⟨by rw [q1.length, len]; exact small_line hl, fun p hp => Post.lst h1 s1 q1 hp⟩
/-- a new entry of the store -/
theorem SRel.push {H H1 : Hp} {mu : List Addr} {st : Sto} {p : Addr} {ds : List D} (s : SRel C H mu st) (hp : H p = none) (hk : ∀ b o, H b = some o → H1 b = some o) (q : CelOk C H1 (mu ++ [p]) p ds) :
    Ext mu (mu ++ [p]) H H1 ∧ SRel C H1 (mu ++ [p]) (st ++ [ds]) := by
  have hpm : p ∉ mu := fun z => by
    obtain ⟨_, q⟩ := s.inMu z
    rw [q] at hp; cases hp
  have ex : Ext mu (mu ++ [p]) H H1 := by
    refine ⟨⟨[p], rfl⟩, fun b o h _ _ => hk b o h, fun b xs h _ => hk b _ h, fun b ps h => ⟨ps, hk b _ h⟩, fun a h n => ?_, fun b C dx fs h _ => hk b _ h⟩
    rcases List.mem_append.mp h with z | z
    · exact absurd z n
    · rw [List.mem_singleton.mp z]; exact hp
  refine ⟨ex, by rw [List.length_append, List.length_append, s.len]; rfl, ?_, fun n a ds' h1 h2 => ?_, s.tabs.ext hk⟩
  · refine List.nodup_append.mpr ⟨s.nd, by simp, fun a ha b hb z => ?_⟩
    rw [List.mem_singleton.mp hb] at z
    subst z
    exact hpm ha
  · by_cases hn : n < mu.length
    · rw [List.getElem?_append_left hn] at h1
      rw [List.getElem?_append_left (by rw [← s.len]; exact hn)] at h2
      exact (s.cel n a ds' h1 h2).mono ex.w fun o q _ => hk a o q
    · have hn' : n = mu.length := by
        have := (List.getElem?_eq_some_iff.mp h1).1
        rw [List.length_append] at this
        simp at this; omega
      subst hn'
      rw [List.getElem?_append_right (Nat.le_refl _)] at h1
      simp at h1
      subst h1
      rw [s.len, List.getElem?_append_right (Nat.le_refl _)] at h2
      simp at h2
      subst h2
      exact q
/-- a new cell -/
theorem SRel.cell {H : Hp} {mu : List Addr} {st : Sto} {p : Addr} {xs : List V} {ds : List D} (s : SRel C H mu st) (hp : H p = none) (q : SdA C.K H mu xs ds) :
    Ext mu (mu ++ [p]) H (L2.upd H p (.lst xs)) ∧ SRel C (L2.upd H p (.lst xs)) (mu ++ [p]) (st ++ [ds]) := by
  refine s.push hp (fun b o h => by rw [upd_ne (ne_of_none h hp)]; exact h) ((celOk_lst q.noOb).mpr ⟨xs, upd_same, q.monoW ⟨⟨[p], rfl⟩, fun b o h _ _ => by rw [upd_ne (ne_of_none h hp)]; exact h⟩⟩)
theorem sCel {es : List Expr} {cs : Es} {pos : Pos} (hes : PA X es (rdEs C F cs E)) (hl : cs.len ≤ 1000) : PE X (.List es pos) (rdE C F (.cel cs) E) := by
  refine peImp (pe_lst hes) fun σ H Q ⟨H0, mu0, r, st, mu, R, h⟩ => ?_
  unfold ev at h
  refine ⟨H0, mu0, r, st, mu, R, Post.bindLen h fun xs st1 vs H1 mu1 len e1 s1 q1 h1 => ?_⟩
  refine ⟨by rw [q1.length, len]; exact small_line hl, fun p hp => ?_⟩
  obtain ⟨ex, s2⟩ := s1.cell hp q1
  refine h1 _ _ _ ex s2 (.cell ?_)
  rw [← s1.len, List.getElem?_append_right (Nat.le_refl _)]
  simp
def opOf : Bop → Operator
  | .add => .Add | .sub => .Sub | .mul => .Mult | .fdiv => .FloorDiv | .mod => .Mod | .pow => .Pow
/-- the value of a list's new place is frozen -/
def frzQ (Q : VK) : VK := fun v H1 => Q v H1 ∨ ∃ a xs, v = .ref a ∧ H1 a = some (.lst xs) ∧ ∀ o, Q v (upd H1 a (.frz o (.lst xs)))
theorem peFrzO {e : Expr} {t : TE} (h : PE X e t) : PE X e (fun σ H Q => t σ H (frzQ Q)) := by
  refine ⟨fun pins s σ H Q I q => thn (h.run pins s σ H _ I q) fun u s1 ⟨v, H1, I1, r, q1⟩ => ?_⟩
  rcases q1 with q1 | ⟨a, xs, ev, ha, q1⟩
  · exact ⟨v, H1, I1, r, q1⟩
  · obtain ⟨o, I2⟩ := I1.lock (u := .lst xs) ha trivial
    exact ⟨v, _, I2, r, q1 o⟩
theorem Post.lstQ {ds : List D} {st : Sto} {H : Hp} {mu : List Addr} {Q : VK} {xs : List V} {p : Addr} (h : Post C (RSd C) (.ok (.lst ds) st) H mu Q E) (s : SRel C H mu st) (q : SdA C.K H mu xs ds) (hp : H p = none) : frzQ Q (.ref p) (upd H p (.lst xs)) := .inr (Post.lst h s q hp)
theorem Post.valQ {d : D} {st : Sto} {H : Hp} {mu : List Addr} {Q : VK} {v : V} (h : Post C (RSd C) (.ok d st) H mu Q E) (s : SRel C H mu st) (q : Sd C.K H mu v d) : frzQ Q v H := .inl (Post.val h s q)
theorem Post.tupQ {ds : List D} {st : Sto} {H : Hp} {mu : List Addr} {Q : VK} {xs : List V} {p : Addr} (h : Post C (RSd C) (.ok (.tup ds) st) H mu Q E) (s : SRel C H mu st) (q : SdA C.K H mu xs ds) (hp : H p = none) : frzQ Q (.ref p) (upd H p (.tup xs)) := .inl (Post.tup h s q hp)
/-- a value whose content is given -/
theorem Sd.tupOf {K : PySem.W.Frag} {H : Hp} {mu : List Addr} {a : Addr} {xs : List V} {ds es : List D} (h : SqT K H a xs) (q : SdA K H mu xs ds) (e : ds = es) : Sd K H mu (.ref a) (.tup es) := e ▸ .tup h q
/-- a text, repeated -/
theorem op_mulS : OpR X (binaryOp .Mult) (fun x y H Q => ∃ (z : Str) (k : Int), x = .str z ∧ y = .int k ∧ 2 ≤ k ∧ k ≤ 1000 ∧ z.length ≤ 1000 ∧ Q (.str (Txt.mul z k)) H) := by
  intro pins s σ H x y v u Q I rx ry h
  obtain ⟨z, k, rfl, rfl, h1, h2, h3, q⟩ := h
  obtain ⟨t, rfl⟩ := rx
  obtain ⟨t2, rfl⟩ := ry
  refine SB.mul ⟨?_, fun _ _ => ?_, fun _ _ => ?_⟩ fun t' n => ⟨.str _, H, I.tok n, ⟨t', rfl⟩, q⟩
  · rw [decide_eq_false (by omega), decide_eq_false (by omega)]; rfl
  · have h4 : (1000 : Int) ≤ (2 ^ 63 - 1) / k := by
      rw [Int.le_ediv_iff_mul_le (by omega)]
      omega
    omega
  · unfold Builtin.Str.tooLong
    have h4 : z.length * k.toNat ≤ 1000 * 1000 := Nat.mul_le_mul h3 (by omega)
    rw [sizeLine_eq]
    exact decide_eq_false (by omega)
theorem op_all (g : Good C G F k X E) (op : Bop) (x y : D) (st : Sto) (v w : V) (H : Hp) (mu : List Addr) (Q : VK) (s : SRel C H mu st) (qx : Sd C.K H mu v x) (qy : Sd C.K H mu w y) (h : Post C (RSd C) (binD st op x y) H mu Q E) :
    ∃ R : R2, OpR X (binaryOp (opOf op)) R ∧ R v w H (frzQ Q) := by
  unfold binD at h
  split at h
  · cases qx.cInt; cases qy.cInt
    exact ⟨_, op_add, _, _, rfl, rfl, Post.valQ h s (.int _)⟩
  · split at h
    · next hz =>
      obtain ⟨a1, xs, rfl, h1, h2⟩ := qx.cTup
      obtain ⟨b1, ys, rfl, h3, h4⟩ := qy.cTup
      refine ⟨_, op_catA, a1, b1, xs, ys, rfl, rfl, by rw [g.hK]; exact h1, by rw [g.hK]; exact h3, ?_, fun e => ?_, fun e1 e2 => ?_, fun e1 e2 p hp => ?_⟩
      · rw [h2.length, h4.length]; exact Nat.le_trans hz sizeN_le
      · have z := h2.nil_iff.mp e
        exact Post.valQ h s (Sd.tupOf h3 h4 (by rw [z]; rfl))
      · have z := h4.nil_iff.mp e2
        exact Post.valQ h s (Sd.tupOf h1 h2 (by rw [z, List.append_nil]))
      · exact Post.tupQ h s (h2.append h4) hp
    · exact h.elim
  · split at h
    · next hz =>
      obtain ⟨a1, xs, rfl, h1, h2⟩ := qx.cLst
      obtain ⟨b1, ys, rfl, h3, h4⟩ := qy.cLst
      refine ⟨_, op_catX, a1, b1, xs, ys, rfl, rfl, by rw [g.hK]; exact h1.sq, by rw [g.hK]; exact h3.sq, ?_, fun p hp => ?_⟩
      · rw [h2.length, h4.length]; exact Nat.le_trans hz sizeN_le
      · exact Post.lstQ h s (h2.append h4) hp
    · exact h.elim
  · split at h
    · next hz =>
      cases qx.cStr; cases qy.cStr
      exact ⟨_, op_add_str, _, _, rfl, rfl, Nat.le_trans hz sizeN_le, Post.valQ h s (.str _)⟩
    · exact h.elim
  · cases qx.cInt; cases qy.cInt
    exact ⟨_, op_sub, _, _, rfl, rfl, Post.valQ h s (.int _)⟩
  · split at h
    · next hz =>
      cases qx.cInt; cases qy.cInt
      exact ⟨_, op_mulX, _, _, rfl, rfl, hz, Post.valQ h s (.int _)⟩
    · exact h.elim
  · split at h
    · next hz =>
      obtain ⟨a1, xs, rfl, h1, h2⟩ := qx.cTup
      cases qy.cInt
      refine ⟨_, op_repTX, a1, _, xs, rfl, rfl, by rw [g.hK]; exact h1, fun e => ?_, hz.2.1, hz.1, ?_, fun e => ?_, fun e p hp => ?_⟩
      · have z := h2.nil_iff.mp e
        have := hz.2.2.2
        rw [z] at this; cases this
      · rw [h2.length]; exact hz.2.2.1
      · exact Post.valQ h s (Sd.tupOf h1 h2 (by rw [e]; simp))
      · exact Post.tupQ h s (h2.rep _) hp
    · exact h.elim
  · split at h
    · next hz =>
      cases qx.cStr; cases qy.cInt
      exact ⟨_, op_mulS, _, _, rfl, rfl, hz.1, hz.2.1, hz.2.2, Post.valQ h s (.str _)⟩
    · exact h.elim
  · split at h
    · next hz =>
      cases qx.cInt; cases qy.cInt
      exact ⟨_, op_divX, _, _, rfl, rfl, hz, Post.valQ h s (.int _)⟩
    · exact h.elim
  · split at h
    · next hz =>
      cases qx.cInt; cases qy.cInt
      exact ⟨_, op_modN, _, _, rfl, rfl, hz, Post.valQ h s (.int _)⟩
    · exact h.elim
  · split at h
    · next hz =>
      cases qx.cInt; cases qy.cInt
      exact ⟨_, op_pow, _, _, rfl, rfl, ⟨hz.1, by omega, hz.2.2⟩, Post.valQ h s (.int _)⟩
    · exact h.elim
  · exact h.elim
/-- all rules for an operator at once -/
def OpAll (X : Cx) (f : Value → Value → Sem Value) : R2 := fun v w H Q => ∃ R : R2, OpR X f R ∧ R v w H Q
theorem opAll {f : Value → Value → Sem Value} : OpR X f (OpAll X f) := by
  intro pins s σ H x y v u Q I rx ry ⟨R, hR, q⟩
  exact hR pins s σ H x y v u Q I rx ry q
theorem sBin (g : Good C G F k X E) {a b : Expr} {ca cb : Rt.E} {op : Bop} {pos : Pos} (ha : PE X a (rdE C F ca E)) (hb : PE X b (rdE C F cb E)) : PE X (.BinOp a (opOf op) b pos) (rdE C F (.bin op ca cb) E) := by
  refine peImp (peFrzO (pe_op opAll ha hb)) fun σ H Q ⟨H0, mu0, r, st, mu, R, h⟩ => ?_
  unfold ev at h
  refine ⟨H0, mu0, r, st, mu, R, Post.bind h fun x st1 v H1 mu1 e1 s1 q1 h1 => ?_⟩
  refine ⟨H0, mu0, r, st1, mu1, R.step e1 s1, Post.bind h1 fun y st2 w H2 mu2 e2 s2 q2 h2 => ?_⟩
  exact op_all g op x y st2 v w H2 mu2 Q s2 (Sd.mono e2 q1) q2 h2
theorem notin_new {H : Hp} {mu : List Addr} {st : Sto} {p : Addr} (s : SRel C H mu st) (hp : H p = none) : p ∉ mu := fun z => by
  obtain ⟨_, q⟩ := s.inMu z
  rw [q] at hp; cases hp
/-- what a list's repetition asks, told of the new place -/
theorem repQ {cs : Es} {cb : Rt.E} {σ : L2.St} {H : Hp} {Q : VK} {H0 : Hp} {mu0 : List Addr} {r : Env} {st : Sto} {mu : List Addr} (hl : cs.len ≤ 1000) (R : Rel C H0 mu0 σ H r st mu) {α : Type} {Rl : Hp → List Addr → α → D → Prop} {QQ : α → Hp → Prop}
    (h : Post C Rl ((evs F cs r st).bind fun ds s => (ev F cb r s).bind fun y s => repD s ds y) H mu QQ E)
    (fin : ∀ ds st2 xs H2 mu2 p, Ext mu mu2 H H2 → SRel C H2 mu2 st2 → SdA C.K H2 mu2 xs ds → H2 p = none → Post C Rl (.ok (.lst ds) st2) H2 mu2 QQ E → Q (.ref p) (upd H2 p (.lst xs))) :
    tOp rRep (tLst (rdEs C F cs E)) (rdE C F cb E) σ H Q := by
  refine ⟨H0, mu0, r, st, mu, R, Post.bindLen h fun ds st1 vs H1 mu1 len e1 s1 q1 h1 => ?_⟩
  refine ⟨by rw [q1.length, len]; exact small_line hl, fun p hp => ?_⟩
  have ex : Ext mu1 mu1 H1 (upd H1 p (.lst vs)) := Ext.upd hp
  have s2 := s1.upd (o := .lst vs) hp
  refine ⟨H0, mu0, r, st1, mu1, (R.step e1 s1).step ex s2, Post.bind (Rl := RSd C) (h1.mono ex) fun y st2 w H2 mu2 e2 s3 q2 h2 => ?_⟩
  unfold repD at h2
  split at h2
  · split at h2
    · next z =>
      have hp2 : H2 p = some (.lst vs) := e2.keepL p vs upd_same (notin_new s1 hp)
      have hw := Sd.cInt q2
      subst hw
      refine ⟨p, _, vs, rfl, rfl, hp2, by omega, by omega, ?_, fun p' hp' => ?_⟩
      · rw [q1.length]
        refine small_line_mul z.2.2 ?_
        omega
      · exact fin _ st2 _ H2 mu2 p' (e1.trans (ex.trans e2)) s3 (((q1.mono ex).mono e2).rep _) hp' h2
    · exact h2.elim
  · exact h2.elim
theorem sRep {es : List Expr} {b : Expr} {cs : Es} {cb : Rt.E} {p pos : Pos} (hes : PA X es (rdEs C F cs E)) (hl : cs.len ≤ 1000) (hb : PE X b (rdE C F cb E)) : PE X (.BinOp (.List es p) .Mult b pos) (rdE C F (.rep cs cb) E) := by
  refine peImp (peFrz (pe_op op_rep (pe_lst hes) hb)) fun σ H Q ⟨H0, mu0, r, st, mu, R, h⟩ => ?_
  unfold ev at h
  exact repQ hl R h fun ds st2 xs H2 mu2 p' e s q hp' z => Post.lst z s q hp'
end
end Rt
namespace Rt
open PySem PySem.Spec PyProof.Rows L2
mutual
def toPy : D → PyData
  | .non => .none
  | .bl b => .bool b
  | .int i => .int i
  | .str x => .str x
  | .tup xs => .tuple (toPyA xs)
  | .lst xs => .list (toPyA xs)
  | .cell _ => .none
  | .ob => .none
  | .exc _ => .none
def toPyA : List D → List PyData
  | [] => []
  | x :: xs => toPy x :: toPyA xs
end
section
variable {K : PySem.W.Frag} {H : Hp} {mu : List Addr}
mutual
theorem Sd.dp : ∀ {n : Nat} {v : V} {d : D}, shp n d = true → Sd K H mu v d → Dp K H v (toPy d)
  | n, _, _, _, .non => .non
  | n, _, _, _, .bl b => .bl b
  | n, _, _, _, .int i => .int i
  | n, _, _, _, .str x => .str x
  | 0, _, _, h, .tup _ _ => by simp [shp] at h
  | 0, _, _, h, .lst _ _ => by simp [shp] at h
  | n + 1, _, _, h, .tup q t => by
    rw [toPy]
    exact .tup q (SdA.dp (n := n) (by simpa [shp] using h) t)
  | n + 1, _, _, h, .lst q t => by
    rw [toPy]
    exact .lst q.sq (SdA.dp (n := n) (by simpa [shp] using h) t)
  | n, _, _, h, .cell _ => by cases n <;> simp [shp] at h
  | n, _, _, h, .exc _ => by cases n <;> simp [shp] at h
theorem SdA.dp : ∀ {n : Nat} {vs : List V} {ds : List D}, (∀ d, d ∈ ds → shp n d = true) → SdA K H mu vs ds → DpAll K H vs (toPyA ds)
  | _, _, _, _, .nil => .nil
  | n, _, _, h, .cons q t => by
    rw [toPyA]
    exact .cons (Sd.dp (n := n) (h _ List.mem_cons_self) q) (SdA.dp (n := n) (fun d hd => h d (List.mem_cons_of_mem _ hd)) t)
end
end
mutual
theorem toPy_lay : ∀ (n : Nat) (d : D), shp n d = true → (toPy d).canLay0 = true ∧ (toPy d).depth ≤ n
  | n, .non, _ => ⟨rfl, Nat.zero_le _⟩
  | n, .bl _, _ => ⟨rfl, Nat.zero_le _⟩
  | n, .int _, _ => ⟨rfl, Nat.zero_le _⟩
  | n, .str x, h => ⟨by cases n <;> simpa [shp, toPy, PyData.canLay0] using h, by simp [toPy, PyData.depth]⟩
  | 0, .tup _, h => by simp [shp] at h
  | 0, .lst _, h => by simp [shp] at h
  | n + 1, .tup xs, h => by
    have := toPyA_lay n xs (by simpa [shp] using h)
    rw [toPy, PyData.canLay0, PyData.depth]
    exact ⟨this.1, by omega⟩
  | n + 1, .lst xs, h => by
    have := toPyA_lay n xs (by simpa [shp] using h)
    rw [toPy, PyData.canLay0, PyData.depth]
    exact ⟨this.1, by omega⟩
  | n, .cell _, h => by cases n <;> simp [shp] at h
  | n, .ob, h => by cases n <;> simp [shp] at h
  | n, .exc _, h => by cases n <;> simp [shp] at h
theorem toPyA_lay : ∀ (n : Nat) (ds : List D), (∀ d, d ∈ ds → shp n d = true) → PyData.canLayAll0 (toPyA ds) = true ∧ PyData.depthAll (toPyA ds) ≤ n
  | n, [], _ => ⟨rfl, Nat.zero_le _⟩
  | n, x :: xs, h => by
    have h1 := toPy_lay n x (h x List.mem_cons_self)
    have h2 := toPyA_lay n xs (fun d hd => h d (List.mem_cons_of_mem _ hd))
    rw [toPyA, PyData.canLayAll0, PyData.depthAll]
    exact ⟨by rw [h1.1, h2.1]; rfl, by omega⟩
end
theorem shp_shaped {d : D} (h : shp 30 d = true) : SeqAt.shaped (toPy d) = true := by
  have := toPy_lay 30 d h
  unfold SeqAt.shaped
  rw [this.1, decide_eq_true (by omega)]
  rfl
mutual
theorem eqv_py : ∀ (n : Nat) (d e : D), shp n d = true → shp n e = true → PyData.eqv (toPy d) (toPy e) = eqv d e
  | n, .cell _, _, h, _ => by cases n <;> simp [shp] at h
  | n, _, .cell _, _, h => by cases n <;> simp [shp] at h
  | n, .ob, _, h, _ => by cases n <;> simp [shp] at h
  | n, _, .ob, _, h => by cases n <;> simp [shp] at h
  | n, .exc _, _, h, _ => by cases n <;> simp [shp] at h
  | n, _, .exc _, _, h => by cases n <;> simp [shp] at h
  | 0, .tup _, _, h, _ => by simp [shp] at h
  | 0, .lst _, _, h, _ => by simp [shp] at h
  | 0, _, .tup _, _, h => by simp [shp] at h
  | 0, _, .lst _, _, h => by simp [shp] at h
  | n + 1, .tup xs, .tup ys, h, h' => by
    rw [toPy, toPy, PyData.eqv, eqv]
    exact eqvAll_py n xs ys (by simpa [shp] using h) (by simpa [shp] using h')
  | n + 1, .lst xs, .lst ys, h, h' => by
    rw [toPy, toPy, PyData.eqv, eqv]
    exact eqvAll_py n xs ys (by simpa [shp] using h) (by simpa [shp] using h')
  | n, .non, .non, _, _ => rfl
  | n, .non, .bl _, _, _ => rfl
  | n, .non, .int _, _, _ => rfl
  | n, .non, .str _, _, _ => rfl
  | n, .bl _, .non, _, _ => rfl
  | n, .bl _, .bl _, _, _ => rfl
  | n, .bl _, .int _, _, _ => rfl
  | n, .bl _, .str _, _, _ => rfl
  | n, .int _, .non, _, _ => rfl
  | n, .int _, .bl _, _, _ => rfl
  | n, .int _, .int _, _, _ => rfl
  | n, .int _, .str _, _, _ => rfl
  | n, .str _, .non, _, _ => rfl
  | n, .str _, .bl _, _, _ => rfl
  | n, .str _, .int _, _, _ => rfl
  | n, .str _, .str _, _, _ => rfl
  | n + 1, .non, .tup _, _, _ => by rw [toPy, toPy, PyData.eqv]; rfl
  | n + 1, .non, .lst _, _, _ => by rw [toPy, toPy, PyData.eqv]; rfl
  | n + 1, .bl _, .tup _, _, _ => by rw [toPy, toPy, PyData.eqv]; rfl
  | n + 1, .bl _, .lst _, _, _ => by rw [toPy, toPy, PyData.eqv]; rfl
  | n + 1, .int _, .tup _, _, _ => by rw [toPy, toPy, PyData.eqv]; rfl
  | n + 1, .int _, .lst _, _, _ => by rw [toPy, toPy, PyData.eqv]; rfl
  | n + 1, .str _, .tup _, _, _ => by rw [toPy, toPy, PyData.eqv]; rfl
  | n + 1, .str _, .lst _, _, _ => by rw [toPy, toPy, PyData.eqv]; rfl
  | n + 1, .tup _, .non, _, _ => by rw [toPy, toPy, PyData.eqv]; rfl
  | n + 1, .tup _, .bl _, _, _ => by rw [toPy, toPy, PyData.eqv]; rfl
  | n + 1, .tup _, .int _, _, _ => by rw [toPy, toPy, PyData.eqv]; rfl
  | n + 1, .tup _, .str _, _, _ => by rw [toPy, toPy, PyData.eqv]; rfl
  | n + 1, .tup _, .lst _, _, _ => by rw [toPy, toPy, PyData.eqv]; rfl
  | n + 1, .lst _, .non, _, _ => by rw [toPy, toPy, PyData.eqv]; rfl
  | n + 1, .lst _, .bl _, _, _ => by rw [toPy, toPy, PyData.eqv]; rfl
  | n + 1, .lst _, .int _, _, _ => by rw [toPy, toPy, PyData.eqv]; rfl
  | n + 1, .lst _, .str _, _, _ => by rw [toPy, toPy, PyData.eqv]; rfl
  | n + 1, .lst _, .tup _, _, _ => by rw [toPy, toPy, PyData.eqv]; rfl
theorem eqvAll_py : ∀ (n : Nat) (ds es : List D), (∀ d, d ∈ ds → shp n d = true) → (∀ d, d ∈ es → shp n d = true) → PyData.eqvAll (toPyA ds) (toPyA es) = eqvAll ds es
  | n, [], [], _, _ => rfl
  | n, [], _ :: _, _, _ => rfl
  | n, _ :: _, [], _, _ => rfl
  | n, x :: xs, y :: ys, h, h' => by
    rw [toPyA, toPyA, PyData.eqvAll, eqvAll, eqv_py n x y (h x List.mem_cons_self) (h' y List.mem_cons_self),
      eqvAll_py n xs ys (fun d hd => h d (List.mem_cons_of_mem _ hd)) (fun d hd => h' d (List.mem_cons_of_mem _ hd))]
end
section
variable {C : Cn} {G : Gam} {F : Nat → List D → Sto → Res D} {k : Nat} {X : Cx} {E : XK}
def cmpOf : Cop → CmpOp
  | .lt => .Lt | .le => .LtE | .gt => .Gt | .ge => .GtE | .eq => .Eq | .ne => .NotEq | .isn => .Is | .notn => .IsNot | .nin => .NotIn | .inn => .In
theorem strsD_ok {K : PySem.W.Frag} {H : Hp} {mu : List Addr} : ∀ {ds : List D} {ns : List Str} {vs : List V}, strsD ds = some ns → SdA K H mu vs ds → vs = ns.map V.str
  | [], ns, _, h, .nil => by cases h; rfl
  | .str i :: r, ns, _, h, .cons q t => by
    unfold strsD at h
    cases z : strsD r with
    | none => rw [z] at h; cases h
    | some ms =>
      rw [z] at h
      cases h
      rw [q.cStr, strsD_ok z t]
      rfl
  | .non :: _, _, _, h, _ => by cases h
  | .bl _ :: _, _, _, h, _ => by cases h
  | .int _ :: _, _, _, h, _ => by cases h
  | .tup _ :: _, _, _, h, _ => by cases h
  | .lst _ :: _, _, _, h, _ => by cases h
  | .cell _ :: _, _, _, h, _ => by cases h
  | .ob :: _, _, _, h, _ => by cases h
  | .exc _ :: _, _, _, h, _ => by cases h
theorem flat_strs (zs : List Str) : (zs.map V.str).all flatV = true := by
  rw [List.all_map]
  exact List.all_eq_true.mpr fun _ _ => rfl
theorem inV_strs (a : Str) (zs : List Str) : inV (.str a) (zs.map V.str) = zs.any fun z => z == a := by
  unfold inV
  rw [List.any_map]
  rfl
theorem Sd.non_iff {K : PySem.W.Frag} {H : Hp} {mu : List Addr} {v : V} {d : D} (h : Sd K H mu v d) : decide (v = .non) = isNon d := by
  cases h <;> rfl
theorem Sd.isNon {K : PySem.W.Frag} {H : Hp} {mu : List Addr} {v : V} {d : D} (h : Sd K H mu v d) (z : Rt.isNon d = true) : v = .non := by
  cases h <;> first | rfl | cases z
theorem cmp_all (g : Good C G F k X E) (op : Cop) (x y : D) (st : Sto) (v w : V) (H : Hp) (mu : List Addr) (Q : VK) (s : SRel C H mu st) (qx : Sd C.K H mu v x) (qy : Sd C.K H mu w y) (h : Post C (RSd C) (cmpD st op x y) H mu Q E) :
    OpAll X (compareOp (cmpOf op)) v w H Q := by
  have hu := g.room.units
  cases op with
  | eq =>
    simp only [cmpD] at h
    split at h
    · next z =>
      rw [Bool.and_eq_true] at z
      refine ⟨_, op_eqD hu, toPy x, toPy y, by rw [g.hK]; exact qx.dp z.1, by rw [g.hK]; exact qy.dp z.2, shp_shaped z.1, shp_shaped z.2, ?_⟩
      rw [eqv_py 30 x y z.1 z.2]
      exact Post.val h s (.bl _)
    · exact h.elim
  | ne =>
    simp only [cmpD] at h
    split at h
    · next z =>
      rw [Bool.and_eq_true] at z
      refine ⟨_, op_neD hu, toPy x, toPy y, by rw [g.hK]; exact qx.dp z.1, by rw [g.hK]; exact qy.dp z.2, shp_shaped z.1, shp_shaped z.2, ?_⟩
      rw [eqv_py 30 x y z.1 z.2]
      exact Post.val h s (.bl _)
    · exact h.elim
  | isn =>
    simp only [cmpD] at h
    split at h
    · next z =>
      refine ⟨_, op_isN, qy.isNon z, ?_⟩
      rw [qx.non_iff]
      exact Post.val h s (.bl _)
    · exact h.elim
  | notn =>
    simp only [cmpD] at h
    split at h
    · next z =>
      refine ⟨_, op_notN, qy.isNon z, ?_⟩
      rw [qx.non_iff]
      exact Post.val h s (.bl _)
    · exact h.elim
  | lt =>
    simp only [cmpD] at h
    split at h
    · cases qx.cInt; cases qy.cInt
      exact ⟨_, op_lt, _, _, rfl, rfl, Post.val h s (.bl _)⟩
    · exact h.elim
  | le =>
    simp only [cmpD] at h
    split at h
    · cases qx.cInt; cases qy.cInt
      exact ⟨_, op_le, _, _, rfl, rfl, Post.val h s (.bl _)⟩
    · exact h.elim
  | gt =>
    simp only [cmpD] at h
    split at h
    · cases qx.cInt; cases qy.cInt
      exact ⟨_, op_gt, _, _, rfl, rfl, Post.val h s (.bl _)⟩
    · exact h.elim
  | ge =>
    simp only [cmpD] at h
    split at h
    · cases qx.cInt; cases qy.cInt
      exact ⟨_, op_ge, _, _, rfl, rfl, Post.val h s (.bl _)⟩
    · exact h.elim
  | nin =>
    simp only [cmpD] at h
    split at h
    · split at h
      · next c z =>
        cases qx.cStr; cases qy.cStr
        exact ⟨_, op_notIn_sign, c, _, congrArg V.str (Str.ext' (Array.toList_inj.mp z)), rfl, Post.val h s (.bl _)⟩
      · exact h.elim
    · exact h.elim
  | inn =>
    simp only [cmpD] at h
    split at h
    · split at h
      · next zs z =>
        cases qx.cStr
        obtain ⟨a1, xs, rfl, h1, h2⟩ := qy.cTup
        obtain rfl := strsD_ok z h2
        refine ⟨_, op_in_seq, a1, _, rfl, .inr (by rw [g.hK]; exact h1), rfl, flat_strs zs, ?_⟩
        rw [if_neg Bool.false_ne_true, inV_strs]
        exact Post.val h s (.bl _)
      · exact h.elim
    · exact h.elim
/-- a comparison gives a bool -/
theorem cmpD_bl {st : Sto} {op : Cop} {x y : D} {d : D} {st' : Sto} (h : cmpD st op x y = .ok d st') : ∃ b, d = .bl b ∧ st' = st := by
  cases op <;> simp only [cmpD] at h <;> split at h <;> first | (cases h; exact ⟨_, rfl, rfl⟩) | cases h | (split at h <;> first | (cases h; exact ⟨_, rfl, rfl⟩) | cases h)
theorem tst_bind {α : Type} (x : Res α) (f : α → Sto → Res D) : tst (x.bind f) = x.bind fun d s => tst (f d s) := by
  cases x <;> rfl
theorem tst_cmp {st : Sto} {op : Cop} {x y : D} {Q : Bool → Hp → Prop} {H : Hp} {mu : List Addr} (h : Post C RB (tst (cmpD st op x y)) H mu Q E) : Post C (RSd C) (cmpD st op x y) H mu (fun v H' => ∃ k, v = .bl k ∧ Q k H') E := by
  cases z : cmpD st op x y with
  | ok d st' =>
    obtain ⟨b, rfl, rfl⟩ := cmpD_bl z
    rw [z] at h
    intro v H' mu' e s q
    exact ⟨b, Sd.cBl q, h b H' mu' e s rfl⟩
  | exc c st' => rw [z] at h; exact h
  | bad => rw [z] at h; exact h
theorem sNeg {a : Expr} {ca : Rt.E} {pos : Pos} (ha : PE X a (rdE C F ca E)) : PE X (.UnaryOp .USub a pos) (rdE C F (.neg ca) E) := by
  refine peImp (pe_un un_neg ha) fun σ H Q ⟨H0, mu0, r, st, mu, R, h⟩ => ?_
  unfold ev at h
  refine ⟨H0, mu0, r, st, mu, R, Post.bind h fun x st1 v H1 mu1 e1 s1 q1 h1 => ?_⟩
  split at h1
  · exact ⟨_, Sd.cInt q1, Post.val h1 s1 (.int _)⟩
  · exact h1.elim
theorem sNot {a : Expr} {ca : Rt.E} {pos : Pos} (ha : PE X a (rdE C F ca E)) : PE X (.UnaryOp .Not a pos) (rdE C F (.not ca) E) := by
  refine peImp (pe_not ha) fun σ H Q ⟨H0, mu0, r, st, mu, R, h⟩ => ?_
  unfold ev at h
  refine ⟨H0, mu0, r, st, mu, R, Post.bind h fun x st1 v H1 mu1 e1 s1 q1 h1 => ?_⟩
  split at h1
  · exact ⟨_, Sd.cBl q1, Post.val h1 s1 (.bl _)⟩
  · exact h1.elim
theorem sCmp (g : Good C G F k X E) {a b : Expr} {ca cb : Rt.E} {op : Cop} {pos : Pos} (ha : PE X a (rdE C F ca E)) (hb : PE X b (rdE C F cb E)) (hm : behindInMarks (cmpOf op) b = false) : PE X (.Compare a [cmpOf op] [b] pos) (rdE C F (.cmp op ca cb) E) := by
  refine peImp (pe_cmpR opAll ha hb hm) fun σ H Q ⟨H0, mu0, r, st, mu, R, h⟩ => ?_
  unfold ev at h
  refine ⟨H0, mu0, r, st, mu, R, Post.bind h fun x st1 v H1 mu1 e1 s1 q1 h1 => ?_⟩
  refine ⟨H0, mu0, r, st1, mu1, R.step e1 s1, Post.bind h1 fun y st2 w H2 mu2 e2 s2 q2 h2 => ?_⟩
  exact cmp_all g op x y st2 v w H2 mu2 Q s2 (Sd.mono e2 q1) q2 h2
theorem tCmp (g : Good C G F k X E) {a b : Expr} {ca cb : Rt.E} {op : Cop} {pos : Pos} (ha : PE X a (rdE C F ca E)) (hb : PE X b (rdE C F cb E)) (hm : behindInMarks (cmpOf op) b = false) : PT X (.Compare a [cmpOf op] [b] pos) (rdT C F (.cmp op ca cb) E) := by
  refine ptImp (pt_cmpR opAll ha hb hm) fun σ H Q ⟨H0, mu0, r, st, mu, R, h⟩ => ?_
  unfold ev at h
  rw [tst_bind] at h
  refine ⟨H0, mu0, r, st, mu, R, Post.bind h fun x st1 v H1 mu1 e1 s1 q1 h1 => ?_⟩
  rw [tst_bind] at h1
  refine ⟨H0, mu0, r, st1, mu1, R.step e1 s1, Post.bind h1 fun y st2 w H2 mu2 e2 s2 q2 h2 => ?_⟩
  exact cmp_all g op x y st2 v w H2 mu2 _ s2 (Sd.mono e2 q1) q2 (tst_cmp h2)
/-- the core of a chain -/
theorem chainQ (g : Good C G F k X E) {ca cb cc : Rt.E} {o1 o2 : Cop} {σ : L2.St} {H : Hp} {Q : VK} {H0 : Hp} {mu0 : List Addr} {r : Env} {st : Sto} {mu : List Addr} (R : Rel C H0 mu0 σ H r st mu) (h : Post C (RSd C) (ev F (.chain o1 o2 ca cb cc) r st) H mu Q E) :
    tChain (OpAll X (compareOp (cmpOf o1))) (OpAll X (compareOp (cmpOf o2))) (rdE C F ca E) (rdE C F cb E) (rdE C F cc E) σ H Q := by
  unfold ev at h
  refine ⟨H0, mu0, r, st, mu, R, Post.bind h fun x st1 v H1 mu1 e1 s1 q1 h1 => ?_⟩
  refine ⟨H0, mu0, r, st1, mu1, R.step e1 s1, Post.bind h1 fun y st2 w H2 mu2 e2 s2 q2 h2 => ?_⟩
  refine cmp_all g o1 x y st2 v w H2 mu2 _ s2 (Sd.mono e2 q1) q2 ?_
  cases z : cmpD st2 o1 x y with
  | ok d st' =>
    obtain ⟨b, rfl, rfl⟩ := cmpD_bl z
    rw [z] at h2
    simp only [Res.bind_ok] at h2
    intro v' H' mu' e3 s3 q3
    refine ⟨b, Sd.cBl q3, ?_⟩
    have h3 := h2.mono e3
    cases b with
    | false =>
      rw [if_neg Bool.false_ne_true]
      exact Post.val h3 s3 (.bl false)
    | true =>
      rw [if_pos rfl]
      have h3 : Post C (RSd C) ((ev F cc r st').bind fun z s => cmpD s o2 y z) H' mu' Q E := h3
      refine ⟨H0, mu0, r, st', mu', ((R.step e1 s1).step e2 s2).step e3 s3, Post.bind h3 fun u st3 w' H3 mu3 e4 s4 q4 h4 => ?_⟩
      exact cmp_all g o2 y u st3 w w' H3 mu3 Q s4 (Sd.mono e4 (Sd.mono e3 q2)) q4 h4
  | exc c st' => rw [z] at h2; exact h2
  | bad => rw [z] at h2; exact h2
theorem sChain (g : Good C G F k X E) {a b c : Expr} {ca cb cc : Rt.E} {o1 o2 : Cop} {pos : Pos} (ha : PE X a (rdE C F ca E)) (hb : PE X b (rdE C F cb E)) (hc : PE X c (rdE C F cc E)) (hm : lastMarks [cmpOf o1, cmpOf o2] [b, c] = false) :
    PE X (.Compare a [cmpOf o1, cmpOf o2] [b, c] pos) (rdE C F (.chain o1 o2 ca cb cc) E) :=
  peImp (pe_chain opAll opAll ha hb hc hm) fun σ H Q ⟨H0, mu0, r, st, mu, R, h⟩ => chainQ g R h
/-- a chain's value is a bool -/
theorem ev_chain_bl {ca cb cc : Rt.E} {o1 o2 : Cop} {r : Env} {st st' : Sto} {d : D} (h : ev F (.chain o1 o2 ca cb cc) r st = .ok d st') : ∃ b, d = .bl b := by
  unfold ev at h
  cases z1 : ev F ca r st with
  | ok x s1 =>
    rw [z1] at h
    simp only [Res.bind_ok] at h
    cases z2 : ev F cb r s1 with
    | ok y s2 =>
      rw [z2] at h
      simp only [Res.bind_ok] at h
      cases z3 : cmpD s2 o1 x y with
      | ok w s3 =>
        rw [z3] at h
        simp only [Res.bind_ok] at h
        split at h
        · cases z4 : ev F cc r s3 with
          | ok u s4 =>
            rw [z4] at h
            simp only [Res.bind_ok] at h
            obtain ⟨b, rfl, _⟩ := cmpD_bl h
            exact ⟨b, rfl⟩
          | exc c s4 => rw [z4] at h; cases h
          | bad => rw [z4] at h; cases h
        · cases h; exact ⟨_, rfl⟩
        · cases h
      | exc c s3 => rw [z3] at h; cases h
      | bad => rw [z3] at h; cases h
    | exc c s2 => rw [z2] at h; cases h
    | bad => rw [z2] at h; cases h
  | exc c s1 => rw [z1] at h; cases h
  | bad => rw [z1] at h; cases h
/-- what a test asks, as a value's -/
theorem tst_val {x : Res D} {Q : Bool → Hp → Prop} {H : Hp} {mu : List Addr} (h : Post C RB (tst x) H mu Q E) (hb : ∀ d st, x = .ok d st → ∃ b, d = .bl b) : Post C (RSd C) x H mu (fun v H' => ∃ k, v = .bl k ∧ Q k H') E := by
  cases x with
  | ok d st' =>
    obtain ⟨b, rfl⟩ := hb d st' rfl
    intro v H' mu' e s q
    exact ⟨b, Sd.cBl q, h b H' mu' e s rfl⟩
  | exc c st' => exact h
  | bad => exact h
theorem tChain' (g : Good C G F k X E) {a b c : Expr} {ca cb cc : Rt.E} {o1 o2 : Cop} {pos : Pos} (ha : PE X a (rdE C F ca E)) (hb : PE X b (rdE C F cb E)) (hc : PE X c (rdE C F cc E)) (hm : lastMarks [cmpOf o1, cmpOf o2] [b, c] = false) :
    PT X (.Compare a [cmpOf o1, cmpOf o2] [b, c] pos) (rdT C F (.chain o1 o2 ca cb cc) E) :=
  ptImp (pt_chain opAll opAll ha hb hc hm) fun σ H Q ⟨H0, mu0, r, st, mu, R, h⟩ => chainQ g R (tst_val h fun d st' z => ev_chain_bl z)
theorem sAnd {a b : Expr} {ca cb : Rt.E} {rest : List Expr} {pos : Pos} (ha : PE X a (rdE C F ca E)) (hb : PE X (.BoolOp .And (b :: rest) pos) (rdE C F cb E)) : PE X (.BoolOp .And (a :: b :: rest) pos) (rdE C F (.and ca cb) E) := by
  refine peImp (pe_and ha hb) fun σ H Q ⟨H0, mu0, r, st, mu, R, h⟩ => ?_
  unfold ev at h
  refine ⟨H0, mu0, r, st, mu, R, Post.bind h fun x st1 v H1 mu1 e1 s1 q1 h1 => ?_⟩
  split at h1
  · exact ⟨true, Sd.cBl q1, by rw [if_pos rfl]; exact ⟨H0, mu0, r, st1, mu1, R.step e1 s1, h1⟩⟩
  · exact ⟨false, Sd.cBl q1, by rw [if_neg Bool.false_ne_true]; exact Post.val h1 s1 (.bl _)⟩
  · exact h1.elim
theorem sOr {a b : Expr} {ca cb : Rt.E} {rest : List Expr} {pos : Pos} (ha : PE X a (rdE C F ca E)) (hb : PE X (.BoolOp .Or (b :: rest) pos) (rdE C F cb E)) : PE X (.BoolOp .Or (a :: b :: rest) pos) (rdE C F (.or ca cb) E) := by
  refine peImp (pe_or ha hb) fun σ H Q ⟨H0, mu0, r, st, mu, R, h⟩ => ?_
  unfold ev at h
  refine ⟨H0, mu0, r, st, mu, R, Post.bind h fun x st1 v H1 mu1 e1 s1 q1 h1 => ?_⟩
  split at h1
  · exact ⟨true, Sd.cBl q1, by rw [if_pos rfl]; exact Post.val h1 s1 (.bl _)⟩
  · exact ⟨false, Sd.cBl q1, by rw [if_neg Bool.false_ne_true]; exact ⟨H0, mu0, r, st1, mu1, R.step e1 s1, h1⟩⟩
  · exact h1.elim
/-- the value under a test that is no int's -/
theorem tst_split {ca : Rt.E} {f : D → Sto → Res D} {H0 H : Hp} {mu0 mu : List Addr} {σ : L2.St} {r : Env} {st : Sto} {Q : Bool → Hp → Prop} {Q' : Bool → Hp → Prop} (R : Rel C H0 mu0 σ H r st mu) (h : Post C RB (tst ((ev F ca r st).bind f)) H mu Q E)
    (hf : ∀ i s, f (.int i) s = .bad) (hd : ∀ d s, (∀ b, d ≠ .bl b) → f d s = .bad) (w : ∀ b st1 H1 mu1, Ext mu mu1 H H1 → SRel C H1 mu1 st1 → Post C RB (tst (f (.bl b) st1)) H1 mu1 Q E → Q' b H1) : rdT C F ca E σ H Q' := by
  refine ⟨H0, mu0, r, st, mu, R, ?_⟩
  cases z : ev F ca r st with
  | ok d st1 =>
    rw [z] at h
    simp only [Res.bind_ok] at h
    cases d with
    | bl b =>
      intro v H1 mu1 e s q
      cases q
      exact w b st1 H1 mu1 e s (h.mono e)
    | _ => rw [hd _ _ (fun b q => by cases q)] at h; exact h.elim
  | exc c st1 => rw [z] at h; exact h
  | bad => rw [z] at h; exact h
theorem tAnd' {a b : Expr} {ca cb : Rt.E} {rest : List Expr} {pos : Pos} (ha : PT X a (rdT C F ca E)) (hb : PW X (.BoolOp .And (b :: rest) pos) (rdT C F cb E)) : PW X (.BoolOp .And (a :: b :: rest) pos) (rdT C F (.and ca cb) E) := by
  refine pwImp (pw_and ha hb) fun σ H Q ⟨H0, mu0, r, st, mu, R, h⟩ => ?_
  unfold ev at h
  refine tst_split R h (fun _ _ => rfl) (fun d s n => ?_) fun b st1 H1 mu1 e s h1 => ?_
  · split
    · exact absurd rfl (n _)
    · exact absurd rfl (n _)
    · rfl
  · cases b with
    | true => rw [if_pos rfl]; exact ⟨H0, mu0, r, st1, mu1, R.step e s, h1⟩
    | false => rw [if_neg Bool.false_ne_true]; exact h1 false H1 mu1 .refl s rfl
theorem tOr' {a b : Expr} {ca cb : Rt.E} {rest : List Expr} {pos : Pos} (ha : PT X a (rdT C F ca E)) (hb : PW X (.BoolOp .Or (b :: rest) pos) (rdT C F cb E)) : PW X (.BoolOp .Or (a :: b :: rest) pos) (rdT C F (.or ca cb) E) := by
  refine pwImp (pw_or ha hb) fun σ H Q ⟨H0, mu0, r, st, mu, R, h⟩ => ?_
  unfold ev at h
  refine tst_split R h (fun _ _ => rfl) (fun d s n => ?_) fun b st1 H1 mu1 e s h1 => ?_
  · split
    · exact absurd rfl (n _)
    · exact absurd rfl (n _)
    · rfl
  · cases b with
    | true => rw [if_pos rfl]; exact h1 true H1 mu1 .refl s rfl
    | false => rw [if_neg Bool.false_ne_true]; exact ⟨H0, mu0, r, st1, mu1, R.step e s, h1⟩
theorem tNot' {a : Expr} {ca : Rt.E} {pos : Pos} (ha : PT X a (rdT C F ca E)) : PT X (.UnaryOp .Not a pos) (rdT C F (.not ca) E) := by
  refine ptImp (pt_not ha) fun σ H Q ⟨H0, mu0, r, st, mu, R, h⟩ => ?_
  unfold ev at h
  refine tst_split R h (fun _ _ => rfl) (fun d s n => ?_) fun b st1 H1 mu1 e s h1 => ?_
  · split
    · exact absurd rfl (n _)
    · rfl
  · exact h1 (!b) H1 mu1 .refl s rfl
theorem sIte {c a b : Expr} {cc ca cb : Rt.E} {pos : Pos} (hc : PT X c (rdT C F cc E)) (ha : PE X a (rdE C F ca E)) (hb : PE X b (rdE C F cb E)) : PE X (.IfExp c a b pos) (rdE C F (.ite cc ca cb) E) := by
  refine peImp (pe_ifExp hc ha hb) fun σ H Q ⟨H0, mu0, r, st, mu, R, h⟩ => ?_
  unfold ev at h
  refine ⟨H0, mu0, r, st, mu, R, ?_⟩
  cases z : ev F cc r st with
  | ok d st1 =>
    rw [z] at h
    simp only [Res.bind_ok] at h
    cases d with
    | bl k =>
      intro v H1 mu1 e s q
      cases q
      cases k with
      | true => rw [if_pos rfl]; exact ⟨H0, mu0, r, st1, mu1, R.step e s, h.mono e⟩
      | false => rw [if_neg Bool.false_ne_true]; exact ⟨H0, mu0, r, st1, mu1, R.step e s, h.mono e⟩
    | _ => exact h.elim
  | exc c st1 => rw [z] at h; exact h
  | bad => rw [z] at h; exact h
theorem tIte {c a b : Expr} {cc ca cb : Rt.E} {pos : Pos} (hc : PT X c (rdT C F cc E)) (ha : PT X a (rdT C F ca E)) (hb : PT X b (rdT C F cb E)) : PT X (.IfExp c a b pos) (rdT C F (.ite cc ca cb) E) := by
  refine ptImp (ptIf hc ha hb) fun σ H Q ⟨H0, mu0, r, st, mu, R, h⟩ => ?_
  unfold ev at h
  refine tst_split R h (fun _ _ => rfl) (fun d s n => ?_) fun b st1 H1 mu1 e s h1 => ?_
  · split
    · exact absurd rfl (n _)
    · exact absurd rfl (n _)
    · rfl
  · cases b with
    | true => rw [if_pos rfl]; exact ⟨H0, mu0, r, st1, mu1, R.step e s, h1⟩
    | false => rw [if_neg Bool.false_ne_true]; exact ⟨H0, mu0, r, st1, mu1, R.step e s, h1⟩
/-- any other expression as a test -/
theorem tVal {a : Expr} {ca : Rt.E} (ha : PE X a (rdE C F ca E)) (he : ∀ whole, PySem.isTrue a X.env whole = (do let v ← whole; standAt a.pos; holding [v] (truthy v))) : PT X a (rdT C F ca E) := by
  refine ptImp (pt_truth ha he) fun σ H Q ⟨H0, mu0, r, st, mu, R, h⟩ => ?_
  refine ⟨H0, mu0, r, st, mu, R, ?_⟩
  cases z : ev F ca r st with
  | ok d st1 =>
    rw [z] at h
    intro v H1 mu1 e s q
    cases q with
    | bl b => exact ⟨b, rfl, h b H1 mu1 e s rfl⟩
    | int i => exact ⟨i != 0, rfl, h _ H1 mu1 e s rfl⟩
    | _ => exact h.elim
  | exc c st1 => rw [z] at h; exact h
  | bad => rw [z] at h; exact h
end
end Rt
namespace Rt
open PySem PySem.Spec PyProof.Rows L2
/-- no star, no slice, no set display -/
def plainE : Expr → Bool
  | .Starred .. => false
  | .Slice .. => false
  | .Set .. => false
  | _ => true
theorem plain_star {e : Expr} {es : List Expr} {env : PySem.Env} (h : plainE e = true) : starEach (e :: es) env = (false, eval e env) :: starEach es env := by
  cases e <;> first | rfl | cases h
theorem plain_any {env : PySem.Env} {pos : Pos} : ∀ {es : List Expr}, es.all plainE = true → (backTo pos (starEach es env)).any (·.1) = false
  | [], _ => rfl
  | e :: es, h => by
    rw [List.all_cons, Bool.and_eq_true] at h
    rw [plain_star h.1]
    show (false || (backTo pos (starEach es env)).any (·.1)) = false
    rw [plain_any h.2]; rfl
theorem plain_ix {e : Expr} (h : plainE e = true) : PlainIx e := fun o i => by
  cases e <;> first | rfl | cases h
theorem plain_mark {e : Expr} {op : CmpOp} (h : plainE e = true) : behindInMarks op e = false := by
  cases e <;> first | rfl | cases h
theorem plain_last {a b : Expr} {o1 o2 : CmpOp} (h : plainE b = true) : lastMarks [o1, o2] [a, b] = false := by
  show behindInMarks o2 b = false
  exact plain_mark h
theorem plain_set {e : Expr} {env : PySem.Env} (h : plainE e = true) : ∀ x, foldedSetIterable e env x = pure x := fun x => by
  cases e <;> first | rfl | cases h
section
variable {C : Cn} {G : Gam} {F : Nat → List D → Sto → Res D} {k : Nat} {X : Cx} {E : XK}
theorem atD_ok {st : Sto} {ds : List D} {i : Int} {K : PySem.W.Frag} {H : Hp} {mu : List Addr} {xs : List V} {Q : VK} (h : Post C (RSd C) (atD st ds i) H mu Q E) (s : SRel C H mu st) (q : SdA C.K H mu xs ds) : ∃ v, atI xs i = some v ∧ Q v H := by
  unfold atD at h
  split at h
  · exact h.elim
  · next z =>
    split at h
    · exact h.elim
    · next z2 =>
      obtain ⟨v, hv, hd⟩ := q.get z2
      refine ⟨v, ?_, Post.val h s hd⟩
      unfold atI
      rw [q.length, show ixN ds.length i = ixD ds.length i from rfl, z]
      exact hv
def IxAll (X : Cx) : R2 := fun v w H Q => ∃ R : R2, IxR X R ∧ R v w H Q
theorem ixAll : IxR X (IxAll X) := by
  intro value slice pins s σ H x y v u Q I rx ry ⟨R, hR, q⟩ hs
  exact hR value slice pins s σ H x y v u Q I rx ry q hs
theorem sub_all (g : Good C G F k X E) (x y : D) (st : Sto) (v w : V) (H : Hp) (mu : List Addr) (Q : VK) (s : SRel C H mu st) (qx : Sd C.K H mu v x) (qy : Sd C.K H mu w y) (h : Post C (RSd C) (subD st x y) H mu Q E) : IxAll X v w H Q := by
  unfold subD at h
  split at h
  · cases qx.cStr
    cases qy.cInt
    unfold atS at h
    split at h
    · exact h.elim
    · next z =>
      split at h
      · exact h.elim
      · next z2 =>
        split at h
        · next hz =>
          refine ⟨_, ix_str, _, _, _, rfl, rfl, Nat.le_trans hz sizeN_le, ?_, Post.val h s (.str _)⟩
          unfold atI
          rw [show ixN = ixD from rfl, z]
          exact z2
        · exact h.elim
  · obtain ⟨a, xs, rfl, h1, h2⟩ := qx.cTup
    cases qy.cInt
    obtain ⟨u, e, q⟩ := atD_ok (K := C.K) h s h2
    exact ⟨_, ix_tup, a, xs, _, u, rfl, rfl, by rw [g.hK]; exact h1, e, q⟩
  · obtain ⟨a, xs, rfl, h1, h2⟩ := qx.cLst
    cases qy.cInt
    obtain ⟨u, e, q⟩ := atD_ok (K := C.K) h s h2
    exact ⟨_, ix_list, a, xs, _, u, rfl, rfl, by rw [g.hK]; exact h1.sq, e, q⟩
  · obtain ⟨a, rfl, h1⟩ := qx.cCell
    cases qy.cInt
    split at h
    · exact h.elim
    · next z =>
      unfold cellAt at h
      split at h
      · exact h.elim
      next hob =>
      rw [Bool.not_eq_true] at hob
      obtain ⟨xs, h2, h3⟩ := (celOk_lst hob).mp (s.cel _ a _ h1 z)
      obtain ⟨u, e, q⟩ := atD_ok (K := C.K) h s h3
      exact ⟨_, ix_list, a, xs, _, u, rfl, rfl, SqL.of h2, e, q⟩
  · exact h.elim
theorem sSub (g : Good C G F k X E) {a b : Expr} {ca cb : Rt.E} {pos : Pos} (ha : PE X a (rdE C F ca E)) (hb : PE X b (rdE C F cb E)) (hp : plainE b = true) : PE X (.Subscript a b pos) (rdE C F (.sub ca cb) E) := by
  refine peImp (pe_ix ixAll ha hb (plain_ix hp)) fun σ H Q ⟨H0, mu0, r, st, mu, R, h⟩ => ?_
  unfold ev at h
  refine ⟨H0, mu0, r, st, mu, R, Post.bind h fun x st1 v H1 mu1 e1 s1 q1 h1 => ?_⟩
  refine ⟨H0, mu0, r, st1, mu1, R.step e1 s1, Post.bind h1 fun y st2 w H2 mu2 e2 s2 q2 h2 => ?_⟩
  exact sub_all g x y st2 v w H2 mu2 Q s2 (Sd.mono e2 q1) q2 h2
theorem sSubo (g : Good C G F k X E) {i : Nat} {x : Str} {b : Expr} {cb : Rt.E} {p pos : Pos} (hi : G.N[i]? = some x) (hv : Vis X.env.scope x) (hb : PE X b (rdE C F cb E)) (hp : plainE b = true) : PE X (.Subscript (.Name x p) b pos) (rdE C F (.subo i cb) E) := by
  have hd := g.dbg x (List.mem_of_getElem? hi)
  refine peImp (pe_ix ix_list (pe_var (i := i) (by rw [g.hN]; exact hi) hv hd.1 hd.2) hb (plain_ix hp)) fun σ H Q ⟨H0, mu0, r, st, mu, R, h⟩ => ?_
  unfold ev at h
  cases e : getO r i with
  | none => rw [e] at h; exact h.elim
  | some ds =>
    rw [e] at h
    obtain ⟨a, xs, hs, h0, hm, hx, hq⟩ := R.own e
    refine ⟨.ref a, hs, H0, mu0, r, st, mu, R, Post.bind h fun y st1 w H1 mu1 e1 s1 q1 h1 => ?_⟩
    split at h1
    · cases Sd.cInt q1
      obtain ⟨u, e2, q⟩ := atD_ok (K := C.K) h1 s1 (hq.mono e1)
      exact ⟨a, xs, _, u, rfl, rfl, SqL.of (e1.keepL _ _ hx hm), e2, q⟩
    · exact h1.elim
/-- how a slice's part is checked -/
inductive PartOk (C : Cn) (F : Nat → List D → Sto → Res D) (X : Cx) (E : XK) : Option Expr → Oe → Prop where
  | none : PartOk C F X E none .none
  | some {e : Expr} {c : Rt.E} (h : PE X e (rdE C F c E)) : PartOk C F X E (some e) (.some c)
def SlAll (X : Cx) : V → Option Int → Option Int → Hp → VK → Prop := fun x lo hi H Q => ∃ R, SlR X R ∧ R x lo hi H Q
theorem slAll : SlR X (SlAll X) := by
  intro pins s σ H x v vl vu lo hi sl Q I rx hs pl pu ⟨R, hR, q⟩
  exact hR pins s σ H x v vl vu lo hi sl Q I rx hs pl pu q
theorem cut_ok {K : PySem.W.Frag} {H : Hp} {mu : List Addr} {xs : List V} {ds : List D} (h : SdA K H mu xs ds) (lo hi : Option Int) : SdA K H mu (cutV xs lo hi) (cutD ds lo hi) := by
  unfold cutV cutD
  rw [show partD = HT.sIx from rfl, h.length]
  exact (h.drop _).take _
theorem cut_whole {ds : List D} {lo hi : Option Int} (h1 : partD ds.length 0 lo = 0) (h2 : partD ds.length ds.length hi = ds.length) : cutD ds lo hi = ds := by
  unfold cutD
  rw [h1, h2]
  simp
theorem slice_all (g : Good C G F k X E) (x : D) (lo hi : Option Int) (st : Sto) (v : V) (H : Hp) (mu : List Addr) (Q : VK) (s : SRel C H mu st) (qx : Sd C.K H mu v x) (h : Post C (RSd C) (sliceD st x lo hi) H mu Q E) : SlAll X v lo hi H (frzQ Q) := by
  unfold sliceD at h
  split at h
  · obtain ⟨a, xs, rfl, h1, h2⟩ := qx.cTup
    refine ⟨_, sl_tupA, a, xs, rfl, by rw [g.hK]; exact h1, fun hw => ?_, fun hw p hp => ?_⟩
    · rw [h2.length] at hw
      exact Post.valQ h s (Sd.tupOf h1 h2 (cut_whole hw.1 hw.2).symm)
    · exact Post.tupQ h s (cut_ok h2 lo hi) hp
  · obtain ⟨a, xs, rfl, h1, h2⟩ := qx.cLst
    exact ⟨_, sl_list, a, xs, rfl, by rw [g.hK]; exact h1.sq, fun p hp => Post.lstQ h s (cut_ok h2 lo hi) hp⟩
  · split at h
    · next hz =>
      cases qx.cStr
      exact ⟨_, sl_str, _, rfl, Nat.le_trans hz sizeN_le, Post.valQ h s (.str _)⟩
    · exact h.elim
  · exact h.elim
/-- a part of a slice is evaluated, then the rest -/
theorem partQ {e : Option Expr} {c : Oe} (p : PartOk C F X E e c) : ∃ t : TO, PO X e t ∧ ∀ {σ : L2.St} {H H0 : Hp} {mu0 mu : List Addr} {r : Env} {st : Sto} {Q : Option Int → Hp → Prop} {QQ : VK} {f : Option Int → Sto → Res D}, Rel C H0 mu0 σ H r st mu →
    Post C (RSd C) ((evo F c r st).bind fun d s => ofP (partsD d) fun i => f i s) H mu QQ E →
    (∀ i st1 H1 mu1, Ext mu mu1 H H1 → SRel C H1 mu1 st1 → Post C (RSd C) (f i st1) H1 mu1 QQ E → Q i H1) → t σ H Q := by
  cases p with
  | none =>
    refine ⟨_, po_none, fun {σ H H0 mu0 mu r st Q QQ f} R h w => ?_⟩
    unfold evo at h
    exact w none st H mu .refl R.srel h
  | some he =>
    refine ⟨_, po_some he, fun {σ H H0 mu0 mu r st Q QQ f} R h w => ?_⟩
    unfold evo at h
    refine ⟨H0, mu0, r, st, mu, R, ?_⟩
    rename_i c
    cases z : ev F c r st with
    | ok d st1 =>
      rw [z] at h
      simp only [Res.bind_ok] at h
      intro v H1 mu1 e s q
      have h1 := Post.mono h e
      cases q with
      | int i => exact ⟨i, rfl, w (some i) st1 H1 mu1 e s h1⟩
      | _ => exact h1.elim
    | exc x st1 => rw [z] at h; exact h
    | bad => rw [z] at h; exact h
theorem sSlice (g : Good C G F k X E) {a : Expr} {ca : Rt.E} {lo hi : Option Expr} {cl ch : Oe} {p pos : Pos} (ha : PE X a (rdE C F ca E)) (hl : PartOk C F X E lo cl) (hh : PartOk C F X E hi ch) : PE X (.Subscript a (.Slice lo hi none p) pos) (rdE C F (.slice ca cl ch) E) := by
  obtain ⟨tl, hl', ql⟩ := partQ hl
  obtain ⟨th, hh', qh⟩ := partQ hh
  refine peImp (peFrzO (pe_slice slAll ha hl' hh')) fun σ H Q ⟨H0, mu0, r, st, mu, R, h⟩ => ?_
  unfold ev at h
  refine ⟨H0, mu0, r, st, mu, R, Post.bind h fun x st1 v H1 mu1 e1 s1 q1 h1 => ?_⟩
  refine ql (R.step e1 s1) h1 fun l st2 H2 mu2 e2 s2 h2 => ?_
  refine qh ((R.step e1 s1).step e2 s2) h2 fun u st3 H3 mu3 e3 s3 h3 => ?_
  exact slice_all g x l u st3 v H3 mu3 Q s3 (Sd.mono e3 (Sd.mono e2 q1)) h3
theorem sCall (g : Good C G F k X E) {f : Nat} {x : Str} {e : Expr} {es : List Expr} {cs : Es} {p pos : Pos} (hf : G.fnm f = some x) (hM : isM f = false) (hg : Gl X x) (hes : PA X (e :: es) (rdEs C F cs E)) (hp : (e :: es).all plainE = true) : PE X (.Call (.Name x p) (e :: es) [] pos) (rdE C F (.call f cs) E) := by
  obtain ⟨hdb, fa, fd, ps, hm, hk, hb, hF, hlen⟩ := g.fns f x hf hM
  obtain ⟨L, env0, outer0, hstk, hf0, hfr, tk⟩ := g.tk
  rw [List.all_cons, Bool.and_eq_true] at hp
  refine peImp (pe_call (dvs := []) hF (g.room.mono (Nat.le_succ _)) hg hm hk hb .nil (passesL tk (fun _ _ _ _ z => z)) hes hdb (plain_star hp.1) (plain_any hp.2)) fun σ H Q ⟨H0, mu0, r, st, mu, R, h⟩ => ?_
  unfold ev at h
  refine ⟨H0, mu0, r, st, mu, R, Post.bindLen h fun ds st1 vs H1 mu1 len e1 s1 q1 h1 => ?_⟩
  rw [List.append_nil]
  by_cases hz : ds.length = ps.length
  · exact ⟨by rw [q1.length, hz], ds, st1, mu1, q1, s1, h1⟩
  · rw [hlen ds st1 hz] at h1
    exact h1.elim
def CallAll (X : Cx) (f : Value) : List V → Hp → VK → Prop := fun vs H Q => ∃ R, CallR X f R ∧ R vs H Q
theorem callAll {f : Value} : CallR X f (CallAll X f) := by
  intro pins s σ H xs us Q I r ⟨R, hR, q⟩
  exact hR pins s σ H xs us Q I r q
theorem intsD_ok {K : PySem.W.Frag} {H : Hp} {mu : List Addr} : ∀ {ds : List D} {ns : List Int} {vs : List V}, intsD ds = some ns → SdA K H mu vs ds → vs = ns.map V.int
  | [], ns, _, h, .nil => by cases h; rfl
  | .int i :: r, ns, _, h, .cons q t => by
    unfold intsD at h
    cases z : intsD r with
    | none => rw [z] at h; cases h
    | some ms =>
      rw [z] at h
      cases h
      rw [q.cInt, intsD_ok z t]
      rfl
  | .non :: _, _, _, h, _ => by cases h
  | .bl _ :: _, _, _, h, _ => by cases h
  | .str _ :: _, _, _, h, _ => by cases h
  | .tup _ :: _, _, _, h, _ => by cases h
  | .lst _ :: _, _, _, h, _ => by cases h
  | .cell _ :: _, _, _, h, _ => by cases h
  | .ob :: _, _, _, h, _ => by cases h
  | .exc _ :: _, _, _, h, _ => by cases h
theorem boolsD_ok {K : PySem.W.Frag} {H : Hp} {mu : List Addr} : ∀ {ds : List D} {ns : List Bool} {vs : List V}, boolsD ds = some ns → SdA K H mu vs ds → vs = ns.map V.bl
  | [], ns, _, h, .nil => by cases h; rfl
  | .bl i :: r, ns, _, h, .cons q t => by
    unfold boolsD at h
    cases z : boolsD r with
    | none => rw [z] at h; cases h
    | some ms =>
      rw [z] at h
      cases h
      rw [q.cBl, boolsD_ok z t]
      rfl
  | .non :: _, _, _, h, _ => by cases h
  | .int _ :: _, _, _, h, _ => by cases h
  | .str _ :: _, _, _, h, _ => by cases h
  | .tup _ :: _, _, _, h, _ => by cases h
  | .lst _ :: _, _, _, h, _ => by cases h
  | .cell _ :: _, _, _, h, _ => by cases h
  | .ob :: _, _, _, h, _ => by cases h
  | .exc _ :: _, _, _, h, _ => by cases h
theorem minL_spec : ∀ (r : List Int) (m : Int), (minL m r = m ∨ minL m r ∈ r) ∧ minL m r ≤ m ∧ ∀ y, y ∈ r → minL m r ≤ y
  | [], m => ⟨.inl rfl, Int.le_refl _, fun y h => absurd h (by simp)⟩
  | x :: r, m => by
    obtain ⟨h1, h2, h3⟩ := minL_spec r (if x < m then x else m)
    have e : minL m (x :: r) = minL (if x < m then x else m) r := rfl
    rw [e]
    refine ⟨?_, ?_, fun y hy => ?_⟩
    · rcases h1 with h | h
      · rw [h]
        by_cases z : x < m
        · rw [if_pos z]; exact .inr (by simp)
        · rw [if_neg z]; exact .inl rfl
      · exact .inr (List.mem_cons_of_mem _ h)
    · refine Int.le_trans h2 ?_
      split <;> omega
    · rcases List.mem_cons.mp hy with z | z
      · subst z
        refine Int.le_trans h2 ?_
        split <;> omega
      · exact h3 y z
theorem maxL_spec : ∀ (r : List Int) (m : Int), (maxL m r = m ∨ maxL m r ∈ r) ∧ m ≤ maxL m r ∧ ∀ y, y ∈ r → y ≤ maxL m r
  | [], m => ⟨.inl rfl, Int.le_refl _, fun y h => absurd h (by simp)⟩
  | x :: r, m => by
    obtain ⟨h1, h2, h3⟩ := maxL_spec r (if x > m then x else m)
    have e : maxL m (x :: r) = maxL (if x > m then x else m) r := rfl
    rw [e]
    refine ⟨?_, ?_, fun y hy => ?_⟩
    · rcases h1 with h | h
      · rw [h]
        by_cases z : x > m
        · rw [if_pos z]; exact .inr (by simp)
        · rw [if_neg z]; exact .inl rfl
      · exact .inr (List.mem_cons_of_mem _ h)
    · refine Int.le_trans ?_ h2
      split <;> omega
    · rcases List.mem_cons.mp hy with z | z
      · subst z
        refine Int.le_trans ?_ h2
        split <;> omega
      · exact h3 y z
theorem minL_eq {x m : Int} {r : List Int} (hm : m ∈ x :: r) (h : ∀ y, y ∈ x :: r → m ≤ y) : m = minL x r := by
  obtain ⟨h1, h2, h3⟩ := minL_spec r x
  have a : minL x r ≤ m := by
    rcases List.mem_cons.mp hm with z | z
    · rw [z]; exact h2
    · exact h3 m z
  have b : m ≤ minL x r := by
    rcases h1 with z | z
    · rw [z]; exact h x (by simp)
    · exact h _ (List.mem_cons_of_mem _ z)
  omega
theorem maxL_eq {x m : Int} {r : List Int} (hm : m ∈ x :: r) (h : ∀ y, y ∈ x :: r → y ≤ m) : m = maxL x r := by
  obtain ⟨h1, h2, h3⟩ := maxL_spec r x
  have a : m ≤ maxL x r := by
    rcases List.mem_cons.mp hm with z | z
    · rw [z]; exact h2
    · exact h3 m z
  have b : maxL x r ≤ m := by
    rcases h1 with z | z
    · rw [z]; exact h x (by simp)
    · exact h _ (List.mem_cons_of_mem _ z)
  omega
theorem sort2 {a b : Int} {ns : List Int} (p : ns.Perm [a, b]) (s : ns.Pairwise (· ≤ ·)) : ns = if b < a then [b, a] else [a, b] := by
  have hl := p.length_eq
  match ns, hl with
  | [c, d], _ =>
    have hs : c ≤ d := by
      have := List.pairwise_cons.mp s
      exact this.1 d (by simp)
    have hc : c = a ∨ c = b := by
      have : c ∈ [a, b] := p.mem_iff.mp (by simp)
      simpa using this
    rcases hc with e | e
    · subst e
      have q : d = b := by simpa using List.perm_singleton.mp ((List.perm_cons c).mp p)
      rw [if_neg (by omega), q]
    · subst e
      have p2 : [c, d].Perm [c, a] := p.trans (List.Perm.swap c a [])
      have q : d = a := by simpa using List.perm_singleton.mp ((List.perm_cons c).mp p2)
      by_cases z : c < a
      · rw [if_pos z, q]
      · have e : c = a := by omega
        rw [if_neg z, q, e]
def biVal : Bi → Value
  | .len => .builtin "len" | .abs => .builtin "abs" | .min1 => .builtin "min" | .max1 => .builtin "max" | .min2 => .builtin "min" | .max2 => .builtin "max"
  | .sum => .builtin "sum" | .all => .builtin "all" | .any => .builtin "any" | .tuple => .type "tuple" | .list => .type "list" | .sorted => .builtin "sorted" | .int => .type "int" | .str => .type "str" | .isi _ => .none
theorem SdA.one {K : PySem.W.Frag} {H : Hp} {mu : List Addr} {vs : List V} {d : D} (h : SdA K H mu vs [d]) : ∃ v, vs = [v] ∧ Sd K H mu v d := by
  cases h with
  | cons q t => cases t; exact ⟨_, rfl, q⟩
theorem SdA.two {K : PySem.W.Frag} {H : Hp} {mu : List Addr} {vs : List V} {d e : D} (h : SdA K H mu vs [d, e]) : ∃ v w, vs = [v, w] ∧ Sd K H mu v d ∧ Sd K H mu w e := by
  cases h with
  | cons q t =>
    obtain ⟨w, rfl, q2⟩ := t.one
    exact ⟨_, w, rfl, q, q2⟩
theorem bi_all (g : Good C G F k X E) (b : Bi) (hb : ∀ t, b ≠ .isi t) (ds : List D) (st : Sto) (vs : List V) (H : Hp) (mu : List Addr) (Q : VK) (s : SRel C H mu st) (q : SdA C.K H mu vs ds) (h : Post C (RSd C) (biD st b ds) H mu Q E) : CallAll X (biVal b) vs H (frzQ Q) := by
  unfold biD at h
  split at h
  · -- len tup
    obtain ⟨v, rfl, q1⟩ := q.one
    obtain ⟨a, xs, rfl, h1, h2⟩ := q1.cTup
    refine ⟨_, call_len_seq, a, xs, rfl, .inr (by rw [g.hK]; exact h1), ?_⟩
    rw [h2.length]
    exact Post.valQ h s (.int _)
  · obtain ⟨v, rfl, q1⟩ := q.one
    obtain ⟨a, xs, rfl, h1, h2⟩ := q1.cLst
    refine ⟨_, call_len_seq, a, xs, rfl, .inl (by rw [g.hK]; exact h1.sq), ?_⟩
    rw [h2.length]
    exact Post.valQ h s (.int _)
  · split at h
    · next hz =>
      obtain ⟨v, rfl, q1⟩ := q.one
      cases q1.cStr
      exact ⟨_, call_len_str, _, rfl, Nat.le_trans hz sizeN_le, Post.valQ h s (.int _)⟩
    · exact h.elim
  · split at h
    · next hz =>
      obtain ⟨v, rfl, q1⟩ := q.one
      cases q1.cInt
      exact ⟨_, call_str_int, _, rfl, hz, Post.valQ h s (.str _)⟩
    · exact h.elim
  · split at h
    · next n hn =>
      split at h
      · next hz =>
        obtain ⟨v, rfl, q1⟩ := q.one
        cases q1.cStr
        exact ⟨_, call_int_str, _, n, rfl, hn, hz, Post.valQ h s (.int _)⟩
      · exact h.elim
    · exact h.elim
  · obtain ⟨v, rfl, q1⟩ := q.one
    cases q1.cInt
    exact ⟨_, call_abs, _, rfl, Post.valQ h s (.int _)⟩
  · obtain ⟨v, w, rfl, q1, q2⟩ := q.two
    cases q1.cInt; cases q2.cInt
    exact ⟨_, call_min2 g.calm, _, _, rfl, Post.valQ h s (.int _)⟩
  · obtain ⟨v, w, rfl, q1, q2⟩ := q.two
    cases q1.cInt; cases q2.cInt
    exact ⟨_, call_max2 g.calm, _, _, rfl, Post.valQ h s (.int _)⟩
  · -- min1
    obtain ⟨v, rfl, q1⟩ := q.one
    obtain ⟨a, xs, rfl, h1, h2⟩ := q1.cLst
    unfold ofI at h
    split at h
    · next z =>
      have e := intsD_ok z h2
      subst e
      dsimp only at h
      split at h
      · exact h.elim
      · refine ⟨_, cr_min g.calm, a, _, rfl, by rw [g.hK]; exact h1.sq, by simp, fun m hm hl => ?_⟩
        rw [minL_eq hm hl]
        exact Post.valQ h s (.int _)
    · exact h.elim
  · obtain ⟨v, rfl, q1⟩ := q.one
    obtain ⟨a, xs, rfl, h1, h2⟩ := q1.cLst
    unfold ofI at h
    split at h
    · next z =>
      have e := intsD_ok z h2
      subst e
      dsimp only at h
      split at h
      · exact h.elim
      · refine ⟨_, cr_max g.calm, a, _, rfl, by rw [g.hK]; exact h1.sq, by simp, fun m hm hl => ?_⟩
        rw [maxL_eq hm hl]
        exact Post.valQ h s (.int _)
    · exact h.elim
  · -- sum
    obtain ⟨v, rfl, q1⟩ := q.one
    obtain ⟨a, xs, rfl, h1, h2⟩ := q1.cLst
    unfold ofI at h
    split at h
    · next z =>
      have e := intsD_ok z h2
      subst e
      exact ⟨_, cr_sum g.calm, a, _, rfl, by rw [g.hK]; exact h1.sq, Post.valQ h s (.int _)⟩
    · exact h.elim
  · obtain ⟨v, rfl, q1⟩ := q.one
    obtain ⟨a, xs, rfl, h1, h2⟩ := q1.cLst
    unfold ofB at h
    split at h
    · next z =>
      have e := boolsD_ok z h2
      subst e
      exact ⟨_, cr_all g.calm, a, _, rfl, by rw [g.hK]; exact h1.sq, Post.valQ h s (.bl _)⟩
    · exact h.elim
  · obtain ⟨v, rfl, q1⟩ := q.one
    obtain ⟨a, xs, rfl, h1, h2⟩ := q1.cLst
    unfold ofB at h
    split at h
    · next z =>
      have e := boolsD_ok z h2
      subst e
      exact ⟨_, cr_any g.calm, a, _, rfl, by rw [g.hK]; exact h1.sq, Post.valQ h s (.bl _)⟩
    · exact h.elim
  · -- tuple(list)
    obtain ⟨v, rfl, q1⟩ := q.one
    obtain ⟨a, xs, rfl, h1, h2⟩ := q1.cLst
    exact ⟨_, call_tuple_of, a, xs, rfl, .inl ⟨by rw [g.hK]; exact h1.sq, fun p hp => Post.tupQ h s h2 hp⟩⟩
  · obtain ⟨v, rfl, q1⟩ := q.one
    obtain ⟨a, xs, rfl, h1, h2⟩ := q1.cTup
    exact ⟨_, call_tuple_of, a, xs, rfl, .inr ⟨by rw [g.hK]; exact h1, Post.valQ h s (.tup h1 h2)⟩⟩
  · obtain ⟨v, rfl, q1⟩ := q.one
    obtain ⟨a, xs, rfl, h1, h2⟩ := q1.cLst
    exact ⟨_, call_list_of, a, xs, rfl, .inl (by rw [g.hK]; exact h1.sq), fun p hp => Post.lstQ h s h2 hp⟩
  · obtain ⟨v, rfl, q1⟩ := q.one
    obtain ⟨a, xs, rfl, h1, h2⟩ := q1.cTup
    exact ⟨_, call_list_of, a, xs, rfl, .inr (by rw [g.hK]; exact h1), fun p hp => Post.lstQ h s h2 hp⟩
  · -- sorted
    obtain ⟨v, rfl, q1⟩ := q.one
    obtain ⟨a, xs, rfl, h1, h2⟩ := q1.cLst
    rename_i i j
    have e : xs = [i, j].map V.int := intsD_ok (ns := [i, j]) rfl h2
    subst e
    refine ⟨_, cr_sorted, a, [i, j], rfl, by rw [g.hK]; exact h1.sq, by simp, fun ns p hp hs hn => ?_⟩
    rw [sort2 hp hs]
    split
    · next z => rw [if_pos z] at h; exact Post.lstQ h s (.cons (.int _) (.cons (.int _) .nil)) hn
    · next z => rw [if_neg z] at h; exact Post.lstQ h s (.cons (.int _) (.cons (.int _) .nil)) hn
  · obtain ⟨v, rfl, q1⟩ := q.one
    cases q1.cInt
    exact ⟨_, call_int1, .inl ⟨_, rfl, Post.valQ h s (.int _)⟩⟩
  · obtain ⟨v, rfl, q1⟩ := q.one
    cases q1.cBl
    exact ⟨_, call_int1, .inr ⟨_, rfl, Post.valQ h s (.int _)⟩⟩
  · exact absurd rfl (hb _)
  · exact h.elim
def biName : Bi → Option (Str × Bool)
  | .len => some ("len", false) | .abs => some ("abs", false) | .min1 => some ("min", false) | .max1 => some ("max", false) | .min2 => some ("min", false) | .max2 => some ("max", false)
  | .sum => some ("sum", false) | .all => some ("all", false) | .any => some ("any", false) | .tuple => some ("tuple", true) | .list => some ("list", true) | .sorted => some ("sorted", false) | .int => some ("int", true) | .str => some ("str", true) | .isi _ => none
theorem bi_boot (b : Bi) (x : Str) (t : Bool) (h : biName b = some (x, t)) : bootBuiltins x = some (biVal b) ∧ x ≠ "__name__" ∧ (x == ("__debug__" : Str)) = false ∧ x ∈ bltNames ∧ (∀ y, b ≠ .isi y) ∧ ((t = false ∧ ∃ id, biVal b = .builtin id) ∨ (t = true ∧ ∃ id, biVal b = .type id)) := by
  cases b with
  | isi t => cases h
  | _ =>
    cases h
    refine ⟨by decide +kernel, by decide +kernel, by decide +kernel, by decide +kernel, fun y z => (by cases z), ?_⟩
    first | exact .inl ⟨rfl, _, rfl⟩ | exact .inr ⟨rfl, _, rfl⟩
theorem sBi (g : Good C G F k X E) {b : Bi} {x : Str} {t : Bool} {e : Expr} {es : List Expr} {cs : Es} {p pos : Pos} (hn : biName b = some (x, t)) (hg : Gl X x) (hes : PA X (e :: es) (rdEs C F cs E)) (hp : (e :: es).all plainE = true) : PE X (.Call (.Name x p) (e :: es) [] pos) (rdE C F (.bi b cs) E) := by
  obtain ⟨hv, hn1, hdb, hmem, hb, ht⟩ := bi_boot b x t hn
  have hm := g.blt x hmem
  rw [List.all_cons, Bool.and_eq_true] at hp
  have fin : ∀ σ H Q, rdE C F (.bi b cs) E σ H Q → tCB (CallAll X (biVal b)) (rdEs C F cs E) σ H (frzQ Q) := fun σ H Q ⟨H0, mu0, r, st, mu, R, h⟩ => by
    unfold ev at h
    refine ⟨H0, mu0, r, st, mu, R, Post.bindLen h fun ds st1 vs H1 mu1 len e1 s1 q1 h1 => ?_⟩
    exact bi_all g b hb ds st1 vs H1 mu1 Q s1 q1 h1
  rcases ht with ⟨_, id, e1⟩ | ⟨_, id, e1⟩
  · rw [e1] at hv fin
    exact peImp (peFrzO (pe_callB callAll hg hm hv hes hn1 hdb (plain_star hp.1) (plain_any hp.2))) fin
  · rw [e1] at hv fin
    exact peImp (peFrzO (pe_callTy callAll hg hm hv hes hn1 hdb (plain_star hp.1) (plain_any hp.2))) fin
def mtName : Mt → Str
  | .split => "split" | .join => "join"
/-- what a method may be called on -/
def baseE : Expr → Bool
  | .Name .. => true
  | .Constant .. => true
  | _ => false
theorem base_of {o : Expr} {nm : Str} {env : PySem.Env} {w : Sem Value} (h : baseE o = true) : attributeBase o nm env w = w := by
  cases o <;> first | rfl | cases h
theorem SdA.strs {K : PySem.W.Frag} {H : Hp} {mu : List Addr} : ∀ ys : List Str, SdA K H mu (ys.map V.str) (ys.map D.str)
  | [] => .nil
  | y :: ys => .cons (.str y) (SdA.strs ys)
theorem sM1 (g : Good C G F k X E) {m : Mt} {o e : Expr} {ca cb : Rt.E} {apos pos : Pos} (ho : PE X o (rdE C F ca E)) (he : PE X e (rdE C F cb E)) (hp : plainE e = true) (hb : baseE o = true) (hl : (apos.endLine == pos.line) = true) :
    PE X (.Call (.Attribute o (mtName m) apos) [e] [] pos) (rdE C F (.m1 m ca cb) E) := by
  have hs : starEach [e] X.env = [(false, eval e X.env)] := plain_star hp
  cases m with
  | split =>
    refine peImp (peFrzO (pe_split ho he hs (base_of hb) hl)) fun σ H Q ⟨H0, mu0, r, st, mu, R, h⟩ => ?_
    unfold ev at h
    refine ⟨H0, mu0, r, st, mu, R, Post.bind h fun x st1 v H1 mu1 e1 s1 q1 h1 => ?_⟩
    split at h1
    · next z =>
      cases x with
      | str a =>
        cases Sd.cStr q1
        refine ⟨⟨a, rfl⟩, H0, mu0, r, st1, mu1, R.step e1 s1, Post.bind h1 fun y st2 w H2 mu2 e2 s2 q2 h2 => ?_⟩
        cases y with
        | str b =>
          simp only [m1D] at h2
          split at h2
          · next hz =>
            cases Sd.cStr q2
            exact ⟨_, _, rfl, rfl, hz.1, Nat.le_trans hz.2 sizeN_le, fun p hp => Post.lstQ h2 s2 (SdA.strs _) hp⟩
          · exact h2.elim
        | _ => exact h2.elim
      | _ => cases z
    · exact h1.elim
  | join =>
    refine peImp (peFrzO (pe_join ho he hs (base_of hb) hl)) fun σ H Q ⟨H0, mu0, r, st, mu, R, h⟩ => ?_
    unfold ev at h
    refine ⟨H0, mu0, r, st, mu, R, Post.bind h fun x st1 v H1 mu1 e1 s1 q1 h1 => ?_⟩
    split at h1
    · next z =>
      cases x with
      | str a =>
        cases Sd.cStr q1
        refine ⟨⟨a, rfl⟩, H0, mu0, r, st1, mu1, R.step e1 s1, Post.bind h1 fun y st2 w H2 mu2 e2 s2 q2 h2 => ?_⟩
        cases y with
        | lst ys =>
          simp only [m1D] at h2
          split at h2
          · next zs hz =>
            split at h2
            · next hn =>
              obtain ⟨a1, xs, rfl, h3, h4⟩ := Sd.cLst q2
              obtain rfl := strsD_ok hz h4
              exact ⟨_, a1, zs, rfl, rfl, .inl (by rw [g.hK]; exact h3.sq), Nat.le_trans hn (by decide), Post.valQ h2 s2 (.str _)⟩
            · exact h2.elim
          · exact h2.elim
        | _ => exact h2.elim
      | _ => cases z
    · exact h1.elim
def tyName : Ty → Str
  | .int => "int" | .bool => "bool" | .tuple => "tuple" | .str => "str"
def tyStr : Ty → String
  | .int => "int" | .bool => "bool" | .tuple => "tuple" | .str => "str"
theorem ty_boot (t : Ty) : bootBuiltins (tyName t) = some (.type (tyStr t)) ∧ tyName t ≠ "__name__" ∧ (tyName t == ("__debug__" : Str)) = false ∧ tyName t ∈ bltNames := by
  cases t <;> exact ⟨by decide +kernel, by decide +kernel, by decide +kernel, by decide +kernel⟩
theorem kit_all : (kitB "NoneType" "int" = some false ∧ kitB "NoneType" "bool" = some false ∧ kitB "NoneType" "tuple" = some false ∧ kitB "NoneType" "str" = some false) ∧
    (kitB "bool" "int" = some true ∧ kitB "bool" "bool" = some true ∧ kitB "bool" "tuple" = some false ∧ kitB "bool" "str" = some false) ∧
    (kitB "int" "int" = some true ∧ kitB "int" "bool" = some false ∧ kitB "int" "tuple" = some false ∧ kitB "int" "str" = some false) ∧
    (kitB "str" "int" = some false ∧ kitB "str" "bool" = some false ∧ kitB "str" "tuple" = some false ∧ kitB "str" "str" = some true) ∧
    (kitB "tuple" "int" = some false ∧ kitB "tuple" "bool" = some false ∧ kitB "tuple" "tuple" = some true ∧ kitB "tuple" "str" = some false) ∧
    (kitB "list" "int" = some false ∧ kitB "list" "bool" = some false ∧ kitB "list" "tuple" = some false ∧ kitB "list" "str" = some false) := by
  decide +kernel
/-- a value's type -/
theorem Sd.ty {K : PySem.W.Frag} {H : Hp} {mu : List Addr} {v : V} {d : D} (h : Sd K H mu v d) (hc : ∀ n, d ≠ .cell n) (hx : ∀ n, d ≠ .exc n) : ∃ T, TyX K H v (.type T) ∧ ∀ t b, isTy t d = some b → kitB T (tyStr t) = some b := by
  obtain ⟨⟨a1, a2, a3, a4⟩, ⟨b1, b2, b3, b4⟩, ⟨c1, c2, c3, c4⟩, ⟨d1, d2, d3, d4⟩, ⟨e1, e2, e3, e4⟩, f1, f2, f3, f4⟩ := kit_all
  cases h with
  | non => exact ⟨_, .base .non, fun t b z => by cases t <;> cases z <;> assumption⟩
  | bl b => exact ⟨_, .base (.bl b), fun t b z => by cases t <;> cases z <;> assumption⟩
  | int i => exact ⟨_, .base (.int i), fun t b z => by cases t <;> cases z <;> assumption⟩
  | str x => exact ⟨_, .base (.str x), fun t b z => by cases t <;> cases z <;> assumption⟩
  | tup q t =>
    refine ⟨"tuple", ?_, fun t b z => by cases t <;> cases z <;> assumption⟩
    rcases q with (q | ⟨o, q⟩) | ⟨o, its, n, q, qc, _⟩
    · exact .base (.tup q)
    · exact .fTuple q
    · exact .kTuple q qc
  | lst q t =>
    refine ⟨"list", ?_, fun t b z => by cases t <;> cases z <;> assumption⟩
    rcases q with ⟨o, q⟩ | ⟨o, its, n, q, qc, _⟩
    · exact .base (.frz q)
    · exact .kList q qc
  | cell q => exact absurd rfl (hc _)
  | exc q => exact absurd rfl (hx _)
theorem sIsi (g : Good C G F k X E) {t : Ty} {a : Expr} {ca : Rt.E} {p p2 pos : Pos} (hg : Gl X "isinstance") (hg2 : Gl X (tyName t)) (ha : PE X a (rdE C F ca E)) (hp : plainE a = true) : PE X (.Call (.Name "isinstance" p) [a, .Name (tyName t) p2] [] pos) (rdE C F (.bi (.isi t) (.cons ca .nil)) E) := by
  obtain ⟨hv, hn1, hdb, hmem⟩ := ty_boot t
  have hm := g.blt _ hmem
  have hm0 : X.mg "isinstance" = none := g.blt _ (by decide +kernel)
  refine peImp (pe_callB call_isi hg hm0 boot_isinstance (pa_cons ha (pa_cons (pe_bltn (v := .ty (tyStr t)) hg2 hm hv rfl hn1 hdb) pa_nil (by rfl)) (plain_star hp)) (by decide) (by decide) (plain_star hp) (by rfl)) fun σ H Q ⟨H0, mu0, r, st, mu, R, h⟩ => ?_
  unfold ev evs evs at h
  refine ⟨H0, mu0, r, st, mu, R, ?_⟩
  cases z : ev F ca r st with
  | ok d st1 =>
    rw [z] at h
    simp only [Res.bind_ok] at h
    intro v H1 mu1 e s q
    have h1 : Post C (RSd C) (match isTy t d with | some b => .ok (.bl b) st1 | none => .bad) H1 mu1 Q E := Post.mono h e
    cases z2 : isTy t d with
    | none => rw [z2] at h1; exact h1.elim
    | some b =>
      rw [z2] at h1
      have hc : ∀ n, d ≠ .cell n := fun n z3 => by subst z3; cases t <;> cases z2
      have hx : ∀ n, d ≠ .exc n := fun n z3 => by subst z3; cases t <;> cases z2
      obtain ⟨T, ty, hk⟩ := Sd.ty q hc hx
      refine ⟨v, .ty (tyStr t), .type T, .type (tyStr t), b, rfl, ?_, by rw [g.hK]; exact ty, kit_ty (hk t b z2), Post.val h1 s (.bl b)⟩
      exact .ty _
  | exc c st1 => rw [z] at h; exact h
  | bad => rw [z] at h; exact h
end
end Rt
namespace HT
open PySem PyProof.Rows
section
variable {prog : Program} {w : World} {A : Around} {E : Value → Shared → Prop} {s : Shared}
theorem adjust_rev (n : Nat) : Builtin.Slice.sliceAdjust none none (-1) (n : Int) = ((n : Int) - 1, -1) := rfl
theorem places_rev (n : Nat) : Builtin.Slice.slicePlaces ((n : Int) - 1) (-1) (-1) = n := by
  unfold Builtin.Slice.slicePlaces
  have h1 : ¬ ((-1 : Int) > 0) := by omega
  have h2 : (- -1 : Int) = 1 := by decide
  simp only [h1, if_false, h2, Int.ediv_one]
  split <;> omega
theorem fm_congr {a b : Type} {f g : a → Option b} : ∀ {l : List a}, (∀ x ∈ l, f x = g x) → l.filterMap f = l.filterMap g
  | [], _ => rfl
  | x :: l, h => by
    rw [List.filterMap_cons, List.filterMap_cons, h x (by simp), fm_congr (l := l) fun y hy => h y (by simp [hy])]
theorem sliceApplied_rev {sl : Addr} {vs : Value} {n : Nat} {Q : Int × Int × Nat → Shared → Prop} (hs : s.heap.IsSliceOf sl .none .none vs) (ps : IsPart vs (some (-1)))
    (h : Q ((n : Int) - 1, -1, n) s) : wpAny (model prog w) A (Builtin.Slice.sliceApplied (.ref sl) (pure (n : Int))) Q E s := by
  obtain ⟨os, hos, hcs, hds⟩ := id hs
  unfold Builtin.Slice.sliceApplied Builtin.Slice.sliceFields
  refine wpAny_bind (wpAny_bind (wpAny_field hos hds (x := .none) rfl (wpAny_bind (wpAny_field hos hds (x := .none) rfl (wpAny_bind (wpAny_field hos hds (x := vs) rfl (wpAny_pure ?_)))))))
  refine wpAny_bind (slicePart_ ps ?_)
  show wpAny _ _ (if ((-1 : Int) == 0) = true then _ else _) _ _ s
  rw [if_neg (by decide)]
  refine wpAny_bind (slicePart_none (wpAny_bind (slicePart_none (wpAny_bind (wpAny_pure ?_)))))
  show wpAny _ _ (match Builtin.Slice.sliceAdjust none none (-1) (n : Int) with | (lo, hi) => pure (lo, (-1 : Int), Builtin.Slice.slicePlaces lo hi (-1))) _ _ s
  rw [adjust_rev n]
  show wpAny _ _ (pure ((n : Int) - 1, (-1 : Int), Builtin.Slice.slicePlaces ((n : Int) - 1) (-1) (-1))) _ _ s
  rw [places_rev]
  exact wpAny_pure h
theorem pick_rev (xs : Array Value) : ((List.range xs.size).filterMap fun (m : Nat) => xs[((xs.size : Int) - 1 + (m : Int) * -1).toNat]?).toArray = xs.toList.reverse.toArray := by
  have e : (List.range xs.size).filterMap (fun (m : Nat) => xs[((xs.size : Int) - 1 + (m : Int) * -1).toNat]?) = ((List.range xs.size).map fun k => xs.size - 1 - k).filterMap (xs[·]?) := by
    rw [List.filterMap_map]
    apply fm_congr
    intro m hm
    have := List.mem_range.mp hm
    simp only [Function.comp]
    rw [show ((xs.size : Int) - 1 + (m : Int) * -1).toNat = xs.size - 1 - m by omega]
  rw [e, PySem.W.krv_range, List.filterMap_reverse, PySem.W.krv_all]
theorem getItem_tuple_rev {t sl : Addr} {items : Array Value} {vs : Value} {Q : Value → Shared → Prop} (ht : IsTup s.heap t items) (hs : s.heap.IsSliceOf sl .none .none vs) (ps : IsPart vs (some (-1)))
    (h : Q (.ref s.heap.objs.size) { s with heap := s.heap.push { cls := .type "tuple", data := .seq items.toList.reverse.toArray } })
    (hsz : items.size ≤ sizeLine) : wpAny (model prog w) A (getItem (.ref t) (.ref sl)) Q E s := by
  have htake : sizeOk (.seq items.toList.reverse.toArray) := by
    show items.toList.reverse.toArray.size ≤ sizeLine
    rw [List.size_toArray, List.length_reverse, Array.length_toList]
    exact hsz
  obtain ⟨os, hos, hcs, hds⟩ := id hs
  have hTs : s.TypeIs (.ref sl) "slice" := ⟨os, hos, hcs⟩
  unfold getItem
  try with_reducible refine wpAny_holding ?_
  first | refine wpAny_bind (wpAny_pure ?_) | skip
  refine wpAny_bind (wpAny_sequenceKey ht.typeIs (by decide) ?_)
  refine wpAny_bind (wpAny_callSpecial?_slot (name := Str.ofString "__getitem__") ht.typeIs PyProof.Rows.slot_tuple_getitem
    (wpAny_call_entry PyProof.Rows.slot_tuple_getitem ht.typeIs entry_tuple_getitem ?_ (args_tuple_getitem _ _)))
  show wpAny _ _ (Builtin.Tuple.tupleItemsOf (.ref t) >>= _) _ _ s
  refine wpAny_bind (tupleItemsOf_ ht ?_)
  refine wpAny_bind (wpAny_typeOf hTs ?_)
  rw [if_pos (by decide)]
  refine wpAny_bind (sliceApplied_rev hs ps ?_)
  have hno : ¬ (((items.size : Int) - 1 == 0 && (-1 : Int) == 1 && items.size == items.size) = true) := by
    intro q
    rw [Bool.and_eq_true, Bool.and_eq_true] at q
    have q1 : (-1 : Int) = 1 := eq_of_beq q.1.2
    omega
  show wpAny _ _ (if ((items.size : Int) - 1 == 0 && (-1 : Int) == 1 && items.size == items.size) = true then _ else _) _ _ s
  rw [if_neg hno, pick_rev]
  first
    | exact wpAny_bind (m := Builtin.Tuple.tupleExact _) (wpAny_newObj_type (wpAny_pure ⟨_, rfl, wpAny_pure h⟩) htake)
    | exact wpAny_bind (m := Builtin.Tuple.tupleExact _) (wpAny_newObj_type (wpAny_bind (wpAny_pure (wpAny_pure ⟨_, rfl, wpAny_pure h⟩))) htake)
    | exact wpAny_bind (wpAny_bind (m := Builtin.Tuple.tupleExact _) (wpAny_newObj_type (wpAny_pure (wpAny_pure ⟨_, rfl, wpAny_pure h⟩)) htake))
    | exact wpAny_bind (wpAny_bind (m := Builtin.Tuple.tupleExact _) (wpAny_newObj_type (wpAny_pure ⟨_, rfl, wpAny_pure h⟩) htake))
end
end HT
namespace L2
open PySem PySem.Spec PyProof.Rows
section
variable {X : Cx}
def tRevT (K : PySem.W.Frag) (te : TE) : TE := fun σ H Q => te σ H fun x H1 => ∃ a xs, x = .ref a ∧ SqT K H1 a xs ∧ ∀ p, H1 p = none → Q (.ref p) (upd H1 p (.tup xs.reverse))
theorem pe_revT {e : Expr} {te : TE} {k : Nat} {p1 p2 p3 pos : Pos} (he : PE X e te) : PE X (.Subscript e (.Slice none none (some (.UnaryOp .USub (.Constant (.int 1) k p1) p2)) p3) pos) (tRevT X.K te) := by
  refine ⟨fun pins s σ H Q I h => ?_⟩
  refine Subscript_ (thn (he.run pins s σ H _ I h) fun v s1 ⟨x, H1, I1, r1, q1⟩ => ?_)
  obtain ⟨a, xs, ex, hx, q⟩ := q1
  subst ex
  cases r1
  have hst : PO X (some (.UnaryOp .USub (.Constant (.int 1) k p1) p2)) (tPart (tUn (rU fun i => .int (-i)) (tC (.int 1)))) := po_some (pe_un un_neg pe_int)
  refine wpAny_Slice (thn (po_none.run pins s1 σ H1 (fun o H2 => o = none ∧ H2 = H1) I1 ⟨rfl, rfl⟩) fun vl s2 ⟨l, H2, I2, pl, el, e2⟩ => ?_)
  subst el e2
  refine thn (po_none.run pins s2 σ H2 (fun o H3 => o = none ∧ H3 = H2) I2 ⟨rfl, rfl⟩) fun vu s3 ⟨u, H3, I3, pu, eu, e3⟩ => ?_
  subst eu e3
  refine thn (hst.run pins s3 σ H3 (fun o H4 => o = some (-1) ∧ H4 = H3) I3 ⟨1, rfl, -1, rfl, rfl, rfl⟩) fun vs s4 ⟨o, H4, I4, ps, eo, e4⟩ => ?_
  subst eo e4
  have I5 : Inv X pins σ H4 { s4 with heap := s4.heap.push { cls := .type "slice", data := .fields #[vl, vu, vs] } } := I4.kept (t' := s4.toks) fun b ob q => Heap.get?_push_of_some _ q
  cases pl
  cases pu
  obtain ⟨its, r, ht, hz⟩ := I5.tuple hx
  have hlen : its.toArray.size = xs.length := by rw [List.size_toArray]; exact r.length.symm
  show wpAny (model X.prog X.w) X.A (subscriptTail e (.Slice none none (some (.UnaryOp .USub (.Constant (.int 1) k p1) p2)) p3) (.ref a) (.ref s4.heap.objs.size)) (EP X pins σ Q) X.xe { s4 with heap := s4.heap.push { cls := .type "slice", data := .fields #[.none, .none, vs] } }
  refine tail_any (ops := [.ref a, .ref s4.heap.objs.size]) ht.typeIs (PyProof.Rows.slot_tuple_getitem.lookup) ?_ (by with_unfolding_all rfl)
  refine HT.getItem_tuple_rev ht (Heap.IsSliceOf.new ..) ps ?_ (by rw [hlen]; exact hz)
  refine ⟨.ref _, _, I5.laid (t' := s4.toks) (o := .tup xs.reverse) (fun b ob q => Heap.get?_push_of_some _ q) (Nat.le_refl _) ?_, rfl, q _ (I5.hok.fresh (Nat.le_refl _))⟩
  exact ⟨by rw [List.length_reverse]; exact hz, _, r.reverse, IsTup.new _ _⟩
end
end L2
namespace Rt
open PySem PySem.Spec PyProof.Rows L2
theorem sRev {C : Cn} {G : Gam} {F : Nat → List D → Sto → Res D} {k : Nat} {X : Cx} {E : XK} (g : Good C G F k X E) {a : Expr} {ca : Rt.E} {n : Nat} {p1 p2 p3 pos : Pos} (ha : PE X a (rdE C F ca E)) : PE X (.Subscript a (.Slice none none (some (.UnaryOp .USub (.Constant (.int 1) n p1) p2)) p3) pos) (rdE C F (.rev ca) E) := by
  refine peImp (peFrzO (pe_revT ha)) fun σ H Q ⟨H0, mu0, r, st, mu, R, h⟩ => ?_
  unfold ev at h
  refine ⟨H0, mu0, r, st, mu, R, Post.bind h fun x st1 v H1 mu1 e1 s1 q1 h1 => ?_⟩
  unfold revD at h1
  split at h1
  · obtain ⟨a, xs, rfl, g1, g2⟩ := q1.cTup
    exact ⟨a, xs, rfl, by rw [g.hK]; exact g1, fun p hp => Post.tupQ h1 s1 g2.reverse hp⟩
  · exact h1.elim
end Rt
set_option maxHeartbeats 1000000
namespace RZ
open PySem PySem.Spec PyProof.Rows L2
/-- the tuple at a and the list at b as they stand at each turn -/
def ItzM (K : PySem.W.Frag) (a b : Addr) : It :=
  ⟨fun i H => ∃ (xs ys : List V) (x y : V), SqT K H a xs ∧ SqL K H b ys ∧ xs[i]? = some x ∧ ys[i]? = some y,
    fun i H v H' => ∃ T x y, v = .ref T ∧ H T = none ∧ H' = upd H T (.tup [x, y]) ∧ (∀ xs, SqT K H a xs → xs[i]? = some x) ∧ ∀ ys, SqL K H b ys → ys[i]? = some y,
    fun i H => ∃ xs ys : List V, SqT K H a xs ∧ SqL K H b ys ∧ (xs.length = i ∧ i ≤ ys.length ∨ ys.length = i ∧ i ≤ xs.length)⟩
theorem sep_of {z TI TO i1 i2 a b : Addr} (D : ZipApart z TI TO i1 i2 a b) : ZipSep2 z TI TO i1 i2 [i1, a] [i2, b] where
  TIz := D.TIz
  TOz := D.TOz
  TITO := D.TITO
  TIi1 := D.TIi1
  mem1 := by simp
  zf1 := by simp [D.i1z.symm, D.l1z.symm]
  Tf1 := by simp [D.TOi1, D.l1TO.symm]
  TIi2 := D.TIi2
  mem2 := by simp
  zf2 := by simp [D.i2z.symm, D.l2z.symm]
  Tf2 := by simp [D.TOi2, D.l2TO.symm]
  sep1_2 := by simp [D.i12, D.l2i1.symm]
  sep2_1 := by simp [D.i12.symm, D.l1i2.symm]
theorem turn_zipM {P : Program} {w : World} {K : PySem.W.Frag} {elts : List Expr} {kk : Nat} {tpos : Pos} {a b z TI TO i1 i2 : Addr} (D : ZipApart z TI TO i1 i2 a b) :
    Turn P w K (.Tuple elts kk tpos) (ItzM K a b) [z, TI, TO, i1, i2] z (fun i h => IsZip h z TI TO .none ∧ IsPair h TI (.ref i1) (.ref i2) ∧ (∃ x y, IsPair h TO x y) ∧ h.IsTupleIter i1 a i ∧ h.IsListIter i2 b i) where
  mem := by simp
  obj := fun i h st c hc => by
    obtain ⟨hz, hTI, ⟨x, y, hTO⟩, ⟨o1, e1, _, d1⟩, ⟨o2, e2, _, d2⟩⟩ := st
    have e' : c = z ∨ c = TI ∨ c = TO ∨ c = i1 ∨ c = i2 := by simpa using hc
    rcases e' with q | q | q | q | q
    · rw [q]; exact ⟨_, hz, fun v q => nomatch q⟩
    · rw [q]; exact ⟨_, hTI, fun v q => nomatch q⟩
    · rw [q]; exact ⟨_, hTO, fun v q => nomatch q⟩
    · rw [q]; exact ⟨o1, e1, fun v q => by rw [d1] at q; cases q⟩
    · rw [q]; exact ⟨o2, e2, fun v q => by rw [d2] at q; cases q⟩
  keep := fun i h h' st k => by
    obtain ⟨hz, hTI, ⟨x, y, hTO⟩, h1, h2⟩ := st
    exact ⟨k z (by simp) _ hz, k TI (by simp) _ hTI, ⟨x, y, k TO (by simp) _ hTO⟩, h1.at fun o q => k i1 (by simp) o q, h2.at fun o q => k i2 (by simp) o q⟩
  item := by
    intro X hP hw hK hc i pins s σ H E I hf st hg
    subst hP hw hK
    obtain ⟨hz, hTI, ⟨x0, y0, hTO⟩, h1, h2⟩ := st
    obtain ⟨xs, ys, x, y, hqx, hqy, hx, hy⟩ := hg
    obtain ⟨its, rv, p, _⟩ := I.tuple hqx
    obtain ⟨its2, rv2, p2, _⟩ := I.list hqy
    obtain ⟨u, hu, ru⟩ := rv.get hx
    obtain ⟨u2, hu2, ru2⟩ := rv2.get hy
    have hzl : z < s.heap.objs.size := Heap.lt_size hz
    have lt1 : i < its.toArray.size := by rw [List.size_toArray]; exact (List.getElem?_eq_some_iff.mp hu).1
    have lt2 : i < its2.toArray.size := by rw [List.size_toArray]; exact (List.getElem?_eq_some_iff.mp hu2).1
    have hh : X.A.in1.handled = none := I.ok.hd hc
    refine wpAny_pyNext_zipD2_item (sep_of D) (Draws.tuple hh i1 a D.l1i1 its.toArray) (Draws.list hh i2 b D.l2i2 its2.toArray) hz hTI hTO ⟨h1, p⟩ ⟨h2, p2.isList⟩ lt1 lt2 fun v1 v2 h' tk g1 g2 z' TO' h1' h2' hT hsz hk => ?_
    have ev1 : v1 = u := by
      have : its.toArray[i]? = some u := by simpa using hu
      rw [this] at g1; exact (Option.some.inj g1).symm
    have ev2 : v2 = u2 := by
      have : its2.toArray[i]? = some u2 := by simpa using hu2
      rw [this] at g2; exact (Option.some.inj g2).symm
    subst ev1 ev2
    refine ⟨_, rfl, wpAny_letOwnedTupleGo_zip (s := { s with heap := h', toks := tk }) z' fun h'' z'' sb => ?_⟩
    have hT2 : h''.get? s.heap.objs.size = some { cls := .type "tuple", data := .seq #[v1, v2] } := (sb.2 _ (Nat.ne_of_gt hzl)).trans hT
    have new : ObjOk X.prog X.w (upd H s.heap.objs.size (.tup [x, y])) h'' s.heap.objs.size (.tup [x, y]) :=
      ⟨by show 2 ≤ sizeLine; decide, [v1, v2], .cons ru (.cons ru2 .nil), ⟨_, hT2, rfl, _, rfl⟩⟩
    have I1 : Inv X pins σ (upd H s.heap.objs.size (.tup [x, y])) { s with heap := h'', toks := tk } :=
      I.turnedNew (t' := tk) (ch := [z, TI, TO, i1, i2]) (fun c o hb q => (sb.2 c (fun q' => hb (by simp [q']))).trans (hk c o (fun q' => hb (by simp [q'])) (fun q' => hb (by simp [q'])) (fun q' => hb (by simp [q'])) (fun q' => hb (by simp [q'])) q)) hf (Nat.le_refl _) new
    refine ⟨.ref s.heap.objs.size, _, I1, rfl, ⟨_, x, y, rfl, I.hok.fresh (Nat.le_refl _), rfl, fun l hl => by rw [I.tuple_inj hl hqx]; exact hx, fun l hl => by rw [I.list_inj hl hqy]; exact hy⟩, ⟨z'', ?_, ⟨v1, v2, ?_⟩, ?_, ?_⟩, fun c hcm => ?_⟩
    · exact (sb.2 _ D.TIz).trans (hk _ _ D.TIz D.TITO D.TIi1 D.TIi2 hTI)
    · exact (sb.2 _ D.TOz).trans TO'
    · exact h1'.1.at fun o q => (sb.2 _ D.i1z).trans q
    · exact h2'.1.at fun o q => (sb.2 _ D.i2z).trans q
    · have hlt : c < s.heap.objs.size := by
        have e' : c = z ∨ c = TI ∨ c = TO ∨ c = i1 ∨ c = i2 := by simpa using hcm
        rcases e' with q | q | q | q | q
        · rw [q]; exact hzl
        · rw [q]; exact Heap.lt_size hTI
        · rw [q]; exact Heap.lt_size hTO
        · rw [q]; obtain ⟨_, e1, _⟩ := h1; exact Heap.lt_size e1
        · rw [q]; obtain ⟨_, e2, _⟩ := h2; exact Heap.lt_size e2
      rw [upd_ne (Nat.ne_of_lt hlt)]
      exact (hf c hcm).1
  done := by
    intro X hP hw hK hc i pins s σ H E I hf st hg
    subst hP hw hK
    obtain ⟨hz, hTI, ⟨x0, y0, hTO⟩, h1, h2⟩ := st
    obtain ⟨xs, ys, hqx, hqy, hend⟩ := hg
    obtain ⟨its, rv, p, _⟩ := I.tuple hqx
    obtain ⟨its2, rv2, p2, _⟩ := I.list hqy
    have l1 := rv.length
    have l2 := rv2.length
    have hh : X.A.in1.handled = none := I.ok.hd hc
    have s1 : its.toArray.size = xs.length := by rw [List.size_toArray]; omega
    have s2 : its2.toArray.size = ys.length := by rw [List.size_toArray]; omega
    exact wpAny_pyNext_zipD2_end (sep_of D) (Draws.tuple hh i1 a D.l1i1 its.toArray) (Draws.list hh i2 b D.l2i2 its2.toArray) hz hTI hTO ⟨h1, p⟩ ⟨h2, p2.isList⟩ (by omega) (by omega) (by omega) fun h' tk hk => ⟨rfl, I.turnedL (t' := tk) (ch := [z, TI, TO, i1, i2]) (fun c o hb q =>
      hk c o (fun q' => hb (by simp [q'])) (fun q' => hb (by simp [q'])) (fun q' => hb (by simp [q'])) (fun q' => hb (by simp [q'])) q) hf⟩
  self := fun A i s Q E st h => wpAny_pyIter_zip st.1 h
def iZipB (K : PySem.W.Frag) (ta : TA) : TI := fun σ H R => ta σ H fun vs H1 => ∃ a b xs ys, vs = [.ref a, .ref b] ∧ ((SqL K H1 a xs ∧ SqL K H1 b ys ∧ R (Itz K a b) H1) ∨ (SqT K H1 a xs ∧ SqT K H1 b ys ∧ R (ItzT K a b) H1) ∨ (SqT K H1 a xs ∧ SqL K H1 b ys ∧ R (ItzM K a b) H1))
theorem pi_zipB {X : Cx} {e e2 : Expr} {ta : TA} {p pos tpos : Pos} {elts : List Expr} {kk : Nat} (hg : Gl X "zip") (hm : X.mg "zip" = none) (ha : PA X [e, e2] ta)
    (hs : starEach [e, e2] X.env = (false, eval e X.env) :: starEach [e2] X.env := by rfl) (hpl : (backTo pos (starEach [e2] X.env)).any (·.1) = false := by rfl) :
    PI X (.Tuple elts kk tpos) (.Call (.Name "zip" p) [e, e2] [] pos) (iZipB X.K ta) := by
  refine ⟨fun pins s σ H R I h => ?_⟩
  refine Call_ (ld_blt I hg hm PyProof.Rows.boot_zip (PyProof.Rows.callWith_type1 (thn (ha.run pos pins s σ H _ I h) fun us s1 ⟨vs, H1, I1, r1, q1⟩ => ?_) hs hpl))
  obtain ⟨a, b, xs, ys, ex, q1⟩ := q1
  subst ex
  cases r1 with
  | cons r rr =>
    cases rr with
    | cons r' rr =>
      cases rr
      cases r
      cases r'
      have fresh5 : ∀ c, c ∈ [s1.heap.objs.size + 4, s1.heap.objs.size + 2, s1.heap.objs.size + 3, s1.heap.objs.size, s1.heap.objs.size + 1] → FpOk X pins H1 c := fun c hcm => by
        have e' : c = s1.heap.objs.size + 4 ∨ c = s1.heap.objs.size + 2 ∨ c = s1.heap.objs.size + 3 ∨ c = s1.heap.objs.size ∨ c = s1.heap.objs.size + 1 := by simpa using hcm
        have hle : s1.heap.objs.size ≤ c := by omega
        exact I1.fpOk hle (I1.hok.fresh hle)
      rcases q1 with ⟨hqx, hqy, q⟩ | ⟨hqx, hqy, q⟩ | ⟨hqx, hqy, q⟩
      · obtain ⟨its, rv, p1, _⟩ := I1.list hqx
        obtain ⟨its2, rv2, p2, _⟩ := I1.list hqy
        refine call_zip_2 p1.isList p2.isList fun h' hz hTI hTO h1 h2 hsz hk => wpAny_pyIter_zip hz ?_
        have I2 : Inv X pins σ H1 { s1 with heap := h' } := I1.kept (t' := s1.toks) hk
        exact ⟨s1.heap.objs.size + 4, [s1.heap.objs.size + 4, s1.heap.objs.size + 2, s1.heap.objs.size + 3, s1.heap.objs.size, s1.heap.objs.size + 1], _, _, H1, rfl, I2, turn_zip (PySem.W.ktu_apart s1.heap.objs.size a b p1.lt p2.lt), ⟨hz, hTI, ⟨_, _, hTO⟩, h1, h2⟩, fresh5, q⟩
      · obtain ⟨its, rv, p1, _⟩ := I1.tuple hqx
        obtain ⟨its2, rv2, p2, _⟩ := I1.tuple hqy
        obtain ⟨o1, ho1, _⟩ := id p1
        obtain ⟨o2, ho2, _⟩ := id p2
        refine call_zipT (show s1.heap.IsTuple a its.toArray from p1) (show s1.heap.IsTuple b its2.toArray from p2) fun h' hz hTI hTO h1 h2 hsz hk => wpAny_pyIter_zip hz ?_
        have I2 : Inv X pins σ H1 { s1 with heap := h' } := I1.kept (t' := s1.toks) hk
        exact ⟨s1.heap.objs.size + 4, [s1.heap.objs.size + 4, s1.heap.objs.size + 2, s1.heap.objs.size + 3, s1.heap.objs.size, s1.heap.objs.size + 1], _, _, H1, rfl, I2, turn_zipT (PySem.W.ktu_apart s1.heap.objs.size a b (Heap.lt_size ho1) (Heap.lt_size ho2)), ⟨hz, hTI, ⟨_, _, hTO⟩, h1, h2⟩, fresh5, q⟩
      · obtain ⟨its, rv, p1, _⟩ := I1.tuple hqx
        obtain ⟨its2, rv2, p2, _⟩ := I1.list hqy
        obtain ⟨o1, ho1, _⟩ := id p1
        refine zip_begins2 (begins_tuple a its.toArray) (begins_list b its2.toArray) (show s1.heap.IsTuple a its.toArray from p1) p2.isList fun h' hz hTI hTO h1 h2 hsz hk => wpAny_pyIter_zip hz ?_
        have I2 : Inv X pins σ H1 { s1 with heap := h' } := I1.kept (t' := s1.toks) hk
        exact ⟨s1.heap.objs.size + 4, [s1.heap.objs.size + 4, s1.heap.objs.size + 2, s1.heap.objs.size + 3, s1.heap.objs.size, s1.heap.objs.size + 1], _, _, H1, rfl, I2, turn_zipM (PySem.W.ktu_apart s1.heap.objs.size a b (Heap.lt_size ho1) p2.lt), ⟨hz, hTI, ⟨_, _, hTO⟩, ⟨_, h1, rfl, rfl⟩, ⟨_, h2, rfl, rfl⟩⟩, fresh5, q⟩
end RZ
namespace Rt
open PySem PySem.Spec PyProof.Rows L2
section
variable {prog : Program} {w : World} {A : Around} {E : Value → Shared → Prop} {s : Shared}
theorem draw_list {it t : Addr} {items : Array Value} (hne : t ≠ it) : ∀ (n i : Nat) (s : Shared) (Q : List Value → Shared → Prop), s.heap.IsListIter it t i → s.heap.IsList t items → i + n ≤ items.size →
    (∀ h', h'.IsListIter it t (i + n) → Heap.SameBut it s.heap h' → Q ((items.toList.drop i).take n) { s with heap := h' }) → wpAny (model prog w) A (draw (.ref it) n) Q E s
  | 0, i, s, Q, hit, _, _, hQ => by
    show wpAny _ _ (pure []) Q E s
    exact wpAny_pure (by simpa using hQ s.heap hit (Heap.SameBut.refl ..))
  | n + 1, i, s, Q, hit, ht, hle, hQ => by
    have hlt : i < items.size := by omega
    show wpAny _ _ (pyNext (.ref it) >>= _) Q E s
    refine wpAny_bind (wpAny_pyNext_list_item hit ht (x := items[i]) (by simp [hlt]) fun h₁ hit₁ hs₁ => ?_)
    refine wpAny_bind (wpAny_holding (draw_list hne n (i + 1) _ _ hit₁ (ht.extBut hs₁.extBut hne) (by omega) fun h₂ hit₂ hs₂ => wpAny_pure ?_))
    have hd : items.toList.drop i = items[i] :: items.toList.drop (i + 1) := by simp [List.drop_eq_getElem_cons, hlt]
    have := hQ h₂ (by rw [show i + (n + 1) = i + 1 + n by omega]; exact hit₂) (hs₁.trans hs₂)
    rw [hd, List.take_succ_cons] at this
    exact this
theorem unpackItems_list {t : Addr} {items : Array Value} {Q : List Value → Shared → Prop} (hh : A.handled = none) (ht : s.heap.IsList t items)
    (hQ : ∀ h', Heap.ExtBut s.heap.objs.size s.heap h' → Q items.toList { s with heap := h' }) : wpAny (model prog w) A (unpackItems (.ref t) items.size none) Q E s := by
  have hlt : t ≠ s.heap.objs.size := by obtain ⟨o, ho, _⟩ := ht; exact Nat.ne_of_lt (Heap.lt_size ho)
  unfold unpackItems
  refine wpAny_bind ?_
  · unfold notIterableAtAll
    refine wpAny_bind (wpAny_specialOf ht.typeIs PySem.slot_list_iter.lookup ?_)
    refine wpAny_pure ?_
    simp only [Bool.false_eq_true, if_false]
    refine wpAny_bind (wpAny_holding (wpAny_pyIter_list ht ?_))
    have ht0 : (s.heap.push { cls := .type "list_iterator", data := .fields #[.ref t, .int 0 0] }).IsList t items := ht.at fun o q => Heap.get?_push_of_some _ q
    refine wpAny_bind (wpAny_holding (draw_list hlt items.size 0 _ _ ⟨_, Heap.get?_push_size _ rfl, rfl, rfl⟩ ht0 (by omega) fun h₁ hit₁ hs₁ => ?_))
    have hall : List.take items.size (List.drop 0 items.toList) = items.toList := by
      rw [List.drop_zero]; exact List.take_of_length_le (by simp)
    rw [hall]
    rw [if_neg (by simp)]
    have ht₁ : h₁.IsList t items := ht0.extBut hs₁.extBut hlt
    refine wpAny_bind (wpAny_holding (wpAny_pyNext_list_end hh hit₁ ht₁ (by simp) fun h₂ he₂ => ?_))
    simp only [Option.isSome_none, Bool.false_eq_true, if_false]
    refine wpAny_pure (hQ h₂ fun b o hb e => he₂ b o hb (hs₁.extBut b o hb (Heap.get?_push_of_some _ e)))
theorem assign_Tuple_list {env : PySem.Env} {elts : List Expr} {x1} {pos : Pos} {t : Addr} {items : Array Value} {Q : Unit → Shared → Prop} (hh : A.handled = none) (ht : s.heap.IsList t items)
    (hn : (assignEach elts env).length = items.size) (hstar : (assignEach elts env).findIdx? (·.1) = none)
    (h : ∀ h', Heap.ExtBut s.heap.objs.size s.heap h' → wpAny (model prog w) A (assignInOrder ((assignEach elts env).map (·.2)) items.toList) Q E { s with heap := h' }) :
    wpAny (model prog w) A (assign (.Tuple elts x1 pos) env (.ref t)) Q E s := by
  rw [assign_Tuple]
  refine wpAny_bind (wpAny_standAt ?_)
  unfold unpack
  rw [hn, hstar]
  exact wpAny_bind (wpAny_holding (unpackItems_list hh ht h))
end
/-- a tuple or a list is unpacked -/
def gTupA (K : PySem.W.Frag) (n : Nat) (t : TGs) : TG := fun v σ H Q => ∃ a xs, v = .ref a ∧ (SqT K H a xs ∨ SqL K H a xs) ∧ xs.length = n ∧ t xs σ H Q
theorem pg_tupA {X : Cx} {es : List Expr} {k : Nat} {t : TGs} {n : Nat} {pos : Pos} (hc : X.calm = true) (h : PGs X es t)
    (hn : (assignEach es X.env).length = n := by rfl) (hst : (assignEach es X.env).findIdx? (·.1) = none := by rfl) : PG X (.Tuple es k pos) (gTupA X.K n t) := by
  refine ⟨fun pins s σ H v u Q I r hw => ?_⟩
  obtain ⟨a, xs, e1, hq, hl, hw⟩ := hw
  subst e1
  cases r
  rcases hq with hq | hq
  · obtain ⟨its, rv, ht, hz⟩ := I.tuple hq
    refine assign_Tuple_tuple (I.ok.hd hc) ht (by simp [hn, ← hl, rv.length]) hst fun h' hx => ?_
    have I1 : Inv X pins σ H { s with heap := h' } := I.kept (t' := s.toks) fun b o e => hx b o (Nat.ne_of_lt (Heap.lt_size e)) e
    exact h.run pins _ σ H xs _ Q I1 (by simpa using rv) hw
  · obtain ⟨its, rv, ht, hz⟩ := I.list hq
    refine assign_Tuple_list (I.ok.hd hc) ht.isList (by simp [hn, ← hl, rv.length]) hst fun h' hx => ?_
    have I1 : Inv X pins σ H { s with heap := h' } := I.kept (t' := s.toks) fun b o e => hx b o (Nat.ne_of_lt (Heap.lt_size e)) e
    exact h.run pins _ σ H xs _ Q I1 (by simpa using rv) hw
def Tg.slots : Tg → List Nat
  | .name i => [i]
  | .tup2 a b => a.slots ++ b.slots
  | .tup3 a b c => a.slots ++ (b.slots ++ c.slots)
  | .tup5 a b c d e => a.slots ++ (b.slots ++ (c.slots ++ (d.slots ++ e.slots)))
/-- outside of these slots all is as it was -/
def Off (vs : List Nat) (σ σ' : L2.St) : Prop := σ'.length = σ.length ∧ ∀ i, i ∉ vs → σ'[i]? = σ[i]?
theorem Off.trans {vs ws : List Nat} {a b c : L2.St} (x : Off vs a b) (y : Off ws b c) : Off (vs ++ ws) a c := by
  refine ⟨y.1.trans x.1, fun i h => ?_⟩
  rw [List.mem_append, not_or] at h
  exact (y.2 i h.2).trans (x.2 i h.1)
theorem wipe_get {σ : L2.St} : ∀ {vs : List Nat} {i : Nat}, i ∈ vs → i < σ.length → (L2.wipe σ vs)[i]? = some none
  | v :: vs, i, h, hl => by
    unfold L2.wipe
    by_cases e : v = i
    · subst e
      rw [List.getElem?_set_self (by rw [wipe_length]; exact hl)]
    · rw [List.getElem?_set_ne e]
      rcases List.mem_cons.mp h with z | z
      · exact absurd z.symm e
      · exact wipe_get z hl
theorem Off.wipe {vs ws : List Nat} {σ σ' : L2.St} (h : Off ws σ σ') (hs : ∀ i, i ∈ ws → i ∈ vs) : L2.wipe σ' vs = L2.wipe σ vs := by
  apply List.ext_getElem?
  intro i
  by_cases hi : i ∈ vs
  · by_cases hl : i < σ.length
    · rw [wipe_get hi hl, wipe_get hi (by rw [h.1]; exact hl)]
    · rw [List.getElem?_eq_none (by rw [wipe_length, h.1]; omega), List.getElem?_eq_none (by rw [wipe_length]; omega)]
  · rw [wipe_out hi, wipe_out hi]
    exact h.2 i (fun z => hi (hs i z))
def rdG (C : Cn) (tg : Tg) : TG := fun v σ H Q => ∃ H0 mu0 r st mu d r', Rel C H0 mu0 σ H r st mu ∧ Sd C.K H mu v d ∧ bindT tg d r = some r' ∧ ∀ σ', Rel C H0 mu0 σ' H r' st mu → Off tg.slots σ σ' → Q σ' H
def ckT (N : List Str) (ok : Str → Bool) : Tg → Expr → Bool
  | .name i, .Name x _ => decide (N[i]? = some x) && ok x
  | .tup2 a b, .Tuple [x, y] _ _ => ckT N ok a x && ckT N ok b y
  | .tup3 a b c, .Tuple [x, y, z] _ _ => ckT N ok a x && (ckT N ok b y && ckT N ok c z)
  | .tup5 a b c d e, .Tuple [x, y, z, u, v] _ _ => ckT N ok a x && (ckT N ok b y && (ckT N ok c z && (ckT N ok d u && ckT N ok e v)))
  | _, _ => false
theorem ckT_each {N : List Str} {ok : Str → Bool} {t : Tg} {e : Expr} {es : List Expr} {env : PySem.Env} (h : ckT N ok t e = true) : (assignEach (e :: es) env).map (·.2) = assign e env :: (assignEach es env).map (·.2) ∧ (assignEach (e :: es) env).length = (assignEach es env).length + 1 ∧ (assignEach (e :: es) env).findIdx? (·.1) = ((assignEach es env).findIdx? (·.1)).map (· + 1) := by
  cases e with
  | Name x p => exact ⟨rfl, rfl, by rw [show assignEach (.Name x p :: es) env = (false, assign (.Name x p) env) :: assignEach es env from rfl, List.findIdx?_cons]; rfl⟩
  | Tuple xs j p => exact ⟨rfl, rfl, by rw [show assignEach (.Tuple xs j p :: es) env = (false, assign (.Tuple xs j p) env) :: assignEach es env from rfl, List.findIdx?_cons]; rfl⟩
  | _ => cases t <;> simp [ckT] at h
section
variable {C : Cn} {G : Gam} {F : Nat → List D → Sto → Res D} {k : Nat} {X : Cx} {E : XK}
/-- a list of two, three data -/
theorem sndG (g : Good C G F k X E) {ok : Str → Bool} (hok : ∀ x, ok x = true → Loc X.env.scope x ∧ (X.fn x = true ∨ X.env.scope.names.lookup x = some .local)) : ∀ {tg : Tg} {e : Expr}, ckT G.N ok tg e = true → PG X e (rdG C tg)
  | .name i, .Name x p, h => by
    simp only [ckT, Bool.and_eq_true, decide_eq_true_eq] at h
    obtain ⟨h1, h2⟩ := hok x h.2
    refine pgImp (pg_name (i := i) (by rw [g.hN]; exact g.nd) (by rw [g.hN]; exact h.1) h1 h2) fun v σ H Q ⟨H0, mu0, r, st, mu, d, r', R, q, hb, w⟩ => ?_
    simp only [bindT] at hb
    cases hb
    exact w _ (R.set i q) ⟨by rw [List.length_set], fun j hj => List.getElem?_set_ne (fun z => hj (by simp [Tg.slots, z]))⟩
  | .tup2 a b, .Tuple [x, y] j p, h => by
    simp only [ckT, Bool.and_eq_true] at h
    obtain ⟨a1, a2, a3⟩ := ckT_each (es := [y]) (env := X.env) h.1
    obtain ⟨b1, b2, b3⟩ := ckT_each (es := []) (env := X.env) h.2
    refine pgImp (pg_tupA (n := 2) g.calm (pgs_cons (sndG g hok h.1) (pgs_cons (sndG g hok h.2) pgs_nil b1) a1) (by rw [a2, b2]; rfl) (by rw [a3, b3]; rfl)) fun v σ H Q ⟨H0, mu0, r, st, mu, d, r', R, q, hb, w⟩ => ?_
    cases d with
    | tup ds =>
      match ds, hb with
      | [d1, d2], hb =>
        simp only [bindT, Option.bind_eq_some_iff] at hb
        obtain ⟨r1, hb1, hb2⟩ := hb
        obtain ⟨ad, xs, rfl, hs, hd⟩ := q.cTup
        obtain ⟨v1, v2, rfl, q1, q2⟩ := hd.two
        refine ⟨ad, [v1, v2], rfl, by rw [g.hK]; exact .inl hs, rfl, v1, [v2], rfl, H0, mu0, r, st, mu, d1, r1, R, q1, hb1, fun σ1 R1 o1 => ?_⟩
        exact ⟨v2, [], rfl, H0, mu0, r1, st, mu, d2, r', R1, q2, hb2, fun σ2 R2 o2 => ⟨rfl, w σ2 R2 (o1.trans o2)⟩⟩
    | lst ds =>
      match ds, hb with
      | [d1, d2], hb =>
        simp only [bindT, Option.bind_eq_some_iff] at hb
        obtain ⟨r1, hb1, hb2⟩ := hb
        obtain ⟨ad, xs, rfl, hs, hd⟩ := q.cLst
        obtain ⟨v1, v2, rfl, q1, q2⟩ := hd.two
        refine ⟨ad, [v1, v2], rfl, by rw [g.hK]; exact .inr hs.sq, rfl, v1, [v2], rfl, H0, mu0, r, st, mu, d1, r1, R, q1, hb1, fun σ1 R1 o1 => ?_⟩
        exact ⟨v2, [], rfl, H0, mu0, r1, st, mu, d2, r', R1, q2, hb2, fun σ2 R2 o2 => ⟨rfl, w σ2 R2 (o1.trans o2)⟩⟩
    | _ => simp [bindT] at hb
  | .tup3 a b c, .Tuple [x, y, z] j p, h => by
    simp only [ckT, Bool.and_eq_true] at h
    obtain ⟨a1, a2, a3⟩ := ckT_each (es := [y, z]) (env := X.env) h.1
    obtain ⟨b1, b2, b3⟩ := ckT_each (es := [z]) (env := X.env) h.2.1
    obtain ⟨c1, c2, c3⟩ := ckT_each (es := []) (env := X.env) h.2.2
    refine pgImp (pg_tup (n := 3) g.calm (pgs_cons (sndG g hok h.1) (pgs_cons (sndG g hok h.2.1) (pgs_cons (sndG g hok h.2.2) pgs_nil c1) b1) a1) (by rw [a2, b2, c2]; rfl) (by rw [a3, b3, c3]; rfl)) fun v σ H Q ⟨H0, mu0, r, st, mu, d, r', R, q, hb, w⟩ => ?_
    cases d with
    | tup ds =>
      match ds, hb with
      | [d1, d2, d3], hb =>
        simp only [bindT, Option.bind_eq_some_iff] at hb
        obtain ⟨r2, ⟨r1, hb1, hb2⟩, hb3⟩ := hb
        obtain ⟨ad, xs, rfl, hs, hd⟩ := q.cTup
        cases hd with
        | cons q1 hd =>
          obtain ⟨v2, v3, rfl, q2, q3⟩ := hd.two
          rename_i v1
          refine ⟨ad, [v1, v2, v3], rfl, by rw [g.hK]; exact hs, rfl, v1, [v2, v3], rfl, H0, mu0, r, st, mu, d1, r1, R, q1, hb1, fun σ1 R1 o1 => ?_⟩
          refine ⟨v2, [v3], rfl, H0, mu0, r1, st, mu, d2, r2, R1, q2, hb2, fun σ2 R2 o2 => ?_⟩
          exact ⟨v3, [], rfl, H0, mu0, r2, st, mu, d3, r', R2, q3, hb3, fun σ3 R3 o3 => ⟨rfl, w σ3 R3 (o1.trans (o2.trans o3))⟩⟩
    | _ => simp [bindT] at hb
  | .tup5 a b c d e, .Tuple [x, y, z, u, w5] j p, h => by
    simp only [ckT, Bool.and_eq_true] at h
    obtain ⟨a1, a2, a3⟩ := ckT_each (es := [y, z, u, w5]) (env := X.env) h.1
    obtain ⟨b1, b2, b3⟩ := ckT_each (es := [z, u, w5]) (env := X.env) h.2.1
    obtain ⟨c1, c2, c3⟩ := ckT_each (es := [u, w5]) (env := X.env) h.2.2.1
    obtain ⟨d1, d2, d3⟩ := ckT_each (es := [w5]) (env := X.env) h.2.2.2.1
    obtain ⟨e1, e2, e3⟩ := ckT_each (es := []) (env := X.env) h.2.2.2.2
    refine pgImp (pg_tup (n := 5) g.calm (pgs_cons (sndG g hok h.1) (pgs_cons (sndG g hok h.2.1) (pgs_cons (sndG g hok h.2.2.1) (pgs_cons (sndG g hok h.2.2.2.1) (pgs_cons (sndG g hok h.2.2.2.2) pgs_nil e1) d1) c1) b1) a1) (by rw [a2, b2, c2, d2, e2]; rfl) (by rw [a3, b3, c3, d3, e3]; rfl)) fun v σ H Q ⟨H0, mu0, r, st, mu, d, r', R, q, hb, w⟩ => ?_
    cases d with
    | tup ds =>
      match ds, hb with
      | [x1, x2, x3, x4, x5], hb =>
        simp only [bindT, Option.bind_eq_some_iff] at hb
        obtain ⟨r4, ⟨r3, ⟨r2, ⟨r1, hb1, hb2⟩, hb3⟩, hb4⟩, hb5⟩ := hb
        obtain ⟨ad, xs, rfl, hs, hd⟩ := q.cTup
        cases hd with
        | cons q1 hd =>
          cases hd with
          | cons q2 hd =>
            cases hd with
            | cons q3 hd =>
              obtain ⟨v4, v5, rfl, q4, q5⟩ := hd.two
              refine ⟨ad, _, rfl, by rw [g.hK]; exact hs, rfl, _, _, rfl, H0, mu0, r, st, mu, x1, r1, R, q1, hb1, fun σ1 R1 o1 => ?_⟩
              refine ⟨_, _, rfl, H0, mu0, r1, st, mu, x2, r2, R1, q2, hb2, fun σ2 R2 o2 => ?_⟩
              refine ⟨_, _, rfl, H0, mu0, r2, st, mu, x3, r3, R2, q3, hb3, fun σ3 R3 o3 => ?_⟩
              refine ⟨_, _, rfl, H0, mu0, r3, st, mu, x4, r4, R3, q4, hb4, fun σ4 R4 o4 => ?_⟩
              exact ⟨_, _, rfl, H0, mu0, r4, st, mu, x5, r', R4, q5, hb5, fun σ5 R5 o5 => ⟨rfl, w σ5 R5 (o1.trans (o2.trans (o3.trans (o4.trans o5))))⟩⟩
    | _ => simp [bindT] at hb
  | .name _, .BoolOp .., h | .name _, .NamedExpr .., h | .name _, .BinOp .., h | .name _, .UnaryOp .., h | .name _, .Lambda .., h | .name _, .IfExp .., h | .name _, .Dict .., h | .name _, .Set .., h | .name _, .ListComp .., h | .name _, .SetComp .., h | .name _, .DictComp .., h
  | .name _, .GeneratorExp .., h | .name _, .Await .., h | .name _, .Yield .., h | .name _, .YieldFrom .., h | .name _, .Compare .., h | .name _, .Call .., h | .name _, .FormattedValue .., h | .name _, .JoinedStr .., h | .name _, .Constant .., h | .name _, .Attribute .., h | .name _, .Subscript .., h
  | .name _, .Starred .., h | .name _, .List .., h | .name _, .Tuple .., h | .name _, .Slice .., h => by simp [ckT] at h
  | .tup2 _ _, .BoolOp .., h | .tup2 _ _, .NamedExpr .., h | .tup2 _ _, .BinOp .., h | .tup2 _ _, .UnaryOp .., h | .tup2 _ _, .Lambda .., h | .tup2 _ _, .IfExp .., h | .tup2 _ _, .Dict .., h | .tup2 _ _, .Set .., h | .tup2 _ _, .ListComp .., h | .tup2 _ _, .SetComp .., h | .tup2 _ _, .DictComp .., h
  | .tup2 _ _, .GeneratorExp .., h | .tup2 _ _, .Await .., h | .tup2 _ _, .Yield .., h | .tup2 _ _, .YieldFrom .., h | .tup2 _ _, .Compare .., h | .tup2 _ _, .Call .., h | .tup2 _ _, .FormattedValue .., h | .tup2 _ _, .JoinedStr .., h | .tup2 _ _, .Constant .., h | .tup2 _ _, .Attribute .., h | .tup2 _ _, .Subscript .., h
  | .tup2 _ _, .Starred .., h | .tup2 _ _, .List .., h | .tup2 _ _, .Name .., h | .tup2 _ _, .Slice .., h => by simp [ckT] at h
  | .tup2 _ _, .Tuple [] _ _, h | .tup2 _ _, .Tuple [_] _ _, h | .tup2 _ _, .Tuple (_ :: _ :: _ :: _) _ _, h => by simp [ckT] at h
  | .tup3 _ _ _, .BoolOp .., h | .tup3 _ _ _, .NamedExpr .., h | .tup3 _ _ _, .BinOp .., h | .tup3 _ _ _, .UnaryOp .., h | .tup3 _ _ _, .Lambda .., h | .tup3 _ _ _, .IfExp .., h | .tup3 _ _ _, .Dict .., h | .tup3 _ _ _, .Set .., h | .tup3 _ _ _, .ListComp .., h | .tup3 _ _ _, .SetComp .., h | .tup3 _ _ _, .DictComp .., h
  | .tup3 _ _ _, .GeneratorExp .., h | .tup3 _ _ _, .Await .., h | .tup3 _ _ _, .Yield .., h | .tup3 _ _ _, .YieldFrom .., h | .tup3 _ _ _, .Compare .., h | .tup3 _ _ _, .Call .., h | .tup3 _ _ _, .FormattedValue .., h | .tup3 _ _ _, .JoinedStr .., h | .tup3 _ _ _, .Constant .., h | .tup3 _ _ _, .Attribute .., h | .tup3 _ _ _, .Subscript .., h
  | .tup3 _ _ _, .Starred .., h | .tup3 _ _ _, .List .., h | .tup3 _ _ _, .Name .., h | .tup3 _ _ _, .Slice .., h => by simp [ckT] at h
  | .tup3 _ _ _, .Tuple [] _ _, h | .tup3 _ _ _, .Tuple [_] _ _, h | .tup3 _ _ _, .Tuple [_, _] _ _, h | .tup3 _ _ _, .Tuple (_ :: _ :: _ :: _ :: _) _ _, h => by simp [ckT] at h
  | .tup5 _ _ _ _ _, .BoolOp .., h | .tup5 _ _ _ _ _, .NamedExpr .., h | .tup5 _ _ _ _ _, .BinOp .., h | .tup5 _ _ _ _ _, .UnaryOp .., h | .tup5 _ _ _ _ _, .Lambda .., h | .tup5 _ _ _ _ _, .IfExp .., h | .tup5 _ _ _ _ _, .Dict .., h | .tup5 _ _ _ _ _, .Set .., h | .tup5 _ _ _ _ _, .ListComp .., h | .tup5 _ _ _ _ _, .SetComp .., h | .tup5 _ _ _ _ _, .DictComp .., h
  | .tup5 _ _ _ _ _, .GeneratorExp .., h | .tup5 _ _ _ _ _, .Await .., h | .tup5 _ _ _ _ _, .Yield .., h | .tup5 _ _ _ _ _, .YieldFrom .., h | .tup5 _ _ _ _ _, .Compare .., h | .tup5 _ _ _ _ _, .Call .., h | .tup5 _ _ _ _ _, .FormattedValue .., h | .tup5 _ _ _ _ _, .JoinedStr .., h | .tup5 _ _ _ _ _, .Constant .., h | .tup5 _ _ _ _ _, .Attribute .., h | .tup5 _ _ _ _ _, .Subscript .., h
  | .tup5 _ _ _ _ _, .Starred .., h | .tup5 _ _ _ _ _, .List .., h | .tup5 _ _ _ _ _, .Name .., h | .tup5 _ _ _ _ _, .Slice .., h => by simp [ckT] at h
  | .tup5 _ _ _ _ _, .Tuple [] _ _, h | .tup5 _ _ _ _ _, .Tuple [_] _ _, h | .tup5 _ _ _ _ _, .Tuple [_, _] _ _, h | .tup5 _ _ _ _ _, .Tuple [_, _, _] _ _, h | .tup5 _ _ _ _ _, .Tuple [_, _, _, _] _ _, h | .tup5 _ _ _ _ _, .Tuple (_ :: _ :: _ :: _ :: _ :: _ :: _) _ _, h => by simp [ckT] at h
/-- the iterator J walks the data ds, from (H1, mu1) on -/
def Walk (C : Cn) (H1 : Hp) (mu1 : List Addr) (J : L2.It) (ds : List D) : Prop := ∀ i H mu, ExtW mu1 mu H1 H → (ds.length ≤ i → i ≤ ds.length → J.stop i H) ∧ ∀ d, ds[i]? = some d → J.go i H ∧ ∀ x H', J.yld i H x H' → (∀ mu', Ext mu' mu' H H') ∧ (∀ mu' st, SRel C H mu' st → SRel C H' mu' st) ∧ Sd C.K H' mu x d
def RW (C : Cn) : Hp → List Addr → L2.It → List D → Prop := fun H mu J ds => Walk C H mu J ds
def rdI (C : Cn) (F : Nat → List D → Sto → Res D) (c : Rt.It) (E : XK) : TI := fun σ H R => ∃ H0 mu0 r st mu, Rel C H0 mu0 σ H r st mu ∧ Post C (RW C) (evi F c r st) H mu R E
theorem sqL_mono {K : PySem.W.Frag} {mu mu1 : List Addr} {H H1 : Hp} {a : Addr} {xs : List V} (e : ExtW mu mu1 H H1) (h : Fz K H a xs) : SqL K H1 a xs := (h.mono e).sq
theorem walk_list {H : Hp} {mu : List Addr} {a : Addr} {xs : List V} {ds : List D} (h : Fz C.K H a xs) (q : SdA C.K H mu xs ds) : Walk C H mu (Itl C.K a) ds := fun i H1 mu1 e => by
  refine ⟨fun hl _ => ⟨xs, sqL_mono e h, by rw [q.length]; exact hl⟩, fun d hd => ?_⟩
  obtain ⟨v, hv, hs⟩ := q.get hd
  refine ⟨⟨xs, v, sqL_mono e h, hv⟩, fun x H' ⟨e1, e2⟩ => ?_⟩
  subst e1
  have := e2 xs (sqL_mono e h)
  rw [hv] at this; cases this
  exact ⟨fun _ => .refl, fun _ _ s => s, Sd.monoW e hs⟩
theorem walk_tup {H : Hp} {mu : List Addr} {a : Addr} {xs : List V} {ds : List D} (h : SqT C.K H a xs) (q : SdA C.K H mu xs ds) : Walk C H mu (Itt C.K a) ds := fun i H1 mu1 e => by
  refine ⟨fun hl _ => ⟨xs, sqT_mono e h, by rw [q.length]; exact hl⟩, fun d hd => ?_⟩
  obtain ⟨v, hv, hs⟩ := q.get hd
  refine ⟨⟨xs, v, sqT_mono e h, hv⟩, fun x H' ⟨e1, e2⟩ => ?_⟩
  subst e1
  have := e2 xs (sqT_mono e h)
  rw [hv] at this; cases this
  exact ⟨fun _ => .refl, fun _ _ s => s, Sd.monoW e hs⟩
theorem rngD_get {lo : Int} {n : Nat} {c : Int} {i : Nat} {d : D} (h : (rngD lo n c)[i]? = some d) : i < n ∧ d = .int (lo + (i : Nat) * c) := by
  unfold rngD at h
  rw [List.getElem?_map] at h
  cases z : (List.range n)[i]? with
  | none => rw [z] at h; cases h
  | some j =>
    rw [z] at h
    cases h
    obtain ⟨h1, h2⟩ := List.getElem?_eq_some_iff.mp z
    rw [List.getElem_range] at h2
    subst h2
    exact ⟨by simpa using h1, rfl⟩
theorem rngD_len {lo : Int} {n : Nat} {c : Int} : (rngD lo n c).length = n := by unfold rngD; simp
theorem walk_rng {H : Hp} {mu : List Addr} {lo : Int} {n : Nat} : Walk C H mu (Itr lo n) (rngD lo n 1) := fun i H1 mu1 e => by
  refine ⟨fun hl _ => by rw [rngD_len] at hl; exact hl, fun d hd => ?_⟩
  obtain ⟨h1, rfl⟩ := rngD_get hd
  refine ⟨h1, fun x H' ⟨e1, e2⟩ => ?_⟩
  subst e1 e2
  refine ⟨fun _ => .refl, fun _ _ s => s, ?_⟩
  rw [Int.mul_one]
  exact .int _
theorem walk_rngC {H : Hp} {mu : List Addr} {lo c : Int} {n : Nat} : Walk C H mu (Itc lo c n) (rngD lo n c) := fun i H1 mu1 e => by
  refine ⟨fun hl _ => by rw [rngD_len] at hl; exact hl, fun d hd => ?_⟩
  obtain ⟨h1, rfl⟩ := rngD_get hd
  refine ⟨h1, fun x H' ⟨e1, e2⟩ => ?_⟩
  subst e1 e2
  exact ⟨fun _ => .refl, fun _ _ s => s, .int _⟩
theorem enumD_get : ∀ {ds : List D} {n i : Nat} {d : D}, (enumD n ds)[i]? = some d → ∃ e, ds[i]? = some e ∧ d = .tup [.int ((n + i : Nat) : Int), e]
  | [], _, _, _, h => by simp [enumD] at h
  | x :: r, n, 0, d, h => by simp [enumD] at h; exact ⟨x, rfl, by rw [← h]; rfl⟩
  | x :: r, n, i + 1, d, h => by
    simp only [enumD, List.getElem?_cons_succ] at h
    obtain ⟨e, h1, h2⟩ := enumD_get h
    exact ⟨e, by simpa using h1, by rw [h2, show n + 1 + i = n + (i + 1) by omega]⟩
theorem enumD_len : ∀ {ds : List D} {n : Nat}, (enumD n ds).length = ds.length
  | [], _ => rfl
  | x :: r, n => by simp [enumD, enumD_len (ds := r)]
theorem zipD_get : ∀ {ds es : List D} {i : Nat} {d : D}, (zipD ds es)[i]? = some d → ∃ x y, ds[i]? = some x ∧ es[i]? = some y ∧ d = .tup [x, y]
  | [], _, _, _, h => by simp [zipD] at h
  | _ :: _, [], _, _, h => by simp [zipD] at h
  | x :: r, y :: t, 0, d, h => by simp [zipD] at h; exact ⟨x, y, rfl, rfl, h.symm⟩
  | x :: r, y :: t, i + 1, d, h => by
    simp only [zipD, List.getElem?_cons_succ] at h
    obtain ⟨a, b, h1, h2, h3⟩ := zipD_get h
    exact ⟨a, b, by simpa using h1, by simpa using h2, h3⟩
theorem zipD_len : ∀ {ds es : List D}, (zipD ds es).length = min ds.length es.length
  | [], _ => by simp [zipD]
  | _ :: _, [] => by simp [zipD]
  | x :: r, y :: t => by simp [zipD, zipD_len (ds := r) (es := t)]
theorem walk_enumL {H : Hp} {mu : List Addr} {a : Addr} {xs : List V} {ds : List D} (h : Fz C.K H a xs) (q : SdA C.K H mu xs ds) : Walk C H mu (Ite C.K a) (enumD 0 ds) := fun i H1 mu1 e => by
  refine ⟨fun hl _ => ⟨xs, sqL_mono e h, by rw [enumD_len] at hl; rw [q.length]; exact hl⟩, fun d hd => ?_⟩
  obtain ⟨d', hd', rfl⟩ := enumD_get hd
  obtain ⟨v, hv, hs⟩ := q.get hd'
  refine ⟨⟨xs, v, sqL_mono e h, hv⟩, fun x H' ⟨T, y, e1, e2, e3, e4⟩ => ?_⟩
  subst e1 e3
  have := e4 xs (sqL_mono e h)
  rw [hv] at this; cases this
  refine ⟨fun _ => Ext.upd e2, fun _ _ s => s.upd e2, .tup (.inl (.inl upd_same)) (.cons ?_ (.cons (Sd.mono (Ext.upd e2) (Sd.monoW e hs)) .nil))⟩
  rw [Nat.zero_add]
  exact .int _
theorem walk_enumT {H : Hp} {mu : List Addr} {a : Addr} {xs : List V} {ds : List D} (h : SqT C.K H a xs) (q : SdA C.K H mu xs ds) : Walk C H mu (IteT C.K a) (enumD 0 ds) := fun i H1 mu1 e => by
  refine ⟨fun hl _ => ⟨xs, sqT_mono e h, by rw [enumD_len] at hl; rw [q.length]; exact hl⟩, fun d hd => ?_⟩
  obtain ⟨d', hd', rfl⟩ := enumD_get hd
  obtain ⟨v, hv, hs⟩ := q.get hd'
  refine ⟨⟨xs, v, sqT_mono e h, hv⟩, fun x H' ⟨T, y, e1, e2, e3, e4⟩ => ?_⟩
  subst e1 e3
  have := e4 xs (sqT_mono e h)
  rw [hv] at this; cases this
  refine ⟨fun _ => Ext.upd e2, fun _ _ s => s.upd e2, .tup (.inl (.inl upd_same)) (.cons ?_ (.cons (Sd.mono (Ext.upd e2) (Sd.monoW e hs)) .nil))⟩
  rw [Nat.zero_add]
  exact .int _
theorem walk_zipL {H : Hp} {mu : List Addr} {a b : Addr} {xs ys : List V} {ds es : List D} (h : Fz C.K H a xs) (q : SdA C.K H mu xs ds) (h' : Fz C.K H b ys) (q' : SdA C.K H mu ys es) : Walk C H mu (Itz C.K a b) (zipD ds es) := fun i H1 mu1 e => by
  refine ⟨fun hl _ => ⟨xs, ys, sqL_mono e h, sqL_mono e h', by rw [zipD_len] at hl; rw [q.length, q'.length]; omega⟩, fun d hd => ?_⟩
  obtain ⟨d1, d2, hd1, hd2, rfl⟩ := zipD_get hd
  obtain ⟨v, hv, hs⟩ := q.get hd1
  obtain ⟨w, hw, hs'⟩ := q'.get hd2
  refine ⟨⟨xs, ys, v, w, sqL_mono e h, sqL_mono e h', hv, hw⟩, fun x H' ⟨T, y, z, e1, e2, e3, e4, e5⟩ => ?_⟩
  subst e1 e3
  have := e4 xs (sqL_mono e h)
  rw [hv] at this; cases this
  have := e5 ys (sqL_mono e h')
  rw [hw] at this; cases this
  exact ⟨fun _ => Ext.upd e2, fun _ _ s => s.upd e2, .tup (.inl (.inl upd_same)) (.cons (Sd.mono (Ext.upd e2) (Sd.monoW e hs)) (.cons (Sd.mono (Ext.upd e2) (Sd.monoW e hs')) .nil))⟩
theorem walk_zipT {H : Hp} {mu : List Addr} {a b : Addr} {xs ys : List V} {ds es : List D} (h : SqT C.K H a xs) (q : SdA C.K H mu xs ds) (h' : SqT C.K H b ys) (q' : SdA C.K H mu ys es) : Walk C H mu (RZ.ItzT C.K a b) (zipD ds es) := fun i H1 mu1 e => by
  refine ⟨fun hl _ => ⟨xs, ys, sqT_mono e h, sqT_mono e h', by rw [zipD_len] at hl; rw [q.length, q'.length]; omega⟩, fun d hd => ?_⟩
  obtain ⟨d1, d2, hd1, hd2, rfl⟩ := zipD_get hd
  obtain ⟨v, hv, hs⟩ := q.get hd1
  obtain ⟨w, hw, hs'⟩ := q'.get hd2
  refine ⟨⟨xs, ys, v, w, sqT_mono e h, sqT_mono e h', hv, hw⟩, fun x H' ⟨T, y, z, e1, e2, e3, e4, e5⟩ => ?_⟩
  subst e1 e3
  have := e4 xs (sqT_mono e h)
  rw [hv] at this; cases this
  have := e5 ys (sqT_mono e h')
  rw [hw] at this; cases this
  exact ⟨fun _ => Ext.upd e2, fun _ _ s => s.upd e2, .tup (.inl (.inl upd_same)) (.cons (Sd.mono (Ext.upd e2) (Sd.monoW e hs)) (.cons (Sd.mono (Ext.upd e2) (Sd.monoW e hs')) .nil))⟩
/-- a list or a tuple -/
theorem walk_zipM {H : Hp} {mu : List Addr} {a b : Addr} {xs ys : List V} {ds es : List D} (h : SqT C.K H a xs) (q : SdA C.K H mu xs ds) (h' : Fz C.K H b ys) (q' : SdA C.K H mu ys es) : Walk C H mu (RZ.ItzM C.K a b) (zipD ds es) := fun i H1 mu1 e => by
  refine ⟨fun hl hl2 => ⟨xs, ys, sqT_mono e h, sqL_mono e h', by rw [zipD_len] at hl hl2; rw [q.length, q'.length]; omega⟩, fun d hd => ?_⟩
  obtain ⟨d1, d2, hd1, hd2, rfl⟩ := zipD_get hd
  obtain ⟨v, hv, hs⟩ := q.get hd1
  obtain ⟨w, hw, hs'⟩ := q'.get hd2
  refine ⟨⟨xs, ys, v, w, sqT_mono e h, sqL_mono e h', hv, hw⟩, fun x H' ⟨T, y, z, e1, e2, e3, e4, e5⟩ => ?_⟩
  subst e1 e3
  have := e4 xs (sqT_mono e h)
  rw [hv] at this; cases this
  have := e5 ys (sqL_mono e h')
  rw [hw] at this; cases this
  exact ⟨fun _ => Ext.upd e2, fun _ _ s => s.upd e2, .tup (.inl (.inl upd_same)) (.cons (Sd.mono (Ext.upd e2) (Sd.monoW e hs)) (.cons (Sd.mono (Ext.upd e2) (Sd.monoW e hs')) .nil))⟩
/-- a list or a tuple -/
theorem piSeq {tg l : Expr} {tl : TE} (hl : PE X l tl) : PI X tg l (fun σ H R => tl σ H fun x H1 => ∃ a xs, x = .ref a ∧ ((SqL X.K H1 a xs ∧ R (Itl X.K a) H1) ∨ (SqT X.K H1 a xs ∧ R (Itt X.K a) H1))) := by
  refine ⟨fun pins s σ H R I h => ?_⟩
  refine thn (hl.run pins s σ H _ I h) fun v s1 ⟨x, H1, I1, r1, q1⟩ => ?_
  obtain ⟨a, xs, e, q⟩ := q1
  subst e
  cases r1
  have fin : ∀ b, b ∈ [s1.heap.objs.size] → FpOk X pins H1 b := fun b hb => by
    have e : b = s1.heap.objs.size := by simpa using hb
    subst e
    exact I1.fpOk (Nat.le_refl _) (I1.hok.fresh (Nat.le_refl _))
  rcases q with ⟨hq, q⟩ | ⟨hq, q⟩
  · obtain ⟨its, rv, p, hz⟩ := I1.list hq
    refine wpAny_pyIter_list p.isList ?_
    exact ⟨s1.heap.objs.size, [s1.heap.objs.size], _, _, H1, rfl, I1.kept (t' := s1.toks) fun b o e => Heap.get?_push_of_some _ e, turn_list a _, ⟨_, Heap.get?_push_size _ rfl, rfl, rfl⟩, fin, q⟩
  · obtain ⟨its, rv, p, hz⟩ := I1.tuple hq
    refine wpAny_pyIter_tuple (show s1.heap.IsTuple a its.toArray from p) ?_
    exact ⟨s1.heap.objs.size, [s1.heap.objs.size], _, _, H1, rfl, I1.kept (t' := s1.toks) fun b o e => Heap.get?_push_of_some _ e, turn_tuple a _, ⟨_, Heap.get?_push_size _ rfl, rfl, rfl⟩, fin, q⟩
theorem iVal (g : Good C G F k X E) {tg l : Expr} {c : Rt.E} (hl : PE X l (rdE C F c E)) : PI X tg l (rdI C F (.val c) E) := by
  refine piImp (piSeq hl) fun σ H R ⟨H0, mu0, r, st, mu, R', h⟩ => ?_
  unfold evi at h
  refine ⟨H0, mu0, r, st, mu, R', Post.bind (Rl := RSd C) h fun x st1 v H1 mu1 e1 s1 q1 h1 => ?_⟩
  rw [g.hK]
  cases x with
  | tup ds =>
    obtain ⟨a, xs, rfl, hs, hd⟩ := Sd.cTup q1
    exact ⟨a, xs, rfl, .inr ⟨hs, Post.here h1 s1 (walk_tup hs hd)⟩⟩
  | lst ds =>
    obtain ⟨a, xs, rfl, hs, hd⟩ := Sd.cLst q1
    exact ⟨a, xs, rfl, .inl ⟨hs.sq, Post.here h1 s1 (walk_list hs hd)⟩⟩
  | _ => exact h1.elim
theorem small_ok {i : Int} (h : small i = true) : -(2 ^ 62) ≤ i ∧ i < 2 ^ 62 := by
  unfold small at h
  simp only [Bool.and_eq_true, decide_eq_true_eq] at h
  omega
theorem iRng1' (g : Good C G F k X E) {tg a : Expr} {c : Rt.E} {p pos : Pos} (hg : Gl X "range") (ha : PE X a (rdE C F c E)) (hp : plainE a = true) : PI X tg (.Call (.Name "range" p) [a] [] pos) (rdI C F (.rng1 c) E) := by
  refine piImp (pi_range1 hg (g.blt _ (by decide +kernel)) (pa_cons ha pa_nil (plain_star hp)) (by rw [plain_star hp]; rfl)) fun σ H R ⟨H0, mu0, r, st, mu, R', h⟩ => ?_
  unfold evi at h
  refine ⟨H0, mu0, r, st, mu, R', Post.bind (Rl := RSd C) h fun x st1 v H1 mu1 e1 s1 q1 h1 => ?_⟩
  split at h1
  · split at h1
    · next z =>
      cases Sd.cInt q1
      obtain ⟨b1, b2⟩ := small_ok z
      exact ⟨_, rfl, b1, b2, Post.here h1 s1 walk_rng⟩
    · exact h1.elim
  · exact h1.elim
theorem iRng2' (g : Good C G F k X E) {tg a b : Expr} {c d : Rt.E} {p pos : Pos} (hg : Gl X "range") (ha : PE X a (rdE C F c E)) (hp : plainE a = true) (hb : PE X b (rdE C F d E)) (hp2 : plainE b = true) : PI X tg (.Call (.Name "range" p) [a, b] [] pos) (rdI C F (.rng2 c d) E) := by
  refine piImp (pi_range2 hg (g.blt _ (by decide +kernel)) (pa_cons ha (pa_cons hb pa_nil (plain_star hp2)) (plain_star hp)) (by rw [plain_star hp, plain_star hp2]; rfl) (by rw [plain_star hp2]; rfl)) fun σ H R ⟨H0, mu0, r, st, mu, R', h⟩ => ?_
  unfold evi at h
  refine ⟨H0, mu0, r, st, mu, R', Post.bind (Rl := RSd C) h fun x st1 v H1 mu1 e1 s1 q1 h1 => ?_⟩
  refine ⟨H0, mu0, r, st1, mu1, R'.step e1 s1, Post.bind (Rl := RSd C) h1 fun y st2 w H2 mu2 e2 s2 q2 h2 => ?_⟩
  split at h2
  · split at h2
    · next z =>
      rw [Bool.and_eq_true] at z
      cases Sd.cInt q1
      cases Sd.cInt q2
      obtain ⟨b1, b2⟩ := small_ok z.1
      obtain ⟨b3, b4⟩ := small_ok z.2
      exact ⟨_, _, rfl, ⟨b1, b2, b3, b4⟩, Post.here h2 s2 walk_rng⟩
    · exact h2.elim
  · exact h2.elim
theorem iRng3' (g : Good C G F k X E) {tg a b c : Expr} {ca cb cc : Rt.E} {p pos : Pos} (hg : Gl X "range") (ha : PE X a (rdE C F ca E)) (hp : plainE a = true) (hb : PE X b (rdE C F cb E)) (hp2 : plainE b = true) (hc : PE X c (rdE C F cc E)) (hp3 : plainE c = true) :
    PI X tg (.Call (.Name "range" p) [a, b, c] [] pos) (rdI C F (.rng3 ca cb cc) E) := by
  refine piImp (pi_range3 hg (g.blt _ (by decide +kernel)) (pa_cons ha (pa_cons hb (pa_cons hc pa_nil (plain_star hp3)) (plain_star hp2)) (plain_star hp)) (plain_star hp) (plain_any (by simp [hp2, hp3]))) fun σ H R ⟨H0, mu0, r, st, mu, R', h⟩ => ?_
  unfold evi at h
  refine ⟨H0, mu0, r, st, mu, R', Post.bind (Rl := RSd C) h fun x st1 v H1 mu1 e1 s1 q1 h1 => ?_⟩
  refine ⟨H0, mu0, r, st1, mu1, R'.step e1 s1, Post.bind (Rl := RSd C) h1 fun y st2 w H2 mu2 e2 s2 q2 h2 => ?_⟩
  refine ⟨H0, mu0, r, st2, mu2, (R'.step e1 s1).step e2 s2, Post.bind (Rl := RSd C) h2 fun y st3 w H3 mu3 e3 s3 q3 h3 => ?_⟩
  split at h3
  · split at h3
    · next z =>
      rw [Bool.and_eq_true] at z
      cases Sd.cInt q1
      cases Sd.cInt q2
      cases Sd.cInt q3
      obtain ⟨b1, b2⟩ := small_ok z.1
      obtain ⟨b3, b4⟩ := small_ok z.2
      exact ⟨_, _, _, _, rfl, RgC.neg b1 b2 b3 b4, Post.here h3 s3 walk_rngC⟩
    · exact h3.elim
  · exact h3.elim
theorem iEnum' (g : Good C G F k X E) {elts : List Expr} {kk : Nat} {tpos : Pos} {a : Expr} {c : Rt.E} {p pos : Pos} (hg : Gl X "enumerate") (ha : PE X a (rdE C F c E)) (hp : plainE a = true) : PI X (.Tuple elts kk tpos) (.Call (.Name "enumerate" p) [a] [] pos) (rdI C F (.enum c) E) := by
  refine piImp (pi_enumA hg (g.blt _ (by decide +kernel)) (pa_cons ha pa_nil (plain_star hp)) (by rw [plain_star hp]; rfl)) fun σ H R ⟨H0, mu0, r, st, mu, R', h⟩ => ?_
  unfold evi at h
  refine ⟨H0, mu0, r, st, mu, R', Post.bind (Rl := RSd C) h fun x st1 v H1 mu1 e1 s1 q1 h1 => ?_⟩
  rw [g.hK]
  cases x with
  | tup ds =>
    obtain ⟨a, xs, rfl, hs, hd⟩ := Sd.cTup q1
    exact ⟨a, xs, rfl, .inr ⟨hs, Post.here h1 s1 (walk_enumT hs hd)⟩⟩
  | lst ds =>
    obtain ⟨a, xs, rfl, hs, hd⟩ := Sd.cLst q1
    exact ⟨a, xs, rfl, .inl ⟨hs.sq, Post.here h1 s1 (walk_enumL hs hd)⟩⟩
  | _ => exact h1.elim
theorem iZip' (g : Good C G F k X E) {elts : List Expr} {kk : Nat} {tpos : Pos} {a b : Expr} {c d : Rt.E} {p pos : Pos} (hg : Gl X "zip") (ha : PE X a (rdE C F c E)) (hp : plainE a = true) (hb : PE X b (rdE C F d E)) (hp2 : plainE b = true) :
    PI X (.Tuple elts kk tpos) (.Call (.Name "zip" p) [a, b] [] pos) (rdI C F (.zip c d) E) := by
  refine piImp (RZ.pi_zipB hg (g.blt _ (by decide +kernel)) (pa_cons ha (pa_cons hb pa_nil (plain_star hp2)) (plain_star hp)) (plain_star hp) (plain_any (by simp [hp2]))) fun σ H R ⟨H0, mu0, r, st, mu, R', h⟩ => ?_
  unfold evi at h
  refine ⟨H0, mu0, r, st, mu, R', Post.bind (Rl := RSd C) h fun x st1 v H1 mu1 e1 s1 q1 h1 => ?_⟩
  refine ⟨H0, mu0, r, st1, mu1, R'.step e1 s1, Post.bind (Rl := RSd C) h1 fun y st2 w H2 mu2 e2 s2 q2 h2 => ?_⟩
  rw [g.hK]
  have q1 := Sd.mono e2 q1
  split at h2
  · obtain ⟨a, xs, rfl, hs, hd⟩ := Sd.cTup q1
    obtain ⟨b, ys, rfl, hs', hd'⟩ := Sd.cTup q2
    exact ⟨a, b, xs, ys, rfl, .inr (.inl ⟨hs, hs', Post.here h2 s2 (walk_zipT hs hd hs' hd')⟩)⟩
  · obtain ⟨a, xs, rfl, hs, hd⟩ := Sd.cLst q1
    obtain ⟨b, ys, rfl, hs', hd'⟩ := Sd.cLst q2
    exact ⟨a, b, xs, ys, rfl, .inl ⟨hs.sq, hs'.sq, Post.here h2 s2 (walk_zipL hs hd hs' hd')⟩⟩
  · obtain ⟨a, xs, rfl, hs, hd⟩ := Sd.cTup q1
    obtain ⟨b, ys, rfl, hs', hd'⟩ := Sd.cLst q2
    exact ⟨a, b, xs, ys, rfl, .inr (.inr ⟨hs, hs'.sq, Post.here h2 s2 (walk_zipM hs hd hs' hd')⟩)⟩
  · exact h2.elim
end
end Rt
namespace Rt
open PySem PySem.Spec PyProof.Rows L2
theorem wipe_wipe {σ : L2.St} {vs : List Nat} : L2.wipe (L2.wipe σ vs) vs = L2.wipe σ vs := by
  apply List.ext_getElem?
  intro i
  by_cases hi : i ∈ vs
  · by_cases hl : i < σ.length
    · rw [wipe_get hi hl, wipe_get hi (by rw [wipe_length]; exact hl)]
    · rw [List.getElem?_eq_none (by rw [wipe_length, wipe_length]; omega), List.getElem?_eq_none (by rw [wipe_length]; omega)]
  · rw [wipe_out hi]
theorem mapR_noexc {f : D → Sto → Res (Option D)} : ∀ {ds : List D} {st : Sto} {c : Nat} {s : Sto}, mapR f ds st ≠ .exc c s
  | [], _, _, _, h => by simp [mapR] at h
  | d :: ds, st, c, s, h => by
    unfold mapR at h
    cases z : f d st with
    | ok o s1 =>
      rw [z] at h
      simp only [Res.bindN_ok] at h
      cases z2 : mapR f ds s1 with
      | ok ys s2 => rw [z2] at h; cases h
      | exc c' s2 => rw [z2] at h; cases h
      | bad => rw [z2] at h; cases h
    | exc c' s1 => rw [z] at h; cases h
    | bad => rw [z] at h; cases h
/-- one turn of mapR -/
theorem mapR_cons {f : D → Sto → Res (Option D)} {d : D} {ds ys : List D} {st sE : Sto} (h : mapR f (d :: ds) st = .ok ys sE) : ∃ o s1 ys', f d st = .ok o s1 ∧ mapR f ds s1 = .ok ys' sE ∧ ys = o.toList ++ ys' := by
  unfold mapR at h
  cases z : f d st with
  | ok o s1 =>
    rw [z] at h
    simp only [Res.bindN_ok] at h
    cases z2 : mapR f ds s1 with
    | ok ys' s2 =>
      rw [z2] at h
      simp only [Res.bindN_ok] at h
      cases h
      exact ⟨o, s1, ys', rfl, z2, rfl⟩
    | exc c' s2 => rw [z2] at h; cases h
    | bad => rw [z2] at h; cases h
  | exc c' s1 => rw [z] at h; cases h
  | bad => rw [z] at h; cases h
theorem mapR2_noexc {f : D → Sto → Res (List D)} : ∀ {ds : List D} {st : Sto} {c : Nat} {s : Sto}, mapR2 f ds st ≠ .exc c s
  | [], _, _, _, h => by simp [mapR2] at h
  | d :: ds, st, c, s, h => by
    unfold mapR2 at h
    cases z : f d st with
    | ok o s1 =>
      rw [z] at h
      simp only [Res.bindN_ok] at h
      cases z2 : mapR2 f ds s1 with
      | ok ys s2 => rw [z2] at h; cases h
      | exc c' s2 => rw [z2] at h; cases h
      | bad => rw [z2] at h; cases h
    | exc c' s1 => rw [z] at h; cases h
    | bad => rw [z] at h; cases h
theorem mapR2_cons {f : D → Sto → Res (List D)} {d : D} {ds ys : List D} {st sE : Sto} (h : mapR2 f (d :: ds) st = .ok ys sE) : ∃ o s1 ys', f d st = .ok o s1 ∧ mapR2 f ds s1 = .ok ys' sE ∧ ys = o ++ ys' := by
  unfold mapR2 at h
  cases z : f d st with
  | ok o s1 =>
    rw [z] at h
    simp only [Res.bindN_ok] at h
    cases z2 : mapR2 f ds s1 with
    | ok ys' s2 =>
      rw [z2] at h
      simp only [Res.bindN_ok] at h
      cases h
      exact ⟨o, s1, ys', rfl, z2, rfl⟩
    | exc c' s2 => rw [z2] at h; cases h
    | bad => rw [z2] at h; cases h
  | exc c' s1 => rw [z] at h; cases h
  | bad => rw [z] at h; cases h
theorem bind_ok_inv {a b : Type} {x : Res a} {f : a → Sto → Res b} {y : b} {s : Sto} (h : x.bind f = .ok y s) : ∃ z s1, x = .ok z s1 ∧ f z s1 = .ok y s := by
  cases x with
  | ok z s1 => exact ⟨z, s1, rfl, h⟩
  | exc c s1 => cases h
  | bad => cases h
theorem drop_get {a : Type} {ds : List a} {i : Nat} (h : i < ds.length) : ds.drop i = ds[i] :: ds.drop (i + 1) := List.drop_eq_getElem_cons h
section
variable {C : Cn} {G : Gam} {F : Nat → List D → Sto → Res D} {k : Nat} {X : Cx} {E : XK}
/-- the tests of a comprehension -/
def rdC (C : Cn) (F : Nat → List D → Sto → Res D) (c : Oe) (E : XK) : TT := fun σ H Q => match c with
  | .none => Q true H
  | .some c => rdT C F c E σ H Q
/-- a result that is known, as what is asked of it -/
theorem post_ok {a b : Type} {Rl : Hp → List Addr → b → a → Prop} {r : Res a} {d : a} {st : Sto} {H : Hp} {mu : List Addr} {Q : b → Hp → Prop} (e : r = .ok d st) (h : ∀ v H' mu', Ext mu mu' H H' → SRel C H' mu' st → Rl H' mu' v d → Q v H') : Post C Rl r H mu Q E := by
  rw [e]
  exact h
/-- the list so far: what a comprehension keeps -/
structure Acc (C : Cn) (mu1 : List Addr) (H1 : Hp) (Dl : Addr) (H : Hp) (mu : List Addr) (st : Sto) (acc : List V) (accD : List D) : Prop where
  at_ : H Dl = some (.lst acc)
  out : Dl ∉ mu
  ext : Ext mu1 mu H1 H
  rel : SRel C H mu st
  sd : SdA C.K H mu acc accD
theorem Acc.step {mu1 mu mu' : List Addr} {H1 H H' : Hp} {Dl : Addr} {st st' : Sto} {acc : List V} {accD : List D} (a : Acc C mu1 H1 Dl H mu st acc accD) (e : Ext mu mu' H H') (s : SRel C H' mu' st') : Acc C mu1 H1 Dl H' mu' st' acc accD :=
  ⟨e.keepL _ _ a.at_ a.out, e.notin a.at_ a.out, a.ext.trans e, s, a.sd.mono e⟩
theorem Acc.push {mu1 mu : List Addr} {H1 H : Hp} {Dl : Addr} {st : Sto} {acc : List V} {accD : List D} {y : V} {d : D} (a : Acc C mu1 H1 Dl H mu st acc accD) (hn : H1 Dl = none) (q : Sd C.K H mu y d) : Acc C mu1 H1 Dl (upd H Dl (.lst (acc ++ [y]))) mu st (acc ++ [y]) (accD ++ [d]) := by
  have w := ExtW.updL (mu := mu) (o := .lst (acc ++ [y])) a.at_
  refine ⟨upd_same, a.out, ?_, a.rel.updL a.at_ a.out, (a.sd.monoW w).append (.cons (Sd.monoW w q) .nil)⟩
  refine ⟨a.ext.pre, fun b o h n m => ?_, fun b xs h n => ?_, fun b ps h => ?_, a.ext.new, fun b c dx fs h n => by rw [upd_ne (ne_of_none h hn)]; exact a.ext.keepI b c dx fs h n⟩
  · rw [upd_ne (ne_of_none h hn)]; exact a.ext.keepN b o h n m
  · rw [upd_ne (ne_of_none h hn)]; exact a.ext.keepL b xs h n
  · rw [upd_ne (ne_of_none h hn)]; exact a.ext.keepT b ps h
theorem Acc.frz {mu1 mu : List Addr} {H1 H : Hp} {Dl : Addr} {st : Sto} {acc : List V} {accD : List D} (a : Acc C mu1 H1 Dl H mu st acc accD) (hn : H1 Dl = none) (o : Obj) :
    Ext mu1 mu H1 (upd H Dl (.frz o (.lst acc))) ∧ SRel C (upd H Dl (.frz o (.lst acc))) mu st ∧ Sd C.K (upd H Dl (.frz o (.lst acc))) mu (.ref Dl) (.lst accD) := by
  have w := ExtW.updL (mu := mu) (o := .frz o (.lst acc)) a.at_
  refine ⟨?_, a.rel.updL a.at_ a.out, .lst (.inl ⟨o, upd_same⟩) (a.sd.monoW w)⟩
  refine ⟨a.ext.pre, fun b o h n m => ?_, fun b xs h n => ?_, fun b ps h => ?_, a.ext.new, fun b c dx fs h n => by rw [upd_ne (ne_of_none h hn)]; exact a.ext.keepI b c dx fs h n⟩
  · rw [upd_ne (ne_of_none h hn)]; exact a.ext.keepN b o h n m
  · rw [upd_ne (ne_of_none h hn)]; exact a.ext.keepL b xs h n
  · rw [upd_ne (ne_of_none h hn)]; exact a.ext.keepT b ps h
theorem Acc.start {mu1 : List Addr} {H1 : Hp} {Dl : Addr} {st : Sto} (s : SRel C H1 mu1 st) (hn : H1 Dl = none) : Acc C mu1 H1 Dl (upd H1 Dl (.lst [])) mu1 st [] [] :=
  ⟨upd_same, notin_new s hn, Ext.upd hn, s.upd hn, .nil⟩
/-- the reading of a comprehension with one for -/
theorem compA {tg : Tg} {it : Rt.It} {cond : Oe} {elt : Rt.E} {own : List Nat} (hsl : ∀ i, i ∈ tg.slots → i ∈ own) {σ : L2.St} {H H0 : Hp} {mu0 mu : List Addr} {r : Env} {st : Sto} {Q2 : VK} (R : Rel C H0 mu0 σ H r st mu)
    (hb : ev F (.comp tg it cond elt own) r st ≠ .bad) (hx : ∀ c s, ev F (.comp tg it cond elt own) r st = .exc c s → ∀ H' mu', Ext mu mu' H H' → SRel C H' mu' s → E (.ref (C.ca c)) none H')
    (hQ : ∀ st1 H1 mu1 Dl H' mu' st' acc accD, Ext mu mu1 H H1 → SRel C H1 mu1 st1 → H1 Dl = none → Acc C mu1 H1 Dl H' mu' st' acc accD → ev F (.comp tg it cond elt own) r st = .ok (.lst accD) st' → Q2 (.ref Dl) H') :
    tLc (rdI C F it E) (rdG C tg) (rdC C F cond E0) (rdE C F elt E0) own σ H Q2 := by
  have hev : ev F (.comp tg it cond elt own) r st = (evi F it r st).bind fun ds s => (mapR (fun (d : D) (s : Sto) => match bindT tg d (wipeE r own) with
      | none => Res.bad
      | some r' => (evo F cond r' s).bind fun k s => match k with
        | none => (ev F elt r' s).bind fun y s => Res.ok (some y) s
        | some (.bl true) => (ev F elt r' s).bind fun y s => Res.ok (some y) s
        | some (.bl false) => Res.ok none s
        | _ => Res.bad) ds s).bind fun ys s => if ys.length ≤ sizeN then .ok (.lst ys) s else .bad := by rw [ev] <;> rfl
  refine ⟨H0, mu0, r, st, mu, R, ?_⟩
  generalize hf : (fun (d : D) (s : Sto) => match bindT tg d (wipeE r own) with
      | none => Res.bad
      | some r' => (evo F cond r' s).bind fun k s => match k with
        | none => (ev F elt r' s).bind fun y s => Res.ok (some y) s
        | some (.bl true) => (ev F elt r' s).bind fun y s => Res.ok (some y) s
        | some (.bl false) => Res.ok none s
        | _ => Res.bad) = f at hev
  cases hi0 : evi F it r st with
  | bad => exact absurd (by rw [hev, hi0]; rfl) hb
  | exc c s => exact hx c s (by rw [hev, hi0]; rfl)
  | ok ds st1 =>
  rw [hi0] at hev
  simp only [Res.bind_ok] at hev
  intro J H1 mu1 e1 s1 wk Dl hD
  cases hm : mapR f ds st1 with
  | exc c s => exact absurd hm mapR_noexc
  | bad => exact absurd (by rw [hev, hm]; rfl) hb
  | ok ys sE =>
    rw [hm] at hev
    simp only [Res.bind_ok] at hev
    split at hev
    case isFalse => exact absurd hev hb
    case isTrue hsz =>
      have R1 := R.step e1 s1
      refine ⟨fun i m H' => m = ds.length - i ∧ i ≤ ds.length ∧ ∃ st' mu' acc accD ys', Acc C mu1 H1 Dl H' mu' st' acc accD ∧ mapR f (ds.drop i) st' = .ok ys' sE ∧ accD ++ ys' = ys,
        ⟨ds.length, by simp, Nat.zero_le _, st1, mu1, [], [], ys, Acc.start s1 hD, by simpa using hm, rfl⟩, ?_⟩
      rintro i m H' ⟨rfl, hi, st', mu', acc, accD, ys', A, hm', hy⟩
      by_cases hlt : i < ds.length
      · right
        have hd : ds[i]? = some ds[i] := List.getElem?_eq_getElem hlt
        obtain ⟨go, yl⟩ := (wk i H' mu' A.ext.w).2 _ hd
        rw [drop_get hlt] at hm'
        obtain ⟨o, s2, ys2, hfo, hm2, hys⟩ := mapR_cons hm'
        refine ⟨go, fun H'' => ∃ st' mu' acc accD ys', Acc C mu1 H1 Dl H'' mu' st' acc accD ∧ mapR f (ds.drop (i + 1)) st' = .ok ys' sE ∧ accD ++ ys' = ys, fun H'' z => ⟨ds.length - (i + 1), by omega, rfl, hlt, z⟩, fun x H2 hyl => ?_⟩
        obtain ⟨ex, sx, sdx⟩ := yl x H2 hyl
        have A2 := A.step (ex mu') (sx mu' st' A.rel)
        rw [← hf] at hfo
        dsimp only at hfo
        split at hfo
        · cases hfo
        · next r' hb =>
          have Rw : Rel C H0 mu0 (L2.wipe σ own) H2 (wipeE r own) st' mu' := (R1.step A2.ext A2.rel).wipe own
          refine ⟨H0, mu0, wipeE r own, st', mu', ds[i], r', Rw, sdx, hb, fun σ2 R2 off => ⟨?_, ?_⟩⟩
          · rw [off.wipe hsl, wipe_wipe]
          · -- the element
            have fin : ∀ (H3 : Hp) (mu3 : List Addr) (st3 : Sto) (y : D), Acc C mu1 H1 Dl H3 mu3 st3 acc accD → Rel C H0 mu0 σ2 H3 r' st3 mu3 → ev F elt r' st3 = .ok y s2 → o = some y →
                rdE C F elt E0 σ2 H3 fun y H4 => ∃ acc, H4 Dl = some (.lst acc) ∧ acc.length < sizeLine ∧ ∃ st' mu' acc' accD ys', Acc C mu1 H1 Dl (upd H4 Dl (.lst (acc ++ [y]))) mu' st' acc' accD ∧ mapR f (ds.drop (i + 1)) st' = .ok ys' sE ∧ accD ++ ys' = ys := by
              intro H3 mu3 st3 y A3 R3 he ho
              refine ⟨H0, mu0, r', st3, mu3, R3, post_ok he fun v H4 mu4 e4 s4 q4 => ?_⟩
              have A4 := A3.step e4 s4
              subst ho
              refine ⟨acc, A4.at_, ?_, s2, mu4, acc ++ [v], accD ++ [y], ys2, A4.push hD q4, hm2, ?_⟩
              · have l1 := A4.sd.length
                have l2 : accD.length + 1 ≤ ys.length := by
                  rw [← hy, hys, List.length_append, List.length_append]
                  simp
                have l3 := sizeN_le
                omega
              · rw [← hy, hys]; simp
            have skip : ∀ (H3 : Hp) (mu3 : List Addr), Acc C mu1 H1 Dl H3 mu3 s2 acc accD → o = none → ∃ st' mu' acc accD ys', Acc C mu1 H1 Dl H3 mu' st' acc accD ∧ mapR f (ds.drop (i + 1)) st' = .ok ys' sE ∧ accD ++ ys' = ys := by
              intro H3 mu3 A3 ho
              subst ho
              exact ⟨s2, mu3, acc, accD, ys2, A3, hm2, by rw [← hy, hys]; rfl⟩
            cases cond with
            | none =>
              unfold evo at hfo
              simp only [Res.bind_ok] at hfo
              obtain ⟨y, s3, he, hk⟩ := bind_ok_inv hfo
              cases hk
              exact fin H2 mu' st' y A2 R2 he rfl
            | some c =>
              unfold evo at hfo
              obtain ⟨kd, s3, he, hk⟩ := bind_ok_inv hfo
              obtain ⟨kd', s3', he', hk'⟩ := bind_ok_inv he
              cases hk'
              refine ⟨H0, mu0, r', st', mu', R2, ?_⟩
              rw [he']
              cases kd' with
              | bl b =>
                intro v H3 mu3 e3 s3' q3
                cases q3
                cases b with
                | true =>
                  rw [if_pos rfl]
                  obtain ⟨y, s4, he4, hk4⟩ := bind_ok_inv hk
                  cases hk4
                  exact fin H3 mu3 s3 y (A2.step e3 s3') (R2.step e3 s3') he4 rfl
                | false =>
                  rw [if_neg Bool.false_ne_true]
                  cases hk
                  exact skip H3 mu3 (A2.step e3 s3') rfl
              | _ => cases hk
      · left
        have hie : i = ds.length := by omega
        rw [hie, List.drop_length] at hm'
        unfold mapR at hm'
        cases hm'
        rw [List.append_nil] at hy
        subst hy
        exact ⟨(wk i H' mu' A.ext.w).1 (by omega) (by omega), hQ st1 H1 mu1 Dl H' mu' _ acc _ e1 s1 hD A hev⟩
theorem compQ {tg : Tg} {it : Rt.It} {cond : Oe} {elt : Rt.E} {own : List Nat} (hsl : ∀ i, i ∈ tg.slots → i ∈ own) {σ : L2.St} {H H0 : Hp} {mu0 mu : List Addr} {r : Env} {st : Sto} {Q Q2 : VK} (R : Rel C H0 mu0 σ H r st mu) (h : Post C (RSd C) (ev F (.comp tg it cond elt own) r st) H mu Q E) (hQ : ∀ a xs H1, H1 a = some (.lst xs) → (∀ o, Q (.ref a) (upd H1 a (.frz o (.lst xs)))) → Q2 (.ref a) H1) :
    tLc (rdI C F it E) (rdG C tg) (rdC C F cond E0) (rdE C F elt E0) own σ H Q2 := by
  refine compA hsl R (fun z => by rw [z] at h; exact h) (fun c s z => by rw [z] at h; exact h) fun st1 H1 mu1 Dl H' mu' st' acc accD e1 s1 hD A z => ?_
  rw [z] at h
  refine hQ Dl acc H' A.at_ fun ob => ?_
  obtain ⟨x1, x2, x3⟩ := A.frz hD ob
  exact (h.mono e1) _ _ _ x1 x2 x3
theorem takesL0 {X : Cx} {L : Addr} : TakesL X L (fun _ _ _ _ => False) := fun _ _ x => by
  obtain ⟨_, _, _, _, _, _, _, _, _, _, _, _, _, _, _, _, z⟩ := x
  exact z.elim
/-- a block's context is good -/
theorem Good.blk (g : Good C G F k X E) (s : Shared) (H : Hp) (scope : Scope) (cenv : PySem.Env) (fp : List Addr) (hce : cenv.frame = X.env.frame := by rfl) : Good C G F k (X.blk s H scope cenv fp) E0 :=
  ⟨g.hK, g.hN, g.nd, g.dbg, g.calm, g.room, (by obtain ⟨L, env0, outer0, a, b, c, _⟩ := g.tk; exact ⟨L, env0, outer0, a, b, hce.trans c, takesL0⟩), g.blt, g.fns, g.exf, g.dsk, g.mth, g.mke, g.xi, g.hca⟩
theorem sComp (g : Good C G F k X E) {tg : Tg} {it : Rt.It} {cond : Oe} {elt : Rt.E} {own : List Nat} {e tg' iter : Expr} {ifs : List Expr} {scope : Scope} {ownL : List (Str × Nat)} {pos : Pos} (hsl : ∀ i, i ∈ tg.slots → i ∈ own) (ho : ownL.map (·.2) = own)
    (hi : PI X tg' iter (rdI C F it E)) (ok : BlkOk X.N X.env.scope scope ownL) (hp : plainE iter = true)
    (hg : ∀ (s : Shared) (H : Hp) (C' : Addr) (cl : List (Str × Addr)) (fp : List Addr), PG (X.blk s H scope (compEnvC scope cl C' X.env) fp) tg' (rdG C tg))
    (ht : ∀ (s : Shared) (H : Hp) (C' : Addr) (cl : List (Str × Addr)) (fp : List Addr), PTs (X.blk s H scope (compEnvC scope cl C' X.env) fp) ifs (rdC C F cond E0))
    (he : ∀ (s : Shared) (H : Hp) (C' : Addr) (cl : List (Str × Addr)) (fp : List Addr), PE (X.blk s H scope (compEnvC scope cl C' X.env) fp) e (rdE C F elt E0)) :
    PE X (.ListComp e [⟨tg', iter, ifs, 0⟩] scope pos) (rdE C F (.comp tg it cond elt own) E) := by
  refine peImp (peFrz (pe_lc g.calm (by rw [g.hN]; exact g.nd) hi ok hg ht he (plain_set hp))) fun σ H Q ⟨H0, mu0, r, st, mu, R, h⟩ => ?_
  rw [ho]
  exact compQ hsl R h fun a xs H1 ha z => ⟨a, xs, rfl, ha, z⟩
end
end Rt
set_option maxHeartbeats 1000000
namespace Rt
open PySem PySem.Spec PyProof.Rows L2
theorem bindN_inv {a b : Type} {x : Res a} {f : a → Sto → Res b} {y : b} {s : Sto} (h : x.bindN f = .ok y s) : ∃ z s1, x = .ok z s1 ∧ f z s1 = .ok y s := by
  cases x with
  | ok z s1 => exact ⟨z, s1, rfl, h⟩
  | exc c s1 => cases h
  | bad => cases h
theorem set_own {r : Env} {i j : Nat} {d : D} {ds : List D} (h : (r.set i (.val d))[j]? = some (.own ds)) : r[j]? = some (.own ds) ∧ i ≠ j := by
  by_cases e : i = j
  · subst e
    have hi : i < r.length := by
      have := (List.getElem?_eq_some_iff.mp h).1
      simpa using this
    rw [List.getElem?_set_self hi] at h
    cases h
  · rw [List.getElem?_set_ne e] at h
    exact ⟨h, e⟩
theorem bindT_own : ∀ {tg : Tg} {d : D} {r r' : Env}, bindT tg d r = some r' → ∀ {i : Nat} {ds : List D}, r'[i]? = some (.own ds) → r[i]? = some (.own ds) ∧ i ∉ tg.slots
  | .name k, d, r, r', h, i, ds, hi => by
    simp only [bindT] at h
    cases h
    obtain ⟨a, b⟩ := set_own hi
    exact ⟨a, by simp only [Tg.slots, List.mem_singleton]; exact fun z => b z.symm⟩
  | .tup2 a b, .tup [x, y], r, r', h, i, ds, hi => by
    simp only [bindT] at h
    cases h1 : bindT a x r with
    | none => rw [h1] at h; cases h
    | some r1 =>
      rw [h1] at h
      obtain ⟨q1, q2⟩ := bindT_own (tg := b) h hi
      obtain ⟨q3, q4⟩ := bindT_own h1 q1
      exact ⟨q3, by simp only [Tg.slots, List.mem_append, not_or]; exact ⟨q4, q2⟩⟩
  | .tup2 a b, .lst [x, y], r, r', h, i, ds, hi => by
    simp only [bindT] at h
    cases h1 : bindT a x r with
    | none => rw [h1] at h; cases h
    | some r1 =>
      rw [h1] at h
      obtain ⟨q1, q2⟩ := bindT_own (tg := b) h hi
      obtain ⟨q3, q4⟩ := bindT_own h1 q1
      exact ⟨q3, by simp only [Tg.slots, List.mem_append, not_or]; exact ⟨q4, q2⟩⟩
  | .tup3 a b c, .tup [x, y, z], r, r', h, i, ds, hi => by
    simp only [bindT] at h
    cases h1 : bindT a x r with
    | none => rw [h1] at h; cases h
    | some r1 =>
      rw [h1] at h
      simp only [Option.bind_some] at h
      cases h2 : bindT b y r1 with
      | none => rw [h2] at h; cases h
      | some r2 =>
        rw [h2] at h
        obtain ⟨q1, q2⟩ := bindT_own (tg := c) h hi
        obtain ⟨q3, q4⟩ := bindT_own h2 q1
        obtain ⟨q5, q6⟩ := bindT_own h1 q3
        exact ⟨q5, by simp only [Tg.slots, List.mem_append, not_or]; exact ⟨q6, q4, q2⟩⟩
  | .tup5 a b c d e, .tup [x, y, z, u, v], r, r', h, i, ds, hi => by
    simp only [bindT, Option.bind_eq_some_iff] at h
    obtain ⟨r4, ⟨r3, ⟨r2, ⟨r1, h1, h2⟩, h3⟩, h4⟩, h5⟩ := h
    obtain ⟨q1, q2⟩ := bindT_own h5 hi
    obtain ⟨q3, q4⟩ := bindT_own h4 q1
    obtain ⟨q5, q6⟩ := bindT_own h3 q3
    obtain ⟨q7, q8⟩ := bindT_own h2 q5
    obtain ⟨q9, q10⟩ := bindT_own h1 q7
    exact ⟨q9, by simp only [Tg.slots, List.mem_append, not_or]; exact ⟨q10, q8, q6, q4, q2⟩⟩
  | .tup2 a b, .non, r, r', h, _, _, _ => by simp [bindT] at h
  | .tup2 a b, .bl _, r, r', h, _, _, _ => by simp [bindT] at h
  | .tup2 a b, .int _, r, r', h, _, _, _ => by simp [bindT] at h
  | .tup2 a b, .str _, r, r', h, _, _, _ => by simp [bindT] at h
  | .tup2 a b, .lst [], r, r', h, _, _, _ => by simp [bindT] at h
  | .tup2 a b, .lst [_], r, r', h, _, _, _ => by simp [bindT] at h
  | .tup2 a b, .lst (_ :: _ :: _ :: _), r, r', h, _, _, _ => by simp [bindT] at h
  | .tup2 a b, .cell _, r, r', h, _, _, _ => by simp [bindT] at h
  | .tup2 a b, .tup [], r, r', h, _, _, _ => by simp [bindT] at h
  | .tup2 a b, .tup [_], r, r', h, _, _, _ => by simp [bindT] at h
  | .tup2 a b, .tup (_ :: _ :: _ :: _), r, r', h, _, _, _ => by simp [bindT] at h
  | .tup3 a b c, .non, r, r', h, _, _, _ => by simp [bindT] at h
  | .tup3 a b c, .bl _, r, r', h, _, _, _ => by simp [bindT] at h
  | .tup3 a b c, .int _, r, r', h, _, _, _ => by simp [bindT] at h
  | .tup3 a b c, .str _, r, r', h, _, _, _ => by simp [bindT] at h
  | .tup3 a b c, .lst _, r, r', h, _, _, _ => by simp [bindT] at h
  | .tup3 a b c, .cell _, r, r', h, _, _, _ => by simp [bindT] at h
  | .tup3 a b c, .tup [], r, r', h, _, _, _ => by simp [bindT] at h
  | .tup3 a b c, .tup [_], r, r', h, _, _, _ => by simp [bindT] at h
  | .tup3 a b c, .tup [_, _], r, r', h, _, _, _ => by simp [bindT] at h
  | .tup3 a b c, .tup (_ :: _ :: _ :: _ :: _), r, r', h, _, _, _ => by simp [bindT] at h
  | .tup2 a b, .ob, r, r', h, _, _, _ => by simp [bindT] at h
  | .tup2 a b, .exc _, r, r', h, _, _, _ => by simp [bindT] at h
  | .tup3 a b c, .ob, r, r', h, _, _, _ => by simp [bindT] at h
  | .tup3 a b c, .exc _, r, r', h, _, _, _ => by simp [bindT] at h
  | .tup5 a b c d e, .non, r, r', h, _, _, _ => by simp [bindT] at h
  | .tup5 a b c d e, .bl _, r, r', h, _, _, _ => by simp [bindT] at h
  | .tup5 a b c d e, .int _, r, r', h, _, _, _ => by simp [bindT] at h
  | .tup5 a b c d e, .str _, r, r', h, _, _, _ => by simp [bindT] at h
  | .tup5 a b c d e, .lst _, r, r', h, _, _, _ => by simp [bindT] at h
  | .tup5 a b c d e, .cell _, r, r', h, _, _, _ => by simp [bindT] at h
  | .tup5 a b c d e, .ob, r, r', h, _, _, _ => by simp [bindT] at h
  | .tup5 a b c d e, .exc _, r, r', h, _, _, _ => by simp [bindT] at h
  | .tup5 a b c d e, .tup [], r, r', h, _, _, _ => by simp [bindT] at h
  | .tup5 a b c d e, .tup [_], r, r', h, _, _, _ => by simp [bindT] at h
  | .tup5 a b c d e, .tup [_, _], r, r', h, _, _, _ => by simp [bindT] at h
  | .tup5 a b c d e, .tup [_, _, _], r, r', h, _, _, _ => by simp [bindT] at h
  | .tup5 a b c d e, .tup [_, _, _, _], r, r', h, _, _, _ => by simp [bindT] at h
  | .tup5 a b c d e, .tup (_ :: _ :: _ :: _ :: _ :: _ :: _), r, r', h, _, _, _ => by simp [bindT] at h
section
variable {C : Cn} {G : Gam} {F : Nat → List D → Sto → Res D} {k : Nat} {X : Cx} {E : XK}
/-- no owned slot lies at Dl -/
def NoAt (σ : L2.St) (r : Env) (Dl : Addr) : Prop := ∀ (i : Nat) (ds : List D), r[i]? = some (.own ds) → σ[i]? ≠ some (some (.ref Dl))
/-- a list that no slot owns is changed -/
theorem Rel.aside {H0 H : Hp} {mu0 mu : List Addr} {σ : L2.St} {r : Env} {st : Sto} {Dl : Addr} {xs ys : List V} (R : Rel C H0 mu0 σ H r st mu) (h0 : H0 Dl = none) (ha : H Dl = some (.lst xs)) (hm : Dl ∉ mu) (hn : NoAt σ r Dl) : Rel C H0 mu0 σ (upd H Dl (.lst ys)) r st mu := by
  have w := ExtW.updL (mu := mu) (o := .lst ys) ha
  refine ⟨R.len, fun i sl hi => ?_, R.dis, R.srel.updL ha hm, ⟨R.ext.pre, fun b o h n m => ?_, fun b zs h n => ?_, fun b ps h => ?_, R.ext.new, fun b c dx fs h n => by rw [upd_ne (ne_of_none h h0)]; exact R.ext.keepI b c dx fs h n⟩⟩
  · have q := R.slots i sl hi
    cases sl with
    | no => exact trivial
    | val d =>
      match hs : σ[i]?, q with
      | some (some v), q => exact Sd.monoW w q
    | own ds =>
      match hs : σ[i]?, q with
      | some (some (.ref a)), q =>
        obtain ⟨h1, h2, zs, h3, h4⟩ := q
        have ne : a ≠ Dl := fun z => hn i ds hi (by rw [hs, z])
        exact ⟨h1, h2, zs, by rw [upd_ne ne]; exact h3, h4.monoW w⟩
  · rw [upd_ne (ne_of_none h h0)]; exact R.ext.keepN b o h n m
  · rw [upd_ne (ne_of_none h h0)]; exact R.ext.keepL b zs h n
  · rw [upd_ne (ne_of_none h h0)]; exact R.ext.keepT b ps h
theorem noAt_of {H0 H : Hp} {mu0 mu : List Addr} {σ σ' : L2.St} {r r' : Env} {st : Sto} {Dl : Addr} {tg : Tg} {d : D} (R : Rel C H0 mu0 σ H r st mu) (hD : H Dl = none) (hb : bindT tg d r = some r') (off : Off tg.slots σ σ') : NoAt σ' r' Dl := by
  intro i ds hi z
  obtain ⟨q1, q2⟩ := bindT_own hb hi
  rw [off.2 i q2] at z
  have q := R.slots i _ q1
  rw [z] at q
  obtain ⟨_, _, xs, h3, _⟩ := q
  rw [hD] at h3
  cases h3
theorem comp2Q {tg tg2 : Tg} {it it2 : Rt.It} {elt : Rt.E} {own own2 : List Nat} (hsl : ∀ i, i ∈ tg.slots → i ∈ own) (hsl2 : ∀ i, i ∈ tg2.slots → i ∈ own2) {σ : L2.St} {H H0 : Hp} {mu0 mu : List Addr} {r : Env} {st : Sto} {Q Q2 : VK} (R : Rel C H0 mu0 σ H r st mu) (h : Post C (RSd C) (ev F (.comp2 tg it tg2 it2 elt own own2) r st) H mu Q E) (hQ : ∀ a xs H1, H1 a = some (.lst xs) → (∀ o, Q (.ref a) (upd H1 a (.frz o (.lst xs)))) → Q2 (.ref a) H1) :
    tLc2 (rdI C F it E) (rdG C tg) (rdC C F .none E0) (rdI C F it2 E0) (rdG C tg2) (rdC C F .none E0) (rdE C F elt E0) own own2 σ H Q2 := by
  unfold ev at h
  refine ⟨H0, mu0, r, st, mu, R, Post.bind h fun ds st1 J H1 mu1 e1 s1 wk h1 => ?_⟩
  intro Dl hD
  generalize hf : (fun (d : D) (s : Sto) => match bindT tg d (wipeE r own) with
      | none => Res.bad
      | some r' => (evi F it2 r' s).bindN fun ds2 s => mapR (fun d2 s => match bindT tg2 d2 (wipeE r' own2) with
        | none => Res.bad
        | some r2 => (ev F elt r2 s).bind fun y s => Res.ok (some y) s) ds2 s) = f at h1
  cases hm : mapR2 f ds st1 with
  | exc c s => exact absurd hm mapR2_noexc
  | bad => rw [hm] at h1; exact h1.elim
  | ok ys sE =>
    rw [hm] at h1
    simp only [Res.bind_ok] at h1
    split at h1
    case isFalse => exact h1.elim
    case isTrue hsz =>
      have R1 := R.step e1 s1
      have nDm : Dl ∉ mu1 := notin_new s1 hD
      have h0D : H0 Dl = none := R1.ext.isSome hD (fun z => nDm (R1.ext.mem z))
      refine ⟨fun i m H' => m = ds.length - i ∧ i ≤ ds.length ∧ ∃ st' mu' acc accD ys', Acc C mu1 H1 Dl H' mu' st' acc accD ∧ mapR2 f (ds.drop i) st' = .ok ys' sE ∧ accD ++ ys' = ys,
        ⟨ds.length, by simp, Nat.zero_le _, st1, mu1, [], [], ys, Acc.start s1 hD, by simpa using hm, rfl⟩, ?_⟩
      rintro i m H' ⟨rfl, hi, st', mu', acc, accD, ys', A, hm', hy⟩
      by_cases hlt : i < ds.length
      · right
        have hd : ds[i]? = some ds[i] := List.getElem?_eq_getElem hlt
        obtain ⟨go, yl⟩ := (wk i H' mu' A.ext.w).2 _ hd
        rw [drop_get hlt] at hm'
        obtain ⟨o, s2, ys2, hfo, hm2, hys⟩ := mapR2_cons hm'
        refine ⟨go, fun H'' => ∃ st' mu' acc accD ys', Acc C mu1 H1 Dl H'' mu' st' acc accD ∧ mapR2 f (ds.drop (i + 1)) st' = .ok ys' sE ∧ accD ++ ys' = ys, fun H'' z => ⟨ds.length - (i + 1), by omega, rfl, hlt, z⟩, fun x H2 hyl => ?_⟩
        obtain ⟨ex, sx, sdx⟩ := yl x H2 hyl
        have A2 := A.step (ex mu') (sx mu' st' A.rel)
        rw [← hf] at hfo
        dsimp only at hfo
        split at hfo
        · cases hfo
        · next r' hb =>
          have Rw1 : Rel C H0 mu0 (L2.wipe σ own) H1 (wipeE r own) st1 mu1 := R1.wipe own
          have Rw : Rel C H0 mu0 (L2.wipe σ own) H2 (wipeE r own) st' mu' := (R1.step A2.ext A2.rel).wipe own
          refine ⟨H0, mu0, wipeE r own, st', mu', ds[i], r', Rw, sdx, hb, fun σ2 R2 off => ⟨?_, ?_⟩⟩
          · rw [off.wipe hsl, wipe_wipe]
          · have nat : NoAt σ2 r' Dl := noAt_of Rw1 hD hb off
            obtain ⟨ds2, s3, hev, hmr⟩ := bindN_inv hfo
            generalize hf2 : (fun (d2 : D) (s : Sto) => match bindT tg2 d2 (wipeE r' own2) with
              | none => Res.bad
              | some r2 => (ev F elt r2 s).bind fun y s => Res.ok (some y) s) = f2 at hmr
            dsimp only [rdC]
            rw [if_pos rfl]
            refine ⟨H0, mu0, r', st', mu', R2, post_ok hev fun J1 H4 mu4 e4 s4 wk2 => ?_⟩
            have A4 := A2.step e4 s4
            have R4 := R2.step e4 s4
            refine ⟨fun j k' Hc => k' = ds2.length - j ∧ j ≤ ds2.length ∧ ∃ stc muc accc accDc os, Acc C mu1 H1 Dl Hc muc stc accc accDc ∧ ExtW mu4 muc H4 Hc ∧ Rel C H0 mu0 σ2 Hc r' stc muc ∧ mapR f2 (ds2.drop j) stc = .ok os s2 ∧ accDc ++ os = accD ++ o,
              ⟨ds2.length, by simp, Nat.zero_le _, s3, mu4, acc, accD, o, A4, .refl, R4, by simpa using hmr, rfl⟩, ?_⟩
            rintro j k' Hc ⟨rfl, hj, stc, muc, accc, accDc, os, Ac, xw, Rc, hmc, hoc⟩
            by_cases hjl : j < ds2.length
            · right
              have hd2 : ds2[j]? = some ds2[j] := List.getElem?_eq_getElem hjl
              obtain ⟨go2, yl2⟩ := (wk2 j Hc muc xw).2 _ hd2
              rw [drop_get hjl] at hmc
              obtain ⟨oy, s5, os2, hfy, hm5, hos⟩ := mapR_cons hmc
              refine ⟨go2, fun Hn => ∃ stc muc accc accDc os, Acc C mu1 H1 Dl Hn muc stc accc accDc ∧ ExtW mu4 muc H4 Hn ∧ Rel C H0 mu0 σ2 Hn r' stc muc ∧ mapR f2 (ds2.drop (j + 1)) stc = .ok os s2 ∧ accDc ++ os = accD ++ o, fun Hn z => ⟨ds2.length - (j + 1), by omega, rfl, hjl, z⟩, fun x2 H5 hyl2 => ?_⟩
              obtain ⟨ex2, sx2, sdx2⟩ := yl2 x2 H5 hyl2
              have A5 := Ac.step (ex2 muc) (sx2 muc stc Ac.rel)
              have R5 := Rc.step (ex2 muc) (sx2 muc stc Ac.rel)
              have xw5 : ExtW mu4 muc H4 H5 := xw.trans (ex2 muc).w
              rw [← hf2] at hfy
              dsimp only at hfy
              split at hfy
              · cases hfy
              · next r2 hb2 =>
                refine ⟨H0, mu0, wipeE r' own2, stc, muc, ds2[j], r2, R5.wipe own2, sdx2, hb2, fun σ3 R3 off2 => ⟨?_, ?_⟩⟩
                · rw [off2.wipe hsl2, wipe_wipe]
                · dsimp only [rdC]
                  rw [if_pos rfl]
                  obtain ⟨y, s6, hey, hky⟩ := bind_ok_inv hfy
                  cases hky
                  refine ⟨H0, mu0, r2, stc, muc, R3, post_ok hey fun v H7 mu7 e7 s7 q7 => ?_⟩
                  have A7 := A5.step e7 s7
                  have R7 := R5.step e7 s7
                  refine ⟨accc, A7.at_, ?_, s5, mu7, accc ++ [v], accDc ++ [y], os2, A7.push hD q7, ?_, R7.aside h0D A7.at_ A7.out nat, hm5, ?_⟩
                  · have l1 := A7.sd.length
                    have l2 : accDc.length + 1 ≤ ys.length := by
                      have e2 : (accDc ++ os).length = (accD ++ o).length := by rw [hoc]
                      rw [← hy, hys]
                      rw [hos] at e2
                      simp only [List.length_append, Option.toList, List.length_cons, List.length_nil] at e2 ⊢
                      omega
                    have l3 := sizeN_le
                    omega
                  · exact (xw5.trans e7.w).trans (ExtW.updL A7.at_)
                  · rw [← hoc, hos]; simp
            · left
              have hje : j = ds2.length := by omega
              rw [hje, List.drop_length] at hmc
              unfold mapR at hmc
              cases hmc
              rw [List.append_nil] at hoc
              refine ⟨(wk2 j Hc muc xw).1 (by omega) (by omega), s2, muc, accc, accDc, ys2, Ac, hm2, ?_⟩
              rw [hoc, ← hy, hys, List.append_assoc]
      · left
        have hie : i = ds.length := by omega
        refine ⟨(wk i H' mu' A.ext.w).1 (by omega) (by omega), hQ Dl acc H' A.at_ fun ob => ?_⟩
        obtain ⟨x1, x2, x3⟩ := A.frz hD ob
        rw [hie, List.drop_length] at hm'
        unfold mapR2 at hm'
        cases hm'
        rw [List.append_nil] at hy
        subst hy
        exact h1 _ _ _ x1 x2 x3
theorem sComp2 (g : Good C G F k X E) {tg tg2 : Tg} {it it2 : Rt.It} {elt : Rt.E} {own own2 : List Nat} {e tg' iter tg2' iter2 : Expr} {scope : Scope} {ownL : List (Str × Nat)} {pos : Pos} (hsl : ∀ i, i ∈ tg.slots → i ∈ own) (hsl2 : ∀ i, i ∈ tg2.slots → i ∈ own2) (hso : ∀ i, i ∈ own2 → i ∈ own) (ho : ownL.map (·.2) = own)
    (hi : PI X tg' iter (rdI C F it E)) (ok : BlkOk X.N X.env.scope scope ownL) (hp : plainE iter = true) (hp2 : plainE iter2 = true)
    (hg : ∀ (s : Shared) (H : Hp) (C' : Addr) (cl : List (Str × Addr)) (fp : List Addr), PG (X.blk s H scope (compEnvC scope cl C' X.env) fp) tg' (rdG C tg))
    (hi2 : ∀ (s : Shared) (H : Hp) (C' : Addr) (cl : List (Str × Addr)) (fp : List Addr), PI (X.blk s H scope (compEnvC scope cl C' X.env) fp) tg2' iter2 (rdI C F it2 E0))
    (hg2 : ∀ (s : Shared) (H : Hp) (C' : Addr) (cl : List (Str × Addr)) (fp : List Addr), PG (X.blk s H scope (compEnvC scope cl C' X.env) fp) tg2' (rdG C tg2))
    (he : ∀ (s : Shared) (H : Hp) (C' : Addr) (cl : List (Str × Addr)) (fp : List Addr), PE (X.blk s H scope (compEnvC scope cl C' X.env) fp) e (rdE C F elt E0)) :
    PE X (.ListComp e [⟨tg', iter, [], 0⟩, ⟨tg2', iter2, [], 0⟩] scope pos) (rdE C F (.comp2 tg it tg2 it2 elt own own2) E) := by
  refine peImp (peFrz (pe_lc2 (vs1 := own2) g.calm (by rw [g.hN]; exact g.nd) hi ok (by rw [ho]; exact hso) hg (fun _ _ _ _ _ => ⟨fun _ _ _ H _ I h => wpAny_tests_nil ⟨H, I, h⟩⟩) hi2 hg2 (fun _ _ _ _ _ => ⟨fun _ _ _ H _ I h => wpAny_tests_nil ⟨H, I, h⟩⟩) he (plain_set hp) (fun env x => plain_set hp2 x))) fun σ H Q ⟨H0, mu0, r, st, mu, R, h⟩ => ?_
  rw [ho]
  exact comp2Q hsl hsl2 R h fun a xs H1 ha z => ⟨a, xs, rfl, ha, z⟩
end
end Rt
set_option maxHeartbeats 1000000
namespace Rt
open PySem PySem.Spec PyProof.Rows L2
section
variable {C : Cn} {G : Gam} {F : Nat → List D → Sto → Res D} {k : Nat} {X : Cx} {E : XK}
theorem compXQ {tg : Tg} {it : Rt.It} {elt : Rt.E} {own : List Nat} (hsl : ∀ i, i ∈ tg.slots → i ∈ own) {σ : L2.St} {H H0 : Hp} {mu0 mu : List Addr} {r : Env} {st : Sto} {Q Q2 : VK} (R : Rel C H0 mu0 σ H r st mu) (h : Post C (RSd C) (ev F (.compX tg it elt own) r st) H mu Q E) (hQ : ∀ a xs H1, H1 a = some (.lst xs) → (∀ o, Q (.ref a) (upd H1 a (.frz o (.lst xs)))) → Q2 (.ref a) H1) :
    tLcX (rdI C F it E) (rdG C tg) (rdE C F elt E) own σ H Q2 := by
  unfold ev at h
  refine ⟨H0, mu0, r, st, mu, R, Post.bind h fun ds st1 J H1 mu1 e1 s1 wk h1 => ?_⟩
  intro Dl hD
  split at h1
  case isFalse => exact h1.elim
  case isTrue hsz =>
  generalize hf : (fun (d : D) (s : Sto) => match bindT tg d (wipeE r own) with
      | none => Res.bad
      | some r' => ev F elt r' s) = f at h1
  have R1 := R.step e1 s1
  refine ⟨fun i m H' => m = ds.length - i ∧ i ≤ ds.length ∧ ∃ st' mu' acc accD, Acc C mu1 H1 Dl H' mu' st' acc accD ∧ accD.length = i ∧ (mapX f (ds.drop i) st').bind (fun ys s => .ok (accD ++ ys) s) = mapX f ds st1,
    ⟨ds.length, by simp, Nat.zero_le _, st1, mu1, [], [], Acc.start s1 hD, rfl, ?_⟩, ?_⟩
  · simp only [List.drop_zero, List.nil_append]
    cases mapX f ds st1 <;> rfl
  rintro i m H' ⟨rfl, hi, st', mu', acc, accD, A, hl, hm⟩
  by_cases hlt : i < ds.length
  · right
    have hd : ds[i]? = some ds[i] := List.getElem?_eq_getElem hlt
    obtain ⟨go, yl⟩ := (wk i H' mu' A.ext.w).2 _ hd
    rw [drop_get hlt, mapX] at hm
    refine ⟨go, fun H'' => ∃ st' mu' acc accD, Acc C mu1 H1 Dl H'' mu' st' acc accD ∧ accD.length = i + 1 ∧ (mapX f (ds.drop (i + 1)) st').bind (fun ys s => .ok (accD ++ ys) s) = mapX f ds st1, fun H'' z => ⟨ds.length - (i + 1), by omega, rfl, hlt, z⟩, fun x H2 hyl => ?_⟩
    obtain ⟨ex, sx, sdx⟩ := yl x H2 hyl
    have A2 := A.step (ex mu') (sx mu' st' A.rel)
    cases hb : bindT tg ds[i] (wipeE r own) with
    | none =>
      have : f ds[i] st' = .bad := by rw [← hf]; simp only [hb]
      rw [this] at hm
      rw [← hm] at h1
      exact h1.elim
    | some r' =>
      have hfe : f ds[i] st' = ev F elt r' st' := by rw [← hf]; simp only [hb]
      rw [hfe] at hm
      have Rw : Rel C H0 mu0 (L2.wipe σ own) H2 (wipeE r own) st' mu' := (R1.step A2.ext A2.rel).wipe own
      refine ⟨H0, mu0, wipeE r own, st', mu', ds[i], r', Rw, sdx, hb, fun σ2 R2 off => ⟨?_, ?_⟩⟩
      · rw [off.wipe hsl, wipe_wipe]
      · refine ⟨H0, mu0, r', st', mu', R2, ?_⟩
        cases he : ev F elt r' st' with
        | ok y s2 =>
          rw [he] at hm
          simp only [Res.bind_ok] at hm
          intro v H4 mu4 e4 s4 q4
          have A4 := A2.step e4 s4
          refine ⟨acc, A4.at_, ?_, s2, mu4, acc ++ [v], accD ++ [y], A4.push hD q4, by rw [List.length_append, hl]; rfl, ?_⟩
          · have l1 := A4.sd.length
            have l3 := sizeN_le
            omega
          · rw [← hm]
            cases mapX f (ds.drop (i + 1)) s2 with
            | ok ys s3 => simp
            | exc c s3 => rfl
            | bad => rfl
        | exc c s2 =>
          rw [he] at hm
          simp only [Res.bind_exc] at hm
          rw [← hm] at h1
          intro H4 mu4 e4 s4
          exact h1 H4 mu4 (A2.ext.trans e4) s4
        | bad =>
          rw [he] at hm
          simp only [Res.bind_bad] at hm
          rw [← hm] at h1
          exact h1.elim
  · left
    have hie : i = ds.length := by omega
    refine ⟨(wk i H' mu' A.ext.w).1 (by omega) (by omega), hQ Dl acc H' A.at_ fun ob => ?_⟩
    obtain ⟨x1, x2, x3⟩ := A.frz hD ob
    rw [hie, List.drop_length, mapX] at hm
    simp only [Res.bind_ok, List.append_nil] at hm
    rw [← hm] at h1
    exact h1 _ _ _ x1 x2 x3
theorem Good.blkX (g : Good C G F k X E) {L : Addr} {env0 : PySem.Env} {outer0 : List PySem.Env} (hstk : X.stack = env0 :: outer0) (hf0 : env0.frame = some L) (hf : X.env.frame = some L) (s : Shared) (H : Hp) (scope : Scope) (cenv : PySem.Env) (fp : List Addr) (xe : Value → Shared → Prop) (hce : cenv.frame = X.env.frame)
    (tk : TakesL (Rt.blkX X s H scope cenv fp xe) L (fun cls d _ H => E cls d H)) : Good C G F k (Rt.blkX X s H scope cenv fp xe) E :=
  ⟨g.hK, g.hN, g.nd, g.dbg, g.calm, g.room, ⟨L, env0, outer0, hstk, hf0, hce.trans hf, tk⟩, g.blt, g.fns, g.exf, g.dsk, g.mth, g.mke, g.xi, g.hca⟩
theorem sCompX (g : Good C G F k X E) {tg : Tg} {it : Rt.It} {elt : Rt.E} {own : List Nat} {e tg' iter : Expr} {scope : Scope} {ownL : List (Str × Nat)} {pos : Pos} (hsl : ∀ i, i ∈ tg.slots → i ∈ own) (ho : ownL.map (·.2) = own)
    (hi : PI X tg' iter (rdI C F it E)) (ok : BlkOk X.N X.env.scope scope ownL) (hp : plainE iter = true)
    (hg : ∀ Y : Cx, Good C G F k Y E → Y.env.scope = relS scope X.env.scope → (∀ x, Y.fn x = (scope.names.lookup x == some .cell)) → PG Y tg' (rdG C tg))
    (he : ∀ Y : Cx, Good C G F k Y E → Y.env.scope = relS scope X.env.scope → PE Y e (rdE C F elt E)) :
    PE X (.ListComp e [⟨tg', iter, [], 0⟩] scope pos) (rdE C F (.compX tg it elt own) E) := by
  obtain ⟨L, env0, outer0, hstk, hf0, hfr, tk⟩ := g.tk
  refine peImp (peFrz (pe_lcX hstk hf0 hfr tk g.calm (by rw [g.hN]; exact g.nd) hi ok (fun s H C' cl fp xe tkb => hg _ (g.blkX hstk hf0 hfr s H scope _ fp xe rfl tkb) rfl fun _ => rfl) (fun s H C' cl fp xe tkb => he _ (g.blkX hstk hf0 hfr s H scope _ fp xe rfl tkb) rfl) (plain_set hp))) fun σ H Q ⟨H0, mu0, r, st, mu, R, h⟩ => ?_
  rw [ho]
  exact compXQ hsl R h fun a xs H1 ha z => ⟨a, xs, rfl, ha, z⟩
end
end Rt
set_option maxHeartbeats 2000000
namespace Rt
open PySem PySem.Spec PyProof.Rows L2
theorem fl_ne : (("now" : Str) == "earlier") = false ∧ (("now" : Str) == "undone") = false ∧ (("earlier" : Str) == "now") = false ∧ (("earlier" : Str) == "undone") = false ∧ (("undone" : Str) == "now") = false ∧ (("undone" : Str) == "earlier") = false := by
  refine ⟨?_, ?_, ?_, ?_, ?_, ?_⟩ <;> decide +kernel
theorem fl_ne2 : ¬ ("now" : Str) = "earlier" ∧ ¬ ("now" : Str) = "undone" ∧ ¬ ("earlier" : Str) = "undone" := by
  refine ⟨?_, ?_, ?_⟩ <;> decide +kernel
theorem fl_lookup {i : Nat} {f : Str} (hi : deskFl[i]? = some f) : ∀ (vs : List V) (v : V), vs.length ≤ 3 → vs[i]? = some v → (deskFl.zip vs).lookup f = some v := by
  obtain ⟨a1, a2, a3, a4, a5, a6⟩ := fl_ne
  intro vs v hl hv
  have h3 : i < 3 := (List.getElem?_eq_some_iff.mp hi).1
  match i, h3, vs, hl with
  | 0, _, [], _ => cases hv
  | 0, _, a :: r, _ =>
    cases hi; cases hv
    simp [deskFl, List.lookup]
  | 1, _, [], _ => cases hv
  | 1, _, [a], _ => cases hv
  | 1, _, a :: b :: r, _ =>
    cases hi; cases hv
    simp [deskFl, List.lookup, a3]
  | 2, _, [], _ => cases hv
  | 2, _, [a], _ => cases hv
  | 2, _, [a, b], _ => cases hv
  | 2, _, a :: b :: c :: r, _ =>
    cases hi; cases hv
    simp [deskFl, List.lookup, a5, a6]
theorem fl_none {m : Str} (h : m ∉ deskFl) : ∀ (ks : List Str) (vs : List V), (∀ x ∈ ks, x ∈ deskFl) → (ks.zip vs).lookup m = none
  | [], _, _ => rfl
  | k :: ks, [], _ => rfl
  | k :: ks, v :: vs, hk => by
    have hne : (m == k) = false := beq_eq_false_iff_ne.mpr fun z => h (z ▸ hk k (by simp))
    rw [List.zip_cons_cons, List.lookup_cons, hne]
    exact fl_none h ks vs fun x hx => hk x (List.mem_cons_of_mem _ hx)
theorem fl_put {i : Nat} {f : Str} (hi : deskFl[i]? = some f) {y : V} {vs : List V} (hl : vs.length ≤ 3) : (i < vs.length → putF f y (deskFl.zip vs) = deskFl.zip (vs.set i y)) ∧ (i = vs.length → putF f y (deskFl.zip vs) = deskFl.zip (vs ++ [y])) := by
  obtain ⟨b1, b2, b3⟩ := fl_ne2
  have h3 : i < 3 := (List.getElem?_eq_some_iff.mp hi).1
  match i, h3, vs, hl with
  | 0, _, [], _ => cases hi; simp [deskFl, putF]
  | 0, _, a :: r, _ => cases hi; simp [deskFl, putF]
  | 1, _, [], _ => cases hi; simp [deskFl, putF]
  | 1, _, [a], _ => cases hi; simp [deskFl, putF, b1]
  | 1, _, a :: b :: r, _ => cases hi; simp [deskFl, putF, b1]
  | 2, _, [], _ => cases hi; simp [deskFl, putF]
  | 2, _, [a], _ => cases hi; simp [deskFl, putF, b1]
  | 2, _, [a, b], _ => cases hi; simp [deskFl, putF, b2, b3]
  | 2, _, a :: b :: c :: r, _ => cases hi; simp [deskFl, putF, b2, b3]
theorem Post.impR {C : Cn} {a b : Type} {Rl : Hp → List Addr → b → a → Prop} {r : Res a} {H : Hp} {mu : List Addr} {Q Q' : b → Hp → Prop} {E : XK} (h : Post C Rl r H mu Q E) (w : ∀ v H', Q v H' → Q' v H') : Post C Rl r H mu Q' E := Post.imp h w
section
variable {C : Cn} {G : Gam} {F : Nat → List D → Sto → Res D} {k : Nat} {X : Cx} {E : XK}
/-- where an object of the store lies -/
theorem obj_at {H : Hp} {mu : List Addr} {st : Sto} {v : V} {x : D} {n : Nat} {fs : List D} (s : SRel C H mu st) (q : Sd C.K H mu v x) (h : obOf st x = some (n, fs)) :
    ∃ a dx vs, x = .cell n ∧ v = .ref a ∧ mu[n]? = some a ∧ st[n]? = some (.ob :: fs) ∧ C.ob = true ∧ H a = some (.ins C.dk dx (deskFl.zip vs)) ∧ SdA C.K H mu vs fs ∧ vs.length ≤ 3 := by
  unfold obOf at h
  split at h
  · next m =>
    split at h
    · next gs hm =>
      cases h
      obtain ⟨a, rfl, hmu⟩ := Sd.cCell q
      obtain ⟨c1, dx, vs, c2, c3, c4⟩ := s.cel n a _ hmu hm
      exact ⟨a, dx, vs, rfl, rfl, hmu, hm, c1, c2, c3, c4⟩
    · cases h
  · cases h
theorem some_ob {st : Sto} {x : D} (h : (obOf st x).isSome = true) : ∃ n fs, obOf st x = some (n, fs) := by
  cases z : obOf st x with
  | none => rw [z] at h; cases h
  | some p => exact ⟨p.1, p.2, rfl⟩
/-- o.f -/
theorem sFldE (g : Good C G F k X E) {i : Nat} {f : Str} {o : Expr} {ca : Rt.E} {pos : Pos} (hi : deskFl[i]? = some f) (ho : PE X o (rdE C F ca E)) (hb : baseE o = true) : PE X (.Attribute o f pos) (rdE C F (.fld i ca) E) := by
  refine peImp (pe_fld ho (base_of hb)) fun σ H Q ⟨H0, mu0, r, st, mu, R, h⟩ => ?_
  unfold ev at h
  refine ⟨H0, mu0, r, st, mu, R, Post.bind h fun x st1 v H1 mu1 e1 s1 q1 h1 => ?_⟩
  unfold fldD at h1
  split at h1
  · next n fs z =>
    obtain ⟨a, dx, vs, rfl, rfl, hn, hst, hob, ha, hs, hl⟩ := obj_at s1 q1 z
    split at h1
    · next d hd =>
      obtain ⟨u, hu, hq⟩ := hs.get hd
      obtain ⟨c1, c2⟩ := g.dsk hob
      exact ⟨a, C.dk, dx, _, u, rfl, ha, c1, c2 f (List.mem_of_getElem? hi), fl_lookup hi vs u hl hu, Post.val h1 s1 hq⟩
    · exact h1.elim
  · exact h1.elim
/-- the tree of a method's call -/
def recvB : Expr → Bool
  | .Name .. => true
  | .Call (.Name ..) (_ :: _) _ _ => true
  | _ => false
theorem recv_of {o : Expr} {nm : Str} {env : PySem.Env} {w : Sem Value} (h : recvB o = true) : attributeBase o nm env w = w := by
  unfold recvB at h
  split at h
  · rfl
  · rfl
  · cases h
theorem meth_tree {o : Expr} {m : Str} {apos pos : Pos} {es : List Expr} {env : PySem.Env} (hb : recvB o = true) (hp : es.all plainE = true) (hn : es.length < 30) (hl : (apos.endLine == pos.line) = true) :
    eval (.Call (.Attribute o m apos) es [] pos) env = (do
      let ov ← eval o env
      standAt apos.atName
      let (f, first) ← holding [ov] (getMethod ov m (do return (← importBound o env).getD true))
      callWith pos f first (backTo pos (starEach es env)) (backToKw pos (keywordEach [] env))) := by
  refine L2.mcall_of (recv_of hb) fun ov => ?_
  have hany := plain_any (pos := pos) (env := env) hp
  have hform : methodCallForm (es.length + ([] : List Keyword).length) (backTo pos (starEach es env)) (backToKw pos (keywordEach [] env)) = true := by
    unfold methodCallForm
    have e1 : (backTo pos (starEach es env)).all (!·.1) = true := by
      rw [List.all_eq_true]
      intro x hx
      have := List.any_eq_false.mp hany x hx
      simpa using this
    rw [e1]
    have e2 : backToKw pos (keywordEach [] env) = [] := rfl
    rw [e2]
    simp only [List.all_nil, Bool.true_and, List.isEmpty_nil, if_true, List.length_nil, Nat.add_zero, decide_eq_true_eq]
    exact hn
  unfold methodCall
  rw [hform]
  unfold methodCallPos calleeOf
  rw [hl]
  rfl
/-- o.m(..) -/
theorem sMeth (g : Good C G F k X E) {f : Nat} {m : Str} {o : Expr} {es : List Expr} {ca : Rt.E} {cs : Es} {apos pos : Pos} (hf : G.fnm f = some m) (hM : isM f = true) (hnf : m ∉ deskFl) (ho : PE X o (rdE C F ca E)) (hes : PA X es (rdEs C F cs E)) (hp : es.all plainE = true) (hb : recvB o = true) (hn : es.length < 30) (hl : (apos.endLine == pos.line) = true) (hnil : es = [] → cs = .nil) :
    PE X (.Call (.Attribute o m apos) es [] pos) (rdE C F (.meth f ca cs) E) := by
  obtain ⟨fa, fd, ps, hm, hbd, hF, hlen⟩ := g.mth f m hf hM
  obtain ⟨L, env0, outer0, hstk, hf0, hfr, tk⟩ := g.tk
  have tree := meth_tree (m := m) (env := X.env) hb hp hn hl
  cases hob : C.ob with
  | false =>
    refine ⟨fun pins s σ H Q I ⟨H0, mu0, r, st, mu, R, h⟩ => ?_⟩
    unfold ev at h
    have key := ho.run pins s σ H (fun _ _ => False) I ⟨H0, mu0, r, st, mu, R, Post.bind h fun x st1 v H1 mu1 e1 s1 q1 h1 => by
      split at h1
      · next z =>
        obtain ⟨n, fs, z⟩ := some_ob z
        obtain ⟨_, _, _, _, _, _, _, c, _⟩ := obj_at s1 q1 z
        rw [hob] at c; cases c
      · exact h1.elim⟩
    rw [tree]
    exact wpAny_bind (thn key fun u s1 ⟨_, _, _, _, z⟩ => z.elim)
  | true =>
    obtain ⟨c1, c2⟩ := g.dsk hob
    have fin : ∀ (σ : L2.St) (H : Hp) (Q : VK), rdE C F (.meth f ca cs) E σ H Q → tMeth C.dk m (spec C (F f) ps.length) [] E (rdE C F ca E) (rdEs C F cs E) σ H Q := fun σ H Q ⟨H0, mu0, r, st, mu, R, h⟩ => by
      unfold ev at h
      refine ⟨H0, mu0, r, st, mu, R, Post.bind h fun x st1 v H1 mu1 e1 s1 q1 h1 => ?_⟩
      split at h1
      · next z =>
        obtain ⟨n, fs, z⟩ := some_ob z
        obtain ⟨a, dx, vs, rfl, rfl, hmu, hst, _, ha, hs, hl⟩ := obj_at s1 q1 z
        refine ⟨a, dx, _, rfl, ha, fl_none hnf _ _ (fun _ h => h), H0, mu0, r, st1, mu1, R.step e1 s1, Post.bind h1 fun ds st2 ws H2 mu2 e2 s2 q2 h2 => ?_⟩
        rw [List.append_nil]
        have q3 : SdA C.K H2 mu2 (V.ref a :: ws) (D.cell n :: ds) := .cons (q1.mono e2) q2
        by_cases hz : (D.cell n :: ds).length = ps.length
        · exact ⟨by rw [q3.length, hz], D.cell n :: ds, st2, mu2, q3, s2, h2⟩
        · rw [hlen _ st2 hz] at h2
          exact h2.elim
      · exact h1.elim
    cases es with
    | nil =>
      obtain rfl := hnil rfl
      refine peImp (pe_meth0 (dvs := []) ho c1 hm hF (g.room.mono (Nat.le_succ _)) hbd .nil (passesL tk (fun _ _ _ _ z => z)) tree) fun σ H Q h => ?_
      have h2 := fin σ H Q h
      unfold tMeth at h2 ⊢
      obtain ⟨H0, mu0, r, st, mu, R, h2⟩ := h2
      refine ⟨H0, mu0, r, st, mu, R, Post.impR h2 fun v H' ⟨a, dx, fs, z1, z2, z3, z4⟩ => ⟨a, dx, fs, z1, z2, z3, ?_⟩⟩
      obtain ⟨H0', mu0', r', st', mu', R', z4⟩ := z4
      rw [evs] at z4
      exact Post.here z4 R'.srel .nil
    | cons e es =>
      rw [List.all_cons, Bool.and_eq_true] at hp
      exact peImp (pe_meth (dvs := []) ho c1 hm hF (g.room.mono (Nat.le_succ _)) hbd .nil (passesL tk (fun _ _ _ _ z => z)) hes (plain_star hp.1) (plain_any hp.2) tree) fin
/-- Desk(..) -/
theorem sMake (g : Good C G F k X E) {f : Nat} {e : Expr} {es : List Expr} {cs : Es} {p pos : Pos} (hf : G.fnm f = some "__init__") (hM : isM f = true) (hg : Gl X "Desk") (hes : PA X (e :: es) (rdEs C F cs E)) (hp : (e :: es).all plainE = true) :
    PE X (.Call (.Name "Desk" p) (e :: es) [] pos) (rdE C F (.make f cs) E) := by
  obtain ⟨hob, hm, fa, fd, ps, hmk, hbd, hF, hlen⟩ := g.mke f hf hM
  obtain ⟨L, env0, outer0, hstk, hf0, hfr, tk⟩ := g.tk
  rw [List.all_cons, Bool.and_eq_true] at hp
  refine peImp (pe_make (dvs := []) hmk hF g.room hg hm hbd .nil (passesL tk (fun _ _ _ _ z => z)) hes (by decide +kernel) (plain_star hp.1) (plain_any hp.2)) fun σ H Q ⟨H0, mu0, r, st, mu, R, h⟩ => ?_
  unfold ev at h
  refine ⟨H0, mu0, r, st, mu, R, Post.bind h fun ds st1 vs H1 mu1 e1 s1 q1 h1 => ?_⟩
  intro x dx hx hdx hne
  rw [List.append_nil]
  obtain ⟨ex, s2⟩ := s1.push (H1 := upd (upd H1 dx (.own x)) x (.ins C.dk dx [])) (p := x) (ds := [.ob]) hx (fun b o hb => by rw [upd_ne (ne_of_none hb hx), upd_ne (ne_of_none hb hdx)]; exact hb) ⟨hob, dx, [], by rw [upd_same]; rfl, .nil, by simp⟩
  have hc : (mu1 ++ [x])[st1.length]? = some x := by
    rw [← s1.len, List.getElem?_append_right (Nat.le_refl _)]
    simp
  have q3 : SdA C.K (upd (upd H1 dx (.own x)) x (.ins C.dk dx [])) (mu1 ++ [x]) (V.ref x :: vs) (D.cell st1.length :: ds) := .cons (.cell hc) (q1.mono ex)
  have h2 := Post.mono h1 ex
  by_cases hz : (D.cell st1.length :: ds).length = ps.length
  · refine ⟨by rw [q3.length, hz], _, _, _, q3, s2, ?_⟩
    refine Post.bind h2 fun v' st2 u H2 mu2 e2 s3 q4 h3 => ?_
    unfold makeK at h3
    split at h3
    · next hnon =>
      cases v' with
      | non =>
        have hu : u = .non := by cases q4; rfl
        exact ⟨hu, Post.val h3 s3 ((Sd.cell hc : Sd C.K _ _ (.ref x) (.cell st1.length)).mono e2)⟩
      | _ => cases hnon
    · exact h3.elim
  · rw [hlen _ _ hz] at h2
    exact h2.elim
theorem len_In {prog : Program} {w : World} {A : Around} {E : Value → Shared → Prop} {s : Shared} {K : PySem.W.Frag} {x C f : Addr} {ox : Obj} {od : Option Obj} {Q : Value → Shared → Prop} (Xk : K.In s.heap) (I : PySem.W.InstAt s.heap x ox C od) (hs : PySem.W.findIn K (.ref C) "__len__" = some (some (.ref f))) (hf : PySem.W.isFn K (.ref f) = true)
    (h : wpAny (model prog w) A.in1 (call (.ref f) [.ref x]) (PySem.W.LenBack Q) E s) : wpAny (model prog w) A (call (.builtin "len") [.ref x]) Q E s := by
  refine Calls.call_function_entry kind_len plain_len entry_len (args_len1 _) ?_
  unfold Builtin.«len»
  refine wpAny_bind (m := oneArg "len" _) (wpAny_pure ?_)
  refine wpAny_bind (m := callSpecial? (.ref x) (Str.ofString "__len__")) (PySem.W.special_fn Xk I hs (beq_iff_eq.mp hf) (wpAny_mono h (fun r s' hr => ?_) fun _ _ y => y))
  cases r <;> first | exact hr.elim | skip
  rename_i n u
  obtain ⟨⟨h0, h1⟩, hq⟩ := hr
  refine wpAny_bind (wpAny_holding (wpAny_pure ?_))
  refine wpAny_bind (wpAny_letGo ?_)
  show wpAny _ _ (if n < 0 then _ else _) _ _ _
  rw [if_neg (by omega)]
  show wpAny _ _ (if n ≥ 2 ^ 63 then _ else _) _ _ _
  rw [if_neg (by omega)]
  exact wpAny_bind (wpAny_mkInt (wpAny_pure ⟨_, rfl, hq⟩))
def rLenO (dk : Addr) (sp : Sp) (E : XK) : List V → Hp → VK → Prop := fun xs H Q => ∃ a dx fs, xs = [.ref a] ∧ H a = some (.ins dk dx fs) ∧ sp [.ref a] H (fun v H' => ∃ i : Int, v = .int i ∧ 0 ≤ i ∧ i < 1000000 ∧ Q (.int i) H') E
theorem call_lenO {dk fa : Addr} {fd : FuncData} {ps : List Str} {sp : Sp} {j : Nat} (hm : Meth X.K dk "__len__" fa) (hb : Binds X.K fd ps []) (hF : FnOk X.prog X.w X.K X.mg X.base (L2N.CX X.prog X.w) j fa fd ps sp) (hr : Room (j + 1) X.A) (hx : Passes (L2N.CX X.prog X.w) X E) : CallR X (.builtin "len") (rLenO dk sp E) := by
  intro pins s σ H xs us Q I r ⟨a, dx, fs, e1, ha, h⟩
  subst e1
  cases r with
  | cons r1 r2 =>
    cases r2
    obtain rfl := (show _ = Value.ref a from r1)
    obtain ⟨mA, O, _, _, _, _⟩ := ins_get I.hok ha
    obtain ⟨od, J, hl⟩ := O.look
    refine len_In I.kIn J hm.at_ hm.fn ?_
    have hlen : [Value.ref a].length = ps.length := by
      have := hF.len _ _ _ _ h
      exact this
    have b := hb s [.ref a] I.kIn (by rw [List.append_nil]; exact hlen)
    rw [List.append_nil] at b
    refine wpAny_call (codeAny_mono (hF.run _ X.stack s H ⟨[.ref a], []⟩ [.ref a] [.ref a] _ E hr.in1 I.env0.in1 b (.cons rfl .nil) h) fun r s' hq => ?_)
    cases r with
    | error e => exact hx pins σ H s e s' I hq
    | ok fl =>
      cases fl with
      | ret u =>
        obtain ⟨v, H', I2, rv, i, rfl, h0, h1, hQ⟩ := I.after hq
        obtain ⟨t, rfl⟩ := (show ∃ t, u = Value.int i t from rv)
        refine ⟨⟨h0, by omega⟩, .int i, H', I2.tok _, ⟨_, rfl⟩, hQ⟩
      | next => exact False.elim hq
      | brk => exact False.elim hq
      | cont => exact False.elim hq
theorem sLenO (g : Good C G F k X E) {f : Nat} {o : Expr} {ca : Rt.E} {p pos : Pos} (hf : G.fnm f = some "__len__") (hM : isM f = true) (hg : Gl X "len") (ho : PE X o (rdE C F ca E)) (hp : plainE o = true) :
    PE X (.Call (.Name "len" p) [o] [] pos) (rdE C F (.lenO f ca) E) := by
  obtain ⟨fa, fd, ps, hm, hbd, hF, hlen⟩ := g.mth f _ hf hM
  obtain ⟨L, env0, outer0, hstk, hf0, hfr, tk⟩ := g.tk
  have hm0 : X.mg "len" = none := g.blt _ (by decide +kernel)
  refine peImp (pe_callB (call_lenO hm hbd hF g.room (passesL tk (fun _ _ _ _ z => z))) hg hm0 (by decide +kernel) (pa_cons ho pa_nil (plain_star hp)) (by decide +kernel) (by decide +kernel) (plain_star hp) (by rfl)) fun σ H Q ⟨H0, mu0, r, st, mu, R, h⟩ => ?_
  unfold ev at h
  refine ⟨H0, mu0, r, st, mu, R, Post.bind h fun x st1 v H1 mu1 e1 s1 q1 h1 => ?_⟩
  split at h1
  · next z =>
    obtain ⟨n, fs, z⟩ := some_ob z
    obtain ⟨a, dx, vs, rfl, rfl, hmu, hst, _, ha, hs, hl⟩ := obj_at s1 q1 z
    refine ⟨a, dx, _, rfl, ha, ?_⟩
    have q3 : SdA C.K H1 mu1 [V.ref a] [D.cell n] := .cons q1 .nil
    by_cases hz : ([D.cell n] : List D).length = ps.length
    · refine ⟨by rw [q3.length, hz], _, _, _, q3, s1, Post.bind h1 fun y st2 w H2 mu2 e2 s2 q2 h2 => ?_⟩
      unfold lenK at h2
      split at h2
      · next i hi =>
        unfold lenI at hi
        split at hi
        · split at hi
          · next hb =>
            cases hi
            cases q2.cInt
            exact ⟨i, rfl, hb.1, hb.2, Post.val h2 s2 (.int i)⟩
          · cases hi
        · cases hi
      · exact h2.elim
    · rw [hlen _ _ hz] at h1
      exact h1.elim
  · exact h1.elim
end
end Rt
set_option maxHeartbeats 2000000
namespace Rt
open PySem PySem.Spec PyProof.Rows L2
def isxName (c : Nat) : Str := if c = 12 then "ValueError" else excName c
def rIsX (K : PySem.W.Frag) : List V → Hp → VK → Prop := fun xs H Q => ∃ (dC a : Addr) (c : V) (cv : Value) (b : Bool), xs = [.ref a, c] ∧ ExcC K dC ∧ H a = some (excV (.ref dC) a) ∧ (∀ u, RelV c u → u = cv) ∧ PySem.W.kitOne K (.ref dC) cv = some b ∧ Q (.bl b) H
theorem call_isX {X : Cx} : CallR X (.builtin "isinstance") (rIsX X.K) := by
  intro pins s σ H xs us Q I r h
  obtain ⟨dC, a, c, cv, b, rfl, hC, ha, hcv, hk, q⟩ := h
  cases r with
  | cons r1 r2 =>
    cases r2 with
    | cons r3 r4 =>
      cases r4
      cases r1
      obtain rfl := hcv _ r3
      obtain ⟨⟨oe, vs, hget, hz, hd⟩, _, _⟩ := I.hok a _ ha
      have J : PySem.W.InstAt s.heap a oe dC none := by
        obtain ⟨o1, o2, o3, o4⟩ := oe
        obtain ⟨e1, e2, _⟩ := hz
        dsimp only at e1 e2 hd
        subst e1 e2 hd
        exact ⟨hget, rfl, rfl, trivial⟩
      have kx := PySem.W.handS_kitx_exc (x := a) (ox := oe) hC.hg hC.hk hC.hs hC.hd hC.ha hC.hn hC.ht hC.hm
      exact PySem.W.kia_one kx I.kIn J hk (fun z => nomatch z) fun n => ⟨.bl b, H, I.kept (t' := n) fun _ _ z => z, rfl, q⟩
section
variable {C : Cn} {G : Gam} {F : Nat → List D → Sto → Res D} {k : Nat} {X : Cx} {E : XK}
theorem ve_bootX : bootBuiltins "ValueError" = some (.type "ValueError") := by decide +kernel
theorem exc_dbgX {c : Nat} (h : c < 12) : (excName c == ("__debug__" : Str)) = false := by
  have : c = 0 ∨ c = 1 ∨ c = 2 ∨ c = 3 ∨ c = 4 ∨ c = 5 ∨ c = 6 ∨ c = 7 ∨ c = 8 ∨ c = 9 ∨ c = 10 ∨ c = 11 := by omega
  rcases this with z | z | z | z | z | z | z | z | z | z | z | z <;> subst z <;> decide +kernel
theorem isx_arg (g : Good C G F k X E) {c : Nat} {p : Pos} (hc : c ≤ 12) (hg : Gl X (isxName c)) : ∃ v cv, PE X (.Name (isxName c) p) (tC v) ∧ (∀ u, RelV v u → u = cv) ∧ ∀ n, n < 12 → PySem.W.kitOne X.K (.ref (C.ca n)) cv = some (c == 12 || c == n) := by
  by_cases h : c = 12
  · subst h
    have e : isxName 12 = "ValueError" := rfl
    rw [e] at hg ⊢
    exact ⟨.ty "ValueError", .type "ValueError", pe_bltn hg g.xi.ve ve_bootX rfl (by decide) (by decide +kernel), fun _ z => z, fun n hn => (g.xi.exc n hn).2.1⟩
  · have h12 : c < 12 := by omega
    have e : isxName c = excName c := if_neg h
    rw [e] at hg ⊢
    refine ⟨.ref (C.ca c), .ref (C.ca c), pe_glob hg (g.xi.cls c h12) rfl (exc_dbgX h12), fun _ z => z, fun n hn => ?_⟩
    rw [(g.xi.exc n hn).2.2 c h12]
    have : (c == 12) = false := by simpa using h
    rw [this, Bool.false_or]
    rfl
theorem sIsx (g : Good C G F k X E) {c : Nat} {a : Expr} {ca : Rt.E} {p p2 pos : Pos} (hc : c ≤ 12) (hg : Gl X "isinstance") (hg2 : Gl X (isxName c)) (ha : PE X a (rdE C F ca E)) (hp : plainE a = true) : PE X (.Call (.Name "isinstance" p) [a, .Name (isxName c) p2] [] pos) (rdE C F (.isx c ca) E) := by
  have hm0 : X.mg "isinstance" = none := g.blt _ (by decide +kernel)
  obtain ⟨v2, cv, h1, h2, h3⟩ := isx_arg (p := p2) g hc hg2
  refine peImp (pe_callB call_isX hg hm0 boot_isinstance (pa_cons ha (pa_cons h1 pa_nil (by rfl)) (plain_star hp)) (by decide) (by decide) (plain_star hp) (by rfl)) fun σ H Q ⟨H0, mu0, r, st, mu, R, h⟩ => ?_
  unfold ev at h
  refine ⟨H0, mu0, r, st, mu, R, Post.bind h fun x st1 v H1 mu1 e1 s1 q1 h4 => ?_⟩
  cases x with
  | exc n =>
    simp only [isxD] at h4
    split at h4
    · next hn =>
      cases q1 with
      | exc hx =>
        refine ⟨C.ca n, _, v2, cv, _, rfl, (g.xi.exc n hn).1, ?_, h2, h3 n hn, Post.val h4 s1 (.bl _)⟩
        rw [g.hca n]
        exact hx
    · exact h4.elim
  | _ => exact h4.elim
end
end Rt
set_option maxHeartbeats 4000000
namespace Rt
open PySem PySem.Spec PyProof.Rows L2
def visB (sc : Scope) (x : Str) : Bool := match sc.names.lookup x with
  | some .local => true
  | some .cell => true
  | some .free => true
  | _ => false
def glB (sc : Scope) (x : Str) : Bool := match sc.names.lookup x with
  | some .globalImplicit => true
  | _ => false
/-- a name that a block or a def may store -/
def locB (sc : Scope) (x : Str) : Bool := match sc.names.lookup x with
  | some .local => true
  | some .cell => true
  | _ => false
def ownL (N : List Str) (own : List Nat) : List (Str × Nat) := own.filterMap fun i => (N[i]?).map fun x => (x, i)
def opB : Bop → Operator → Bool
  | .add, .Add => true | .sub, .Sub => true | .mul, .Mult => true | .fdiv, .FloorDiv => true | .mod, .Mod => true | .pow, .Pow => true
  | _, _ => false
theorem opB_eq {a : Bop} {b : Operator} (h : opB a b = true) : b = opOf a := by cases a <;> cases b <;> first | rfl | cases h
def cmpB : Cop → CmpOp → Bool
  | .lt, .Lt => true | .le, .LtE => true | .gt, .Gt => true | .ge, .GtE => true | .eq, .Eq => true | .ne, .NotEq => true | .isn, .Is => true | .notn, .IsNot => true | .nin, .NotIn => true | .inn, .In => true
  | _, _ => false
theorem cmpB_eq {a : Cop} {b : CmpOp} (h : cmpB a b = true) : b = cmpOf a := by cases a <;> cases b <;> first | rfl | cases h
section
variable (N : List Str) (fnm : Nat → Option Str)
mutual
def ckE : E → Scope → Expr → Bool
  | .var i, sc, .Name x _ => decide (N[i]? = some x) && visB sc x
  | .int i, _, .Constant (.int j) _ _ => decide (i = j)
  | .bl i, _, .Constant (.bool j) _ _ => decide (i = j)
  | .non, _, .Constant .none _ _ => true
  | .str i, _, .Constant (.str j) _ _ => decide (i = j)
  | .tup es, sc, .Tuple xs _ _ => decide (es.len ≤ 1000) && ckEs es sc xs
  | .lst es, sc, .List xs _ => decide (es.len ≤ 1000) && ckEs es sc xs
  | .cel es, sc, .List xs _ => decide (es.len ≤ 1000) && ckEs es sc xs
  | .bin op a b, sc, .BinOp x o y _ => opB op o && (ckE a sc x && ckE b sc y)
  | .rep es b, sc, .BinOp (.List xs _) .Mult y _ => decide (es.len ≤ 1000) && (ckEs es sc xs && ckE b sc y)
  | .neg a, sc, .UnaryOp .USub x _ => ckE a sc x
  | .not a, sc, .UnaryOp .Not x _ => ckE a sc x
  | .cmp op a b, sc, .Compare x [o] [y] _ => cmpB op o && (ckE a sc x && ckE b sc y)
  | .chain o1 o2 a b c, sc, .Compare x [p1, p2] [y, z] _ => cmpB o1 p1 && (cmpB o2 p2 && (ckE a sc x && (ckE b sc y && ckE c sc z)))
  | .and a b, sc, .BoolOp .And [x, y] _ => ckE a sc x && ckE b sc y
  | .and a b, sc, .BoolOp .And (x :: y :: z :: r) p => ckE a sc x && ckE b sc (.BoolOp .And (y :: z :: r) p)
  | .or a b, sc, .BoolOp .Or [x, y] _ => ckE a sc x && ckE b sc y
  | .or a b, sc, .BoolOp .Or (x :: y :: z :: r) p => ckE a sc x && ckE b sc (.BoolOp .Or (y :: z :: r) p)
  | .ite c a b, sc, .IfExp t x y _ => ckE c sc t && (ckE a sc x && ckE b sc y)
  | .slice a lo hi, sc, .Subscript x (.Slice l h none _) _ => ckE a sc x && (ckO lo sc l && ckO hi sc h)
  | .rev a, sc, .Subscript x (.Slice none none (some (.UnaryOp .USub (.Constant (.int 1) _ _) _)) _) _ => ckE a sc x
  | .sub a b, sc, .Subscript x y _ => ckE a sc x && ckE b sc y
  | .subo i b, sc, .Subscript (.Name x _) y _ => decide (N[i]? = some x) && (visB sc x && ckE b sc y)
  | .call f es, sc, .Call (.Name x _) (e :: r) [] _ => decide (fnm f = some x) && (!isM f && (glB sc x && ckEs es sc (e :: r)))
  | .bi (.isi t) (.cons c .nil), sc, .Call (.Name x _) [e, .Name y _] [] _ => decide (x = "isinstance") && (decide (y = tyName t) && (glB sc x && (glB sc y && ckE c sc e)))
  | .bi b es, sc, .Call (.Name x _) (e :: r) [] _ => decide ((biName b).map (·.1) = some x) && (glB sc x && ckEs es sc (e :: r))
  | .comp tg it cond elt own, sc, .ListComp e [⟨tg', iter, ifs, n⟩] scope _ => decide (n = 0) && (blkC N sc scope (ownL N own) && (decide ((ownL N own).map (·.2) = own) && (tg.slots.all (fun i => decide (i ∈ own)) && (ckT N (locB scope) tg tg' &&
      (ckI it sc tg' iter && (ckC cond (relS scope sc) ifs && ckE elt (relS scope sc) e))))))
  | .comp2 tg it tg2 it2 elt own own2, sc, .ListComp e [⟨tg', iter, [], n⟩, ⟨tg2', iter2, [], n2⟩] scope _ => decide (n = 0) && (decide (n2 = 0) && (blkC N sc scope (ownL N own) && (decide ((ownL N own).map (·.2) = own) && (tg.slots.all (fun i => decide (i ∈ own)) && (tg2.slots.all (fun i => decide (i ∈ own2)) && (own2.all (fun i => decide (i ∈ own)) &&
      (ckT N (locB scope) tg tg' && (ckT N (locB scope) tg2 tg2' && (ckI it sc tg' iter && (ckI it2 (relS scope sc) tg2' iter2 && ckE elt (relS scope sc) e))))))))))
  | .m1 m a b, sc, .Call (.Attribute o nm apos) [e] [] pos => decide (nm = mtName m) && (baseE o && ((apos.endLine == pos.line) && (ckE a sc o && ckE b sc e)))
  | .compX tg it elt own, sc, .ListComp e [⟨tg', iter, [], n⟩] scope _ => decide (n = 0) && (blkC N sc scope (ownL N own) && (decide ((ownL N own).map (·.2) = own) && (tg.slots.all (fun i => decide (i ∈ own)) && (ckT N (locB scope) tg tg' &&
      (ckI it sc tg' iter && ckE elt (relS scope sc) e)))))
  | .fld i a, sc, .Attribute o nm _ => decide (deskFl[i]? = some nm) && (baseE o && ckE a sc o)
  | .meth f a es, sc, .Call (.Attribute o nm apos) xs [] pos => decide (fnm f = some nm) && (isM f && (!decide (nm ∈ deskFl) && (recvB o && (decide (xs.length < 30) && ((apos.endLine == pos.line) && (ckE a sc o && ckEs es sc xs))))))
  | .make f es, sc, .Call (.Name x _) (e :: r) [] _ => decide (fnm f = some "__init__") && (isM f && (decide (x = "Desk") && (glB sc x && ckEs es sc (e :: r))))
  | .lenO f a, sc, .Call (.Name x _) [e] [] _ => decide (fnm f = some "__len__") && (isM f && (decide (x = "len") && (glB sc x && ckE a sc e)))
  | .isx c a, sc, .Call (.Name x _) [e, .Name y _] [] _ => decide (x = "isinstance") && (decide (y = isxName c) && (decide (c ≤ 12) && (glB sc x && (glB sc y && ckE a sc e))))
  | _, _, _ => false
def ckEs : Es → Scope → List Expr → Bool
  | .nil, _, [] => true
  | .cons c cs, sc, e :: es => ckE c sc e && ckEs cs sc es
  | _, _, _ => false
def ckO : Oe → Scope → Option Expr → Bool
  | .none, _, none => true
  | .some c, sc, some e => ckE c sc e
  | _, _, _ => false
def ckC : Oe → Scope → List Expr → Bool
  | .none, _, [] => true
  | .some c, sc, [e] => ckE c sc e
  | _, _, _ => false
def ckI : It → Scope → Expr → Expr → Bool
  | .val c, sc, _, e => ckE c sc e
  | .rng1 a, sc, _, .Call (.Name x _) [e] [] _ => decide (x = "range") && (glB sc x && ckE a sc e)
  | .rng2 a b, sc, _, .Call (.Name x _) [e, f] [] _ => decide (x = "range") && (glB sc x && (ckE a sc e && ckE b sc f))
  | .rng3 a b c, sc, _, .Call (.Name x _) [e, f, g] [] _ => decide (x = "range") && (glB sc x && (ckE a sc e && (ckE b sc f && ckE c sc g)))
  | .enum a, sc, .Tuple _ _ _, .Call (.Name x _) [e] [] _ => decide (x = "enumerate") && (glB sc x && ckE a sc e)
  | .zip a b, sc, .Tuple _ _ _, .Call (.Name x _) [e, f] [] _ => decide (x = "zip") && (glB sc x && (ckE a sc e && ckE b sc f))
  | _, _, _, _ => false
end
end
theorem vis_of {sc : Scope} {x : Str} (h : visB sc x = true) : Vis sc x := by
  unfold visB at h
  split at h
  · next z => exact .inl z
  · next z => exact .inr (.inl z)
  · next z => exact .inr (.inr z)
  · cases h
theorem gl_of {X : Cx} {x : Str} (h : glB X.env.scope x = true) : Gl X x := by
  unfold glB at h
  split at h
  · next z => exact z
  · cases h
theorem ck_plain {N : List Str} {fnm : Nat → Option Str} {c : E} {sc : Scope} {e : Expr} (h : ckE N fnm c sc e = true) : plainE e = true := by
  cases e with
  | Starred a p => cases c <;> unfold ckE at h <;> first | cases h | (split at h <;> contradiction)
  | Slice a b c' p => cases c <;> unfold ckE at h <;> first | cases h | (split at h <;> contradiction)
  | Set a b p => cases c <;> unfold ckE at h <;> first | cases h | (split at h <;> contradiction)
  | _ => rfl
theorem cks_plain {N : List Str} {fnm : Nat → Option Str} : ∀ {cs : Es} {sc : Scope} {es : List Expr}, ckEs N fnm cs sc es = true → es.all plainE = true
  | .nil, _, [], _ => rfl
  | .nil, _, _ :: _, h => by simp [ckEs] at h
  | .cons _ _, _, [], h => by simp [ckEs] at h
  | .cons c cs, sc, e :: es, h => by
    simp only [ckEs, Bool.and_eq_true] at h
    rw [List.all_cons, ck_plain h.1, cks_plain h.2]; rfl
theorem cki_plain {N : List Str} {fnm : Nat → Option Str} {c : It} {sc : Scope} {tg e : Expr} (h : ckI N fnm c sc tg e = true) : plainE e = true := by
  cases c with
  | val c => simp only [ckI] at h; exact ck_plain h
  | _ => unfold ckI at h; split at h <;> first | rfl | contradiction
theorem loc_blk {sc scope : Scope} {x : Str} (h : locB scope x = true) : Loc (relS scope sc) x ∧ ((scope.names.lookup x == some .cell) = true ∨ (relS scope sc).names.lookup x = some .local) := by
  unfold locB at h
  split at h
  · next z =>
    have := lookup_relS_keep (sc := sc) (k := .local) (by decide) z
    exact ⟨.inl this, .inr this⟩
  · next z =>
    have := lookup_relS_keep (sc := sc) (k := .cell) (by decide) z
    exact ⟨.inr this, .inl (by rw [z]; decide)⟩
  · cases h
section
variable {C : Cn} {G : Gam} {F : Nat → List D → Sto → Res D} {k : Nat}
abbrev Both (C : Cn) (F : Nat → List D → Sto → Res D) (X : Cx) (E : XK) (c : Rt.E) (e : Expr) : Prop := PE X e (rdE C F c E) ∧ PT X e (rdT C F c E)
theorem pt_pw {X : Cx} {op : BoolOp} {es : List Expr} {pos : Pos} {t : TT} (h : PT X (.BoolOp op es pos) t) : PW X (.BoolOp op es pos) t := ⟨fun wh pins s σ H Q I q => by
  have e1 : PySem.isTrue (.BoolOp op es pos) X.env wh = PySem.isTrue (.BoolOp op es pos) X.env (eval (.BoolOp op es pos) X.env) := by rw [PySem.isTrue, PySem.isTrue]
  rw [e1]
  exact h.run pins s σ H Q I q⟩
theorem both {X : Cx} {E : XK} {c : Rt.E} {e : Expr} (h : PE X e (rdE C F c E)) (he : ∀ whole, PySem.isTrue e X.env whole = (do let v ← whole; standAt e.pos; holding [v] (truthy v))) : Both C F X E c e := ⟨h, tVal h he⟩
mutual
theorem sndE : ∀ (c : Rt.E) (X : Cx) (E : XK) (e : Expr), Good C G F k X E → ckE G.N G.fnm c X.env.scope e = true → Both C F X E c e
  | .var i, X, E, e, g, h => by
    unfold ckE at h
    split at h <;> first | contradiction | skip
    all_goals (rename_i z; cases z)
    simp only [Bool.and_eq_true, decide_eq_true_eq] at h
    exact both (sVar g h.1 (vis_of h.2)) fun _ => rfl
  | .int i, X, E, e, g, h => by
    unfold ckE at h
    split at h <;> first | contradiction | skip
    all_goals (rename_i z; cases z)
    simp only [decide_eq_true_eq] at h
    subst h
    exact both sInt fun _ => rfl
  | .bl i, X, E, e, g, h => by
    unfold ckE at h
    split at h <;> first | contradiction | skip
    all_goals (rename_i z; cases z)
    simp only [decide_eq_true_eq] at h
    subst h
    exact both sBl fun _ => rfl
  | .non, X, E, e, g, h => by
    unfold ckE at h
    split at h <;> first | contradiction | skip
    all_goals (rename_i z; cases z)
    exact both sNon fun _ => rfl
  | .str i, X, E, e, g, h => by
    unfold ckE at h
    split at h <;> first | contradiction | skip
    all_goals (rename_i z; cases z)
    simp only [decide_eq_true_eq] at h
    subst h
    exact both sStr fun _ => rfl
  | .tup es, X, E, e, g, h => by
    unfold ckE at h
    split at h <;> first | contradiction | skip
    all_goals (rename_i z; cases z)
    simp only [Bool.and_eq_true, decide_eq_true_eq] at h
    exact both (sTup (sndEs es X E _ g h.2) h.1) fun _ => rfl
  | .lst es, X, E, e, g, h => by
    unfold ckE at h
    split at h <;> first | contradiction | skip
    all_goals (rename_i z; cases z)
    simp only [Bool.and_eq_true, decide_eq_true_eq] at h
    exact both (sLst (sndEs es X E _ g h.2) h.1) fun _ => rfl
  | .cel es, X, E, e, g, h => by
    unfold ckE at h
    split at h <;> first | contradiction | skip
    all_goals (rename_i z; cases z)
    simp only [Bool.and_eq_true, decide_eq_true_eq] at h
    exact both (sCel (sndEs es X E _ g h.2) h.1) fun _ => rfl
  | .bin op a b, X, E, e, g, h => by
    unfold ckE at h
    split at h <;> first | contradiction | skip
    all_goals (rename_i z; cases z)
    simp only [Bool.and_eq_true] at h
    rw [opB_eq h.1]
    exact both (sBin g (sndE a X E _ g h.2.1).1 (sndE b X E _ g h.2.2).1) fun _ => rfl
  | .rep es b, X, E, e, g, h => by
    unfold ckE at h
    split at h <;> first | contradiction | skip
    all_goals (rename_i z; cases z)
    simp only [Bool.and_eq_true, decide_eq_true_eq] at h
    exact both (sRep (sndEs es X E _ g h.2.1) h.1 (sndE b X E _ g h.2.2).1) fun _ => rfl
  | .neg a, X, E, e, g, h => by
    unfold ckE at h
    split at h <;> first | contradiction | skip
    all_goals (rename_i z; cases z)
    exact both (sNeg (sndE a X E _ g h).1) fun _ => rfl
  | .not a, X, E, e, g, h => by
    unfold ckE at h
    split at h <;> first | contradiction | skip
    all_goals (rename_i z; cases z)
    have := sndE a X E _ g h
    exact ⟨sNot this.1, tNot' this.2⟩
  | .cmp op a b, X, E, e, g, h => by
    unfold ckE at h
    split at h <;> first | contradiction | skip
    all_goals (rename_i z; cases z)
    simp only [Bool.and_eq_true] at h
    rw [cmpB_eq h.1]
    have ha := (sndE a X E _ g h.2.1).1
    have hb := (sndE b X E _ g h.2.2).1
    have hm := plain_mark (op := cmpOf op) (ck_plain h.2.2)
    exact ⟨sCmp g ha hb hm, tCmp g ha hb hm⟩
  | .chain o1 o2 a b c, X, E, e, g, h => by
    unfold ckE at h
    split at h <;> first | contradiction | skip
    all_goals (rename_i z; cases z)
    simp only [Bool.and_eq_true] at h
    rw [cmpB_eq h.1, cmpB_eq h.2.1]
    have ha := (sndE a X E _ g h.2.2.1).1
    have hb := (sndE b X E _ g h.2.2.2.1).1
    have hc := (sndE c X E _ g h.2.2.2.2).1
    exact ⟨sChain g ha hb hc (plain_last (ck_plain h.2.2.2.2)), tChain' g ha hb hc (plain_last (ck_plain h.2.2.2.2))⟩
  | .and a b, X, E, e, g, h => by
    unfold ckE at h
    split at h <;> first | contradiction | skip
    all_goals (rename_i z; cases z)
    · simp only [Bool.and_eq_true] at h
      have ha := sndE a X E _ g h.1
      have hb := sndE b X E _ g h.2
      exact ⟨sAnd ha.1 (pe_one hb.1), (tAnd' ha.2 (pw_and1 hb.2)).pt⟩
    · simp only [Bool.and_eq_true] at h
      have ha := sndE a X E _ g h.1
      have hb := sndE b X E _ g h.2
      exact ⟨sAnd ha.1 hb.1, (tAnd' ha.2 (pt_pw hb.2)).pt⟩
  | .or a b, X, E, e, g, h => by
    unfold ckE at h
    split at h <;> first | contradiction | skip
    all_goals (rename_i z; cases z)
    · simp only [Bool.and_eq_true] at h
      have ha := sndE a X E _ g h.1
      have hb := sndE b X E _ g h.2
      exact ⟨sOr ha.1 (pe_one hb.1), (tOr' ha.2 (pw_or1 hb.2)).pt⟩
    · simp only [Bool.and_eq_true] at h
      have ha := sndE a X E _ g h.1
      have hb := sndE b X E _ g h.2
      exact ⟨sOr ha.1 hb.1, (tOr' ha.2 (pt_pw hb.2)).pt⟩
  | .ite c a b, X, E, e, g, h => by
    unfold ckE at h
    split at h <;> first | contradiction | skip
    all_goals (rename_i z; cases z)
    simp only [Bool.and_eq_true] at h
    have hc := (sndE c X E _ g h.1).2
    have ha := sndE a X E _ g h.2.1
    have hb := sndE b X E _ g h.2.2
    exact ⟨sIte hc ha.1 hb.1, tIte hc ha.2 hb.2⟩
  | .slice a lo hi, X, E, e, g, h => by
    unfold ckE at h
    split at h <;> first | contradiction | skip
    all_goals (rename_i z; cases z)
    simp only [Bool.and_eq_true] at h
    exact both (sSlice g (sndE a X E _ g h.1).1 (sndO lo X E _ g h.2.1) (sndO hi X E _ g h.2.2)) fun _ => rfl
  | .sub a b, X, E, e, g, h => by
    unfold ckE at h
    split at h <;> first | contradiction | skip
    all_goals (rename_i z; cases z)
    simp only [Bool.and_eq_true] at h
    exact both (sSub g (sndE a X E _ g h.1).1 (sndE b X E _ g h.2).1 (ck_plain h.2)) fun _ => rfl
  | .subo i b, X, E, e, g, h => by
    unfold ckE at h
    split at h <;> first | contradiction | skip
    all_goals (rename_i z; cases z)
    simp only [Bool.and_eq_true, decide_eq_true_eq] at h
    exact both (sSubo g h.1 (vis_of h.2.1) (sndE b X E _ g h.2.2).1 (ck_plain h.2.2)) fun _ => rfl
  | .call f es, X, E, e, g, h => by
    unfold ckE at h
    split at h <;> first | contradiction | skip
    all_goals (rename_i z; cases z)
    simp only [Bool.and_eq_true, decide_eq_true_eq] at h
    exact both (sCall g h.1 (by simpa using h.2.1) (gl_of h.2.2.1) (sndEs es X E _ g h.2.2.2) (cks_plain h.2.2.2)) fun _ => rfl
  | .bi b es, X, E, e, g, h => by
    unfold ckE at h
    split at h <;> first | contradiction | skip
    all_goals (rename_i z; cases z)
    · simp only [Bool.and_eq_true, decide_eq_true_eq] at h
      obtain ⟨rfl, rfl, h1, h2, h3⟩ := h
      exact both (sIsi g (gl_of h1) (gl_of h2) (sndE _ X E _ g h3).1 (ck_plain h3)) fun _ => rfl
    · simp only [Bool.and_eq_true, decide_eq_true_eq] at h
      cases z : biName b with
      | none => rw [z] at h; cases h.1
      | some p =>
        rw [z] at h
        have h1 := h.1
        simp only [Option.map_some, Option.some.injEq] at h1
        subst h1
        exact both (sBi g (t := p.2) z (gl_of h.2.1) (sndEs es X E _ g h.2.2) (cks_plain h.2.2)) fun _ => rfl
  | .comp tg it cond elt own, X, E, e, g, h => by
    unfold ckE at h
    split at h <;> first | contradiction | skip
    all_goals (rename_i z; cases z)
    simp only [Bool.and_eq_true, decide_eq_true_eq] at h
    obtain ⟨h0, h1, h2, h3, h4, h5, h6, h7⟩ := h
    subst h0
    refine both (sComp g (ownL := ownL G.N own) (fun i hi => ?_) h2 (sndI it X E _ _ g h5) (blkOk_by (by rw [g.hN]; exact h1)) (cki_plain h5) (fun s H C' cl fp => ?_) (fun s H C' cl fp => ?_) (fun s H C' cl fp => ?_)) fun _ => rfl
    · have := List.all_eq_true.mp h3 i hi
      simpa using this
    · exact sndG (g.blk s H _ _ fp) (fun x hx => loc_blk hx) h4
    · exact sndC cond _ E0 _ (g.blk s H _ (compEnvC _ cl C' X.env) fp) h6
    · exact (sndE elt _ E0 _ (g.blk s H _ (compEnvC _ cl C' X.env) fp) h7).1
  | .rev a, X, E, e, g, h => by
    unfold ckE at h
    split at h <;> first | contradiction | skip
    all_goals (rename_i z; cases z)
    exact both (sRev g (sndE a X E _ g h).1) fun _ => rfl
  | .comp2 tg it tg2 it2 elt own own2, X, E, e, g, h => by
    unfold ckE at h
    split at h <;> first | contradiction | skip
    all_goals (rename_i z; cases z)
    simp only [Bool.and_eq_true, decide_eq_true_eq] at h
    obtain ⟨h0, h00, h1, h2, h3, h3b, h3c, h4, h4b, h5, h5b, h7⟩ := h
    subst h0 h00
    refine both (sComp2 g (ownL := ownL G.N own) (fun i hi => ?_) (fun i hi => ?_) (fun i hi => ?_) h2 (sndI it X E _ _ g h5) (blkOk_by (by rw [g.hN]; exact h1)) (cki_plain h5) (cki_plain h5b) (fun s H C' cl fp => ?_) (fun s H C' cl fp => ?_) (fun s H C' cl fp => ?_) (fun s H C' cl fp => ?_)) fun _ => rfl
    · have := List.all_eq_true.mp h3 i hi
      simpa using this
    · have := List.all_eq_true.mp h3b i hi
      simpa using this
    · have := List.all_eq_true.mp h3c i hi
      simpa using this
    · exact sndG (g.blk s H _ _ fp) (fun x hx => loc_blk hx) h4
    · exact sndI it2 _ E0 _ _ (g.blk s H _ (compEnvC _ cl C' X.env) fp) h5b
    · exact sndG (g.blk s H _ _ fp) (fun x hx => loc_blk hx) h4b
    · exact (sndE elt _ E0 _ (g.blk s H _ (compEnvC _ cl C' X.env) fp) h7).1
  | .told a, X, E, e, g, h => by unfold ckE at h; cases h
  | .m1 m a b, X, E, e, g, h => by
    unfold ckE at h
    split at h <;> first | contradiction | skip
    all_goals (rename_i z; cases z)
    simp only [Bool.and_eq_true, decide_eq_true_eq] at h
    obtain ⟨rfl, h1, h2, h3, h4⟩ := h
    exact both (sM1 g (sndE a X E _ g h3).1 (sndE b X E _ g h4).1 (ck_plain h4) h1 h2) fun _ => rfl
  | .compX tg it elt own, X, E, e, g, h => by
    unfold ckE at h
    split at h <;> first | contradiction | skip
    all_goals (rename_i z; cases z)
    simp only [Bool.and_eq_true, decide_eq_true_eq] at h
    obtain ⟨h0, h1, h2, h3, h4, h5, h7⟩ := h
    subst h0
    refine both (sCompX g (ownL := ownL G.N own) (fun i hi => ?_) h2 (sndI it X E _ _ g h5) (blkOk_by (by rw [g.hN]; exact h1)) (cki_plain h5) (fun Y gY hY hfn => ?_) (fun Y gY hY => ?_)) fun _ => rfl
    · have := List.all_eq_true.mp h3 i hi
      simpa using this
    · exact sndG gY (fun x hx => by rw [hY, hfn]; exact loc_blk hx) h4
    · exact (sndE elt Y E _ gY (by rw [hY]; exact h7)).1
  | .fld i a, X, E, e, g, h => by
    unfold ckE at h
    split at h <;> first | contradiction | skip
    all_goals (rename_i z; cases z)
    simp only [Bool.and_eq_true, decide_eq_true_eq] at h
    exact both (sFldE g h.1 (sndE a X E _ g h.2.2).1 h.2.1) fun _ => rfl
  | .meth f a es, X, E, e, g, h => by
    unfold ckE at h
    split at h <;> first | contradiction | skip
    all_goals (rename_i z; cases z)
    simp only [Bool.and_eq_true, decide_eq_true_eq, Bool.not_eq_true', decide_eq_false_iff_not] at h
    obtain ⟨h1, h2, h3, h4, h5, h6, h7, h8⟩ := h
    exact both (sMeth g h1 h2 h3 (sndE a X E _ g h7).1 (sndEs es X E _ g h8) (cks_plain h8) h4 h5 h6 (fun z => by subst z; cases es with | nil => rfl | cons c cs => simp [ckEs] at h8)) fun _ => rfl
  | .make f es, X, E, e, g, h => by
    unfold ckE at h
    split at h <;> first | contradiction | skip
    all_goals (rename_i z; cases z)
    simp only [Bool.and_eq_true, decide_eq_true_eq] at h
    obtain ⟨h1, h2, rfl, h4, h5⟩ := h
    exact both (sMake g h1 h2 (gl_of h4) (sndEs es X E _ g h5) (cks_plain h5)) fun _ => rfl
  | .lenO f a, X, E, e, g, h => by
    unfold ckE at h
    split at h <;> first | contradiction | skip
    all_goals (rename_i z; cases z)
    simp only [Bool.and_eq_true, decide_eq_true_eq] at h
    obtain ⟨h1, h2, rfl, h4, h5⟩ := h
    exact both (sLenO g h1 h2 (gl_of h4) (sndE a X E _ g h5).1 (ck_plain h5)) fun _ => rfl
  | .met a, X, E, e, g, h => by unfold ckE at h; cases h
  | .isx c a, X, E, e, g, h => by
    unfold ckE at h
    split at h <;> first | contradiction | skip
    all_goals (rename_i z; cases z)
    simp only [Bool.and_eq_true, decide_eq_true_eq] at h
    obtain ⟨rfl, rfl, h1, h2, h3, h4⟩ := h
    exact both (sIsx g h1 (gl_of h2) (gl_of h3) (sndE a X E _ g h4).1 (ck_plain h4)) fun _ => rfl
theorem sndEs : ∀ (c : Es) (X : Cx) (E : XK) (es : List Expr), Good C G F k X E → ckEs G.N G.fnm c X.env.scope es = true → PA X es (rdEs C F c E)
  | .nil, X, E, [], g, h => sNil
  | .nil, X, E, _ :: _, g, h => by simp [ckEs] at h
  | .cons _ _, X, E, [], g, h => by simp [ckEs] at h
  | .cons c cs, X, E, e :: es, g, h => by
    simp only [ckEs, Bool.and_eq_true] at h
    exact sCons (sndE c X E e g h.1).1 (sndEs cs X E es g h.2) (plain_star (ck_plain h.1))
theorem sndO : ∀ (c : Oe) (X : Cx) (E : XK) (e : Option Expr), Good C G F k X E → ckO G.N G.fnm c X.env.scope e = true → PartOk C F X E e c
  | .none, X, E, none, g, h => .none
  | .none, X, E, some _, g, h => by simp [ckO] at h
  | .some _, X, E, none, g, h => by simp [ckO] at h
  | .some c, X, E, some e, g, h => by
    simp only [ckO] at h
    exact .some (sndE c X E e g h).1
theorem sndC : ∀ (c : Oe) (X : Cx) (E : XK) (es : List Expr), Good C G F k X E → ckC G.N G.fnm c X.env.scope es = true → PTs X es (rdC C F c E)
  | .none, X, E, [], g, h => ⟨fun pins s σ H Q I h => pts_nil.run pins s σ H Q I h⟩
  | .none, X, E, _ :: _, g, h => by simp [ckC] at h
  | .some _, X, E, [], g, h => by simp [ckC] at h
  | .some _, X, E, _ :: _ :: _, g, h => by simp [ckC] at h
  | .some c, X, E, [e], g, h => by
    simp only [ckC] at h
    have := pts_one (sndE c X E e g h).2
    exact ⟨fun pins s σ H Q I h => this.run pins s σ H Q I h⟩
theorem sndI : ∀ (c : Rt.It) (X : Cx) (E : XK) (tg e : Expr), Good C G F k X E → ckI G.N G.fnm c X.env.scope tg e = true → PI X tg e (rdI C F c E)
  | .val c, X, E, tg, e, g, h => by
    simp only [ckI] at h
    exact iVal g (sndE c X E e g h).1
  | .rng1 a, X, E, tg, e, g, h => by
    unfold ckI at h
    split at h <;> first | contradiction | skip
    all_goals (rename_i z; cases z)
    simp only [Bool.and_eq_true, decide_eq_true_eq] at h
    obtain ⟨rfl, h1, h2⟩ := h
    exact iRng1' g (gl_of h1) (sndE a X E _ g h2).1 (ck_plain h2)
  | .rng2 a b, X, E, tg, e, g, h => by
    unfold ckI at h
    split at h <;> first | contradiction | skip
    all_goals (rename_i z; cases z)
    simp only [Bool.and_eq_true, decide_eq_true_eq] at h
    obtain ⟨rfl, h1, h2, h3⟩ := h
    exact iRng2' g (gl_of h1) (sndE a X E _ g h2).1 (ck_plain h2) (sndE b X E _ g h3).1 (ck_plain h3)
  | .rng3 a b c, X, E, tg, e, g, h => by
    unfold ckI at h
    split at h <;> first | contradiction | skip
    all_goals (rename_i z; cases z)
    simp only [Bool.and_eq_true, decide_eq_true_eq] at h
    obtain ⟨rfl, h1, h2, h3, h4⟩ := h
    exact iRng3' g (gl_of h1) (sndE a X E _ g h2).1 (ck_plain h2) (sndE b X E _ g h3).1 (ck_plain h3) (sndE c X E _ g h4).1 (ck_plain h4)
  | .enum a, X, E, tg, e, g, h => by
    unfold ckI at h
    split at h <;> first | contradiction | skip
    all_goals (rename_i z; cases z)
    simp only [Bool.and_eq_true, decide_eq_true_eq] at h
    obtain ⟨rfl, h1, h2⟩ := h
    exact iEnum' g (gl_of h1) (sndE a X E _ g h2).1 (ck_plain h2)
  | .zip a b, X, E, tg, e, g, h => by
    unfold ckI at h
    split at h <;> first | contradiction | skip
    all_goals (rename_i z; cases z)
    simp only [Bool.and_eq_true, decide_eq_true_eq] at h
    obtain ⟨rfl, h1, h2, h3⟩ := h
    exact iZip' g (gl_of h1) (sndE a X E _ g h2).1 (ck_plain h2) (sndE b X E _ g h3).1 (ck_plain h3)
end
end
end Rt
set_option maxHeartbeats 4000000
namespace Rt
open PySem PySem.Spec PyProof.Rows L2
/-- what is asked of a statement's result; H0, mu0: the def's entry -/
def PostS (C : Cn) (E : XK) (H0 : Hp) (mu0 : List Addr) (x : Res Flow) (D : Ends) (H : Hp) (mu : List Addr) : Prop := match x with
  | .ok (.next r) st => ∀ σ' H' mu', Rel C H0 mu0 σ' H' r st mu' → ExtW mu mu' H H' → D.nx σ' H'
  | .ok (.ret d) st => ∀ v H' mu', Ext mu0 mu' H0 H' → SRel C H' mu' st → Sd C.K H' mu' v d → D.rt v H'
  | .exc c st => ∀ H' mu', Ext mu0 mu' H0 H' → SRel C H' mu' st → E (.ref (C.ca c)) none H'
  | .bad => False
section
variable (C : Cn) (F : Nat → List D → Sto → Res D) (W : Nat)
def rdS (c : S) (E : XK) : TS := fun D σ H => ∃ H0 mu0 r st mu, Rel C H0 mu0 σ H r st mu ∧ PostS C E H0 mu0 (exec F W c r st) D H mu
def rdSs (c : Ss) (E : XK) : TS := fun D σ H => ∃ H0 mu0 r st mu, Rel C H0 mu0 σ H r st mu ∧ PostS C E H0 mu0 (execs F W c r st) D H mu
end
section
variable {C : Cn} {G : Gam} {F : Nat → List D → Sto → Res D} {W : Nat} {k : Nat} {X : Cx} {E : XK} {H0 H H1 : Hp} {mu0 mu mu1 : List Addr} {σ : L2.St} {r : Env} {st : Sto} {D : Ends}
theorem PostS.mono {x : Res Flow} (h : PostS C E H0 mu0 x D H mu) (e : ExtW mu mu1 H H1) : PostS C E H0 mu0 x D H1 mu1 := by
  cases x with
  | ok f st =>
    cases f with
    | next r => exact fun σ' H' mu' R w => h σ' H' mu' R (e.trans w)
    | ret d => exact h
  | exc c st => exact h
  | bad => exact h
/-- an expression, then the rest of a statement -/
theorem PostS.bind {a b : Type} {Rl : Hp → List Addr → b → a → Prop} {x : Res a} {f : a → Sto → Res Flow} {Q : b → Hp → Prop} (R : Rel C H0 mu0 σ H r st mu) (h : PostS C E H0 mu0 (x.bind f) D H mu)
    (w : ∀ d st1 v H1 mu1, Ext mu mu1 H H1 → SRel C H1 mu1 st1 → Rl H1 mu1 v d → PostS C E H0 mu0 (f d st1) D H1 mu1 → Q v H1) : Post C Rl x H mu Q E := by
  cases x with
  | ok d st1 => exact fun v H' mu' e s q => w d st1 v H' mu' e s q (PostS.mono h e.w)
  | exc c st1 => exact fun H' mu' e s => h H' mu' (R.ext.trans e) s
  | bad => exact h
/-- .. of an argument list whose length is known -/
theorem PostS.bindLen {es : Es} {f : List Rt.D → Sto → Res Flow} {Q : List V → Hp → Prop} (R : Rel C H0 mu0 σ H r st mu) (h : PostS C E H0 mu0 ((evs F es r st).bind f) D H mu)
    (w : ∀ d st1 v H1 mu1, d.length = es.len → Ext mu mu1 H H1 → SRel C H1 mu1 st1 → SdA C.K H1 mu1 v d → PostS C E H0 mu0 (f d st1) D H1 mu1 → Q v H1) : Post C (RSdA C) (evs F es r st) H mu Q E := by
  cases q : evs F es r st with
  | ok d st1 =>
    rw [q] at h
    exact fun v H' mu' e s z => w d st1 v H' mu' (evs_len q) e s z (PostS.mono h e.w)
  | exc c st1 =>
    rw [q] at h
    exact fun H' mu' e s => h H' mu' (R.ext.trans e) s
  | bad => rw [q] at h; exact h
theorem PostS.next {r' : Env} (h : PostS C E H0 mu0 (.ok (.next r') st) D H mu) {σ' : L2.St} {H' : Hp} {mu' : List Addr} (R : Rel C H0 mu0 σ' H' r' st mu') (e : ExtW mu mu' H H') : D.nx σ' H' := h σ' H' mu' R e
/-- one statement, then others -/
theorem PostS.seq {x : Res Flow} {f : Env → Sto → Res Flow} {nx : L2.St → Hp → Prop} (h : PostS C E H0 mu0 (seqR x f) D H mu)
    (w : ∀ r' st' σ' H' mu', Rel C H0 mu0 σ' H' r' st' mu' → ExtW mu mu' H H' → PostS C E H0 mu0 (f r' st') D H' mu' → nx σ' H') : PostS C E H0 mu0 x { D with nx := nx } H mu := by
  cases x with
  | ok fl st =>
    cases fl with
    | next r => exact fun σ' H' mu' R e => w r st σ' H' mu' R e (PostS.mono h e)
    | ret d => exact h
  | exc c st => exact h
  | bad => exact h
theorem PostS.ends {x : Res Flow} {D' : Ends} (h : PostS C E H0 mu0 x D H mu) (e1 : ∀ σ H, D.nx σ H → D'.nx σ H) (e2 : ∀ v H, D.rt v H → D'.rt v H) : PostS C E H0 mu0 x D' H mu := by
  cases x with
  | ok fl st =>
    cases fl with
    | next r => exact fun σ' H' mu' R e => e1 _ _ (h σ' H' mu' R e)
    | ret d => exact fun v H' mu' e s q => e2 _ _ (h v H' mu' e s q)
  | exc c st => exact h
  | bad => exact h
theorem zNil : PSs X [] (rdSs C F W .nil E) := pssImp pss_nil fun D σ H ⟨H0, mu0, r, st, mu, R, h⟩ => by
  unfold execs at h
  exact PostS.next h R .refl
theorem zCons {s : S} {ss : Ss} {t : Stmt} {ts : List Stmt} (h1 : PS X t (rdS C F W s E)) (h2 : PSs X ts (rdSs C F W ss E)) : PSs X (t :: ts) (rdSs C F W (.cons s ss) E) := by
  refine pssImp (pss_cons h1 h2) fun D σ H ⟨H0, mu0, r, st, mu, R, h⟩ => ?_
  unfold execs at h
  exact ⟨H0, mu0, r, st, mu, R, PostS.seq h fun r' st' σ' H' mu' R' e h' => ⟨H0, mu0, r', st', mu', R', h'⟩⟩
theorem zFrz {i : Nat} {ss : Ss} {ts : List Stmt} (h2 : PSs X ts (rdSs C F W ss E)) : PSs X ts (rdSs C F W (.cons (.frz i) ss) E) := by
  refine pssImp (pssFrz h2) fun D σ H ⟨H0, mu0, r, st, mu, R, h⟩ => ?_
  unfold execs exec at h
  cases z : getO r i with
  | none => rw [z] at h; exact h.elim
  | some ds =>
    rw [z] at h
    obtain ⟨a, xs, hs, h0, hm, hx, hq⟩ := R.own z
    have hi : r[i]? = some (.own ds) := by
      unfold getO at z
      split at z
      · next q => cases z; exact q
      · cases z
    refine ⟨a, xs, hx, fun o => ?_⟩
    refine ⟨H0, mu0, _, st, mu, R.frz (o := o) hi hs hx, ?_⟩
    exact PostS.mono h (ExtW.updL hx)
theorem zPass {p : Pos} : PS X (.Pass p) (rdS C F W .pass E) := psImp ps_pass fun D σ H ⟨H0, mu0, r, st, mu, R, h⟩ => by
  unfold exec at h
  exact PostS.next h R .refl
theorem zEx {e : Expr} {c : Rt.E} {p : Pos} (he : PE X e (rdE C F c E)) (hs : swapsWith e none p.line X.env = pure false) : PS X (.Expr e p) (rdS C F W (.ex c) E) := by
  refine psImp (ps_expr he hs) fun D σ H ⟨H0, mu0, r, st, mu, R, h⟩ => ?_
  unfold exec at h
  exact ⟨H0, mu0, r, st, mu, R, PostS.bind R h fun d st1 v H1 mu1 e1 s1 q1 h1 => PostS.next h1 (R.step e1 s1) .refl⟩
theorem zRet {e : Expr} {c : Rt.E} {p : Pos} (he : PE X e (rdE C F c E)) : PS X (.Return (some e) p) (rdS C F W (.ret c) E) := by
  refine psImp (ps_ret he) fun D σ H ⟨H0, mu0, r, st, mu, R, h⟩ => ?_
  unfold exec at h
  exact ⟨H0, mu0, r, st, mu, R, PostS.bind R h fun d st1 v H1 mu1 e1 s1 q1 h1 => h1 v H1 mu1 (R.ext.trans e1) s1 q1⟩
theorem zAsg (g : Good C G F k X E) {i : Nat} {x : Str} {e : Expr} {c : Rt.E} {p p2 : Pos} (hi : G.N[i]? = some x) (hx : Loc X.env.scope x) (hf : X.fn x = true ∨ X.env.scope.names.lookup x = some .local) (he : PE X e (rdE C F c E)) (hs : swapsWith e (some (.Name x p2)) p.line X.env = pure false) :
    PS X (.Assign [.Name x p2] e p) (rdS C F W (.asg i c) E) := by
  refine psImp (ps_set (i := i) (by rw [g.hN]; exact g.nd) (by rw [g.hN]; exact hi) hx he hs hf) fun D σ H ⟨H0, mu0, r, st, mu, R, h⟩ => ?_
  unfold exec at h
  exact ⟨H0, mu0, r, st, mu, R, PostS.bind R h fun d st1 v H1 mu1 e1 s1 q1 h1 => PostS.next h1 ((R.step e1 s1).set i q1) .refl⟩
theorem zAsgL (g : Good C G F k X E) {i : Nat} {x : Str} {es : List Expr} {cs : Es} {p p2 p3 : Pos} (hi : G.N[i]? = some x) (hx : Loc X.env.scope x) (hf : X.fn x = true ∨ X.env.scope.names.lookup x = some .local) (he : PA X es (rdEs C F cs E)) (hl : cs.len ≤ 1000) :
    PS X (.Assign [.Name x p2] (.List es p3) p) (rdS C F W (.asgL i cs) E) := by
  refine psImp (ps_set (i := i) (by rw [g.hN]; exact g.nd) (by rw [g.hN]; exact hi) hx (pe_lst he) rfl hf) fun D σ H ⟨H0, mu0, r, st, mu, R, h⟩ => ?_
  unfold exec at h
  refine ⟨H0, mu0, r, st, mu, R, PostS.bindLen R h fun d st1 vs H1 mu1 len e1 s1 q1 h1 => ?_⟩
  refine ⟨by rw [q1.length, len]; exact small_line hl, fun q hq => ?_⟩
  exact PostS.next h1 ((R.step e1 s1).setOwn i hq q1) (Ext.upd hq).w
theorem zAsgR (g : Good C G F k X E) {i : Nat} {x : Str} {es : List Expr} {b : Expr} {cs : Es} {cb : Rt.E} {p p2 p3 p4 : Pos} (hi : G.N[i]? = some x) (hx : Loc X.env.scope x) (hf : X.fn x = true ∨ X.env.scope.names.lookup x = some .local) (he : PA X es (rdEs C F cs E)) (hl : cs.len ≤ 1000) (hb : PE X b (rdE C F cb E)) :
    PS X (.Assign [.Name x p2] (.BinOp (.List es p3) .Mult b p4) p) (rdS C F W (.asgR i cs cb) E) := by
  refine psImp (ps_set (i := i) (by rw [g.hN]; exact g.nd) (by rw [g.hN]; exact hi) hx (pe_op op_rep (pe_lst he) hb) rfl hf) fun D σ H ⟨H0, mu0, r, st, mu, R, h⟩ => ?_
  unfold exec at h
  -- the value first, then the store
  have h' : Post C (fun _ _ _ d => True) ((evs F cs r st).bind fun ds s => (ev F cb r s).bind fun y s => repD s ds y) H mu (fun (_ : Unit) _ => True) E ∨ True := .inr trivial
  refine ⟨H0, mu0, r, st, mu, R, PostS.bindLen R h fun ds st1 vs H1 mu1 len e1 s1 q1 h1 => ?_⟩
  refine ⟨by rw [q1.length, len]; exact small_line hl, fun q hq => ?_⟩
  have ex : Ext mu1 mu1 H1 (upd H1 q (.lst vs)) := Ext.upd hq
  have s2 := s1.upd (o := .lst vs) hq
  have R2 := (R.step e1 s1).step ex s2
  refine ⟨H0, mu0, r, st1, mu1, R2, PostS.bind R2 (h1.mono ex.w) fun y st2 w H2 mu2 e2 s3 q2 h2 => ?_⟩
  unfold repD at h2
  split at h2
  · split at h2
    · next z =>
      have hp2 : H2 q = some (.lst vs) := e2.keepL q vs upd_same (notin_new s1 hq)
      have hw := Sd.cInt q2
      subst hw
      refine ⟨q, _, vs, rfl, rfl, hp2, by omega, by omega, ?_, fun p' hp' => ?_⟩
      · rw [q1.length]
        refine small_line_mul z.2.2 ?_
        omega
      · exact PostS.next h2 ((R2.step e2 s3).setOwn i hp' (((q1.mono ex).mono e2).rep _)) (Ext.upd hp').w
    · exact h2.elim
  · exact h2.elim
theorem zAsgC (g : Good C G F k X E) {i : Nat} {x : Str} {a b : Expr} {ca cb : Rt.E} {p p2 p4 : Pos} (hi : G.N[i]? = some x) (hx : Loc X.env.scope x) (hf : X.fn x = true ∨ X.env.scope.names.lookup x = some .local) (ha : PE X a (rdE C F ca E)) (hb : PE X b (rdE C F cb E)) :
    PS X (.Assign [.Name x p2] (.BinOp a .Add b p4) p) (rdS C F W (.asgC i ca cb) E) := by
  refine psImp (ps_set (i := i) (by rw [g.hN]; exact g.nd) (by rw [g.hN]; exact hi) hx (pe_op op_catX ha hb) rfl hf) fun D σ H ⟨H0, mu0, r, st, mu, R, h⟩ => ?_
  unfold exec at h
  refine ⟨H0, mu0, r, st, mu, R, PostS.bind R h fun x st1 v H1 mu1 e1 s1 q1 h1 => ?_⟩
  refine ⟨H0, mu0, r, st1, mu1, R.step e1 s1, PostS.bind (R.step e1 s1) h1 fun y st2 w H2 mu2 e2 s2 q2 h2 => ?_⟩
  have q1 := Sd.mono e2 q1
  cases x with
  | lst da =>
    cases y with
    | lst db =>
      simp only [binD] at h2
      split at h2
      · next hz =>
        obtain ⟨a1, xs, rfl, h3, h4⟩ := Sd.cLst q1
        obtain ⟨b1, ys, rfl, h5, h6⟩ := Sd.cLst q2
        refine ⟨a1, b1, xs, ys, rfl, rfl, by rw [g.hK]; exact h3.sq, by rw [g.hK]; exact h5.sq, ?_, fun q hq => ?_⟩
        · rw [h4.length, h6.length]; exact Nat.le_trans hz sizeN_le
        · exact PostS.next h2 (((R.step e1 s1).step e2 s2).setOwn i hq (h4.append h6)) (Ext.upd hq).w
      · exact h2.elim
    | _ => exact h2.elim
  | tup da =>
    cases y with
    | tup db =>
      simp only [binD] at h2
      split at h2
      · exact h2.elim
      · exact h2.elim
    | _ => exact h2.elim
  | int da =>
    cases y with
    | int db => exact h2.elim
    | _ => exact h2.elim
  | str da =>
    cases y with
    | str db =>
      simp only [binD] at h2
      split at h2
      · exact h2.elim
      · exact h2.elim
    | _ => exact h2.elim
  | _ => cases y <;> exact h2.elim
theorem zUnp (g : Good C G F k X E) {tg : Tg} {t e : Expr} {c : Rt.E} {p : Pos} (hg : PG X t (rdG C tg)) (he : PE X e (rdE C F c E)) (hs : swapsWithSole [t] e p.line X.env = pure false) (hw : swappedStores [t] e X.env = pure none) (h1 : (assignEach [t] X.env).map (·.2) = [assign t X.env]) :
    PS X (.Assign [t] e p) (rdS C F W (.unp tg c) E) := by
  refine psImp (ps_asg he hg hs hw h1) fun D σ H ⟨H0, mu0, r, st, mu, R, h⟩ => ?_
  unfold exec at h
  refine ⟨H0, mu0, r, st, mu, R, PostS.bind R h fun d st1 v H1 mu1 e1 s1 q1 h1 => ?_⟩
  split at h1
  · next r' hb => exact ⟨H0, mu0, r, st1, mu1, d, r', R.step e1 s1, q1, hb, fun σ' R' _ => PostS.next h1 R' .refl⟩
  · exact h1.elim
theorem zApp (g : Good C G F k X E) {i : Nat} {x : Str} {e : Expr} {c : Rt.E} {p p1 p2 p3 : Pos} (hi : G.N[i]? = some x) (hv : Vis X.env.scope x) (he : PE X e (rdE C F c E)) (hp : plainE e = true) (hl : (p2.endLine == p3.line) = true) :
    PS X (.Expr (.Call (.Attribute (.Name x p1) "append" p2) [e] [] p3) p) (rdS C F W (.app i c) E) := by
  have hd := g.dbg x (List.mem_of_getElem? hi)
  have hpe : PE X (.Call (.Attribute (.Name x p1) "append" p2) [e] [] p3) _ := pe_bm PySem.F.plainAttrs_list PySem.F.slot_list_append PySem.F.type_list_append mt_append (pe_var (i := i) (by rw [g.hN]; exact hi) hv hd.1 hd.2) (pa_cons he pa_nil (plain_star hp)) rfl
    (by rw [plain_star hp]; rfl) hl (plain_star hp) rfl
  refine psImp (ps_expr hpe rfl) fun D σ H ⟨H0, mu0, r, st, mu, R, h⟩ => ?_
  unfold exec at h
  cases z : getO r i with
  | none => rw [z] at h; exact h.elim
  | some ds =>
    rw [z] at h
    obtain ⟨a, xs, hs, h0, hm, hx, hq⟩ := R.own z
    have hi' : r[i]? = some (.own ds) := by
      unfold getO at z
      split at z
      · next q => cases z; exact q
      · cases z
    refine ⟨.ref a, hs, .inl ⟨rfl, xs, SqL.of hx⟩, H0, mu0, r, st, mu, R, PostS.bind R h fun d st1 v H1 mu1 e1 s1 q1 h1 => ?_⟩
    split at h1
    · next hlt =>
      have hx1 := e1.keepL _ _ hx hm
      have R1 := R.step e1 s1
      refine ⟨a, xs, v, rfl, rfl, hx1, ?_, ?_⟩
      · rw [hq.length]; exact Nat.lt_of_lt_of_le hlt sizeN_le
      · exact PostS.next h1 (R1.grow hi' hs ((hq.mono e1).append (.cons q1 .nil))) (ExtW.updL hx1)
    · exact h1.elim
/-- x += e (ints) -/
theorem zAug (g : Good C G F k X E) {i : Nat} {x : Str} {e : Expr} {c : Rt.E} {p p2 : Pos} (hi : G.N[i]? = some x) (hx : Loc X.env.scope x) (hf : X.fn x = true ∨ X.env.scope.names.lookup x = some .local) (he : PE X e (rdE C F c E)) :
    PS X (.AugAssign (.Name x p2) .Add e p) (rdS C F W (.aug i c) E) := by
  refine psImp (ps_aug (i := i) (by rw [g.hN]; exact g.nd) (by rw [g.hN]; exact hi) hx he ip_add hf) fun D σ H ⟨H0, mu0, r, st, mu, R, h⟩ => ?_
  unfold exec at h
  split at h
  · next a z =>
    obtain ⟨v, hs, q⟩ := R.val z
    refine ⟨v, hs, H0, mu0, r, st, mu, R, PostS.bind R h fun d st1 w H1 mu1 e1 s1 q1 h1 => ?_⟩
    split at h1
    · cases Sd.cInt q1
      exact ⟨_, _, q.cInt, rfl, PostS.next h1 ((R.step e1 s1).set i (.int _)) .refl⟩
    · exact h1.elim
  · exact h.elim
theorem nodup_at {α : Type} {l : List α} (hN : l.Nodup) {i j : Nat} {x : α} (a : l[i]? = some x) (b : l[j]? = some x) : i = j := by
  obtain ⟨h1, e1⟩ := List.getElem?_eq_some_iff.mp a
  obtain ⟨h2, e2⟩ := List.getElem?_eq_some_iff.mp b
  exact (List.getElem_inj hN).mp (e1.trans e2.symm)
/-- a cell is changed -/
theorem ExtW.updM {mu : List Addr} {H : Hp} {a : Addr} {o0 o : HO} (h : H a = some o0) (hm : mutO o0 = true) : ExtW mu mu H (upd H a o) := ⟨⟨[], by simp⟩, fun b o' q n m => by
  have nb : b ≠ a := fun z => by subst z; rw [h] at q; cases q; rw [hm] at n; cases n
  rw [upd_ne nb]; exact q⟩
theorem isOb_of {K : PySem.W.Frag} {H : Hp} {mu : List Addr} {ys : List V} {es : List Rt.D} (q : SdA K H mu ys es) : isOb es = false := by
  cases q with
  | nil => rfl
  | cons a b => cases a <;> rfl
/-- what stands in a cell is changed -/
theorem Rel.cellPut (R : Rel C H0 mu0 σ H r st mu) {n : Nat} {a : Addr} {o0 o1 : HO} {es : List Rt.D} (hn : mu[n]? = some a) (hx : H a = some o0) (hm0 : mutO o0 = true) (q : CelOk C (upd H a o1) mu a es) : Rel C H0 mu0 σ (upd H a o1) r (st.set n es) mu := by
  have w := ExtW.updM (mu := mu) (o := o1) hx hm0
  have ha : a ∈ mu := List.mem_of_getElem? hn
  have nl : ∀ b o, H b = some o → mutO o = false → b ≠ a := fun b o h m z => by
    subst z; rw [hx] at h; cases h; rw [hm0] at m; cases m
  refine ⟨R.len, fun i sl hi => ?_, R.dis, ⟨by rw [List.length_set]; exact R.srel.len, R.srel.nd, fun m b ds' h1 h2 => ?_, fun p hp => ?_⟩, ⟨R.ext.pre, fun b o h m1 m2 => ?_, fun b zs h m => ?_, fun b ps h => ?_, R.ext.new, fun b c dx fs h m => ?_⟩⟩
  · have hq := R.slots i sl hi
    cases sl with
    | no => exact trivial
    | val d =>
      match hs' : σ[i]?, hq with
      | some (some v), hq => exact Sd.monoW w hq
    | own ds' =>
      match hs' : σ[i]?, hq with
      | some (some (.ref b)), ⟨q1, q2, zs, q3, q4⟩ =>
        have nb : b ≠ a := fun z => by subst z; exact q2 ha
        exact ⟨q1, q2, zs, by rw [upd_ne nb]; exact q3, q4.monoW w⟩
  · by_cases e : m = n
    · subst e
      rw [hn] at h1; cases h1
      have hl : m < st.length := by rw [← R.srel.len]; exact (List.getElem?_eq_some_iff.mp hn).1
      rw [List.getElem?_set_self hl] at h2
      cases h2
      exact q
    · rw [List.getElem?_set_ne (Ne.symm e)] at h2
      have nb : b ≠ a := fun z => by
        subst z
        exact e (nodup_at R.srel.nd h1 hn)
      exact (R.srel.cel m b ds' h1 h2).mono w fun o q _ => by rw [upd_ne nb]; exact q
  · obtain ⟨ps, a1, a2, a3⟩ := R.srel.tabs p hp
    refine ⟨ps, by rw [upd_ne (nl _ _ a1 rfl)]; exact a1, a2, fun pos cv hc => ?_⟩
    obtain ⟨c, e1, e2⟩ := a3 pos cv hc
    exact ⟨c, e1, by rw [upd_ne (nl _ _ e2 (by unfold LamX.CodeO; rfl))]; exact e2⟩
  · have h' := R.ext.keepN b o h m1 m2
    rw [upd_ne (nl b o h' m1)]; exact h'
  · have h' := R.ext.keepL b zs h m
    have nb : b ≠ a := fun z => by
      subst z
      rw [R.ext.new b ha m] at h; cases h
    rw [upd_ne nb]; exact h'
  · obtain ⟨p', h'⟩ := R.ext.keepT b ps h
    exact ⟨p', by rw [upd_ne (nl b _ h' rfl)]; exact h'⟩
  · have h' := R.ext.keepI b c dx fs h m
    have nb : b ≠ a := fun z => by
      subst z
      rw [R.ext.new b ha m] at h; cases h
    rw [upd_ne nb]; exact h'
theorem Rel.cellSet (R : Rel C H0 mu0 σ H r st mu) {n : Nat} {a : Addr} {xs ys : List V} {es : List Rt.D} (hn : mu[n]? = some a) (hx : H a = some (.lst xs)) (q : SdA C.K H mu ys es) : Rel C H0 mu0 σ (upd H a (.lst ys)) r (st.set n es) mu :=
  R.cellPut hn hx rfl ((celOk_lst (isOb_of q)).mpr ⟨ys, upd_same, q.monoW (ExtW.updL hx)⟩)
/-- x[k] = e: a cell, or an owned list -/
theorem putQ {i : Nat} {kx d : Rt.D} {o kv v : V} (R : Rel C H0 mu0 σ H r st mu) (hs : σ[i]? = some (some o)) (hk : Sd C.K H mu kv kx) (hd : Sd C.K H mu v d) (h : PostS C E H0 mu0 (putD r st i kx d) D H mu) : rSetL o kv v H fun H' => D.nx σ H' := by
  unfold putD at h
  split at h
  · cases hk.cInt
    split at h
    · next z =>
      split at h
      · next j hj =>
        have hq := R.slots i _ z
        rw [hs] at hq
        match o, hq with
        | .ref a, ⟨h0, hm, xs, hx, hd'⟩ =>
          refine ⟨a, xs, _, j, rfl, rfl, hx, by rw [hd'.length]; exact hj, ?_⟩
          exact PostS.next h (R.grow z hs (hd'.set hd j)) (ExtW.updL hx)
      · exact h.elim
    · next n z =>
      split at h
      · next ds hn =>
        split at h
        · exact h.elim
        next hob =>
        split at h
        · next j hj =>
          have hq := R.slots i _ z
          rw [hs] at hq
          obtain ⟨a, ea, hmu⟩ := Sd.cCell hq
          subst ea
          obtain ⟨xs, hx, hd'⟩ := (celOk_lst (by cases z : isOb ds <;> simp_all)).mp (R.srel.cel n a ds hmu hn)
          refine ⟨a, xs, _, j, rfl, rfl, hx, by rw [hd'.length]; exact hj, ?_⟩
          exact PostS.next h (R.cellSet hmu hx (hd'.set hd j)) (ExtW.updL hx)
        · exact h.elim
      · exact h.elim
    · exact h.elim
  · exact h.elim
theorem slotB_get (R : Rel C H0 mu0 σ H r st mu) {i : Nat} (h : slotB r i = true) : ∃ v, σ[i]? = some (some v) := by
  unfold slotB at h
  split at h
  · next ds z =>
    have := R.slots i _ z
    match hs : σ[i]?, this with
    | some (some (.ref a)), _ => exact ⟨_, rfl⟩
  · next n z =>
    have := R.slots i _ z
    match hs : σ[i]?, this with
    | some (some v), _ => exact ⟨_, rfl⟩
  · cases h
theorem zSetI (g : Good C G F k X E) {i : Nat} {x : Str} {ix e : Expr} {cx c : Rt.E} {p p1 p2 : Pos} (hi : G.N[i]? = some x) (hv : Vis X.env.scope x) (hx : PE X ix (rdE C F cx E)) (hpx : plainE ix = true) (he : PE X e (rdE C F c E)) :
    PS X (.Assign [.Subscript (.Name x p1) ix p2] e p) (rdS C F W (.setI i cx c) E) := by
  have hd := g.dbg x (List.mem_of_getElem? hi)
  have ha : ∀ v, assign (.Subscript (.Name x p1) ix p2) X.env v = (do
      let ov ← holding [v] (eval (.Name x p1) X.env)
      let iv ← holding [v, ov] (eval ix X.env)
      standAt p2
      holding [v, ov, iv] (setItem ov iv v)
      release [v, ov, iv] []) := by
    intro v
    cases ix <;> first | rfl | cases hpx
  have hs : swapsWithSole [.Subscript (.Name x p1) ix p2] e p.line X.env = pure false := by
    cases e <;> rfl
  have hw : swappedStores [.Subscript (.Name x p1) ix p2] e X.env = pure none := by
    cases e <;> rfl
  refine psImp (ps_asg he (pg_sub (pe_var (i := i) (by rw [g.hN]; exact hi) hv hd.1 hd.2) hx set_list ha) hs hw rfl) fun D σ H ⟨H0, mu0, r, st, mu, R, h⟩ => ?_
  unfold exec at h
  split at h
  · exact h.elim
  · next z =>
    rw [Bool.not_eq_false] at z
    refine ⟨H0, mu0, r, st, mu, R, PostS.bind R h fun d st1 v H1 mu1 e1 s1 q1 h1 => ?_⟩
    have R1 := R.step e1 s1
    obtain ⟨o, ho⟩ := slotB_get R1 z
    refine ⟨o, ho, H0, mu0, r, st1, mu1, R1, PostS.bind R1 h1 fun kx st2 kv H2 mu2 e2 s2 q2 h2 => ?_⟩
    exact putQ (R1.step e2 s2) ho q2 (Sd.mono e2 q1) h2
theorem SdA.set2 {K : PySem.W.Frag} {H : Hp} {mu : List Addr} {vs : List V} {ds : List Rt.D} {v : V} {d : Rt.D} (q : SdA K H mu vs ds) (hd : Sd K H mu v d) (i : Nat) : SdA K H mu (vs.set i v) (ds.set i d) := q.set hd i
/-- o.f = e -/
theorem zFldS (g : Good C G F k X E) {i : Nat} {f : Str} {o e : Expr} {co c : Rt.E} {p p1 : Pos} (hi : deskFl[i]? = some f) (ho : PE X o (rdE C F co E)) (he : PE X e (rdE C F c E)) :
    PS X (.Assign [.Attribute o f p1] e p) (rdS C F W (.fldS i co c) E) := by
  have hs : swapsWith e (some (.Attribute o f p1)) p.line X.env = pure false := by
    cases e <;> rfl
  refine psImp (ps_fld ho he hs) fun D σ H ⟨H0, mu0, r, st, mu, R, h⟩ => ?_
  unfold exec at h
  refine ⟨H0, mu0, r, st, mu, R, PostS.bind R h fun d st1 v H1 mu1 e1 s1 q1 h1 => ?_⟩
  have R1 := R.step e1 s1
  refine ⟨H0, mu0, r, st1, mu1, R1, PostS.bind R1 h1 fun x st2 u H2 mu2 e2 s2 q2 h2 => ?_⟩
  have R2 := R1.step e2 s2
  have qv := Sd.mono e2 q1
  unfold fldSK at h2
  split at h2
  · next n fs z =>
    obtain ⟨a, dx, vs, rfl, rfl, hmu, hst, hob, ha, hs, hl⟩ := obj_at s2 q2 z
    split at h2
    · next fs' hf =>
      obtain ⟨c1, c2⟩ := g.dsk hob
      have hlen : (deskFl.zip vs).length < 1000 := by
        rw [List.length_zip]
        have : deskFl.length = 3 := rfl
        omega
      refine ⟨a, C.dk, dx, _, rfl, ha, c1, c2 f (List.mem_of_getElem? hi), hlen, ?_⟩
      unfold putFl at hf
      have w := fun (o1 : HO) => ExtW.updM (mu := mu2) (o := o1) ha rfl
      split at hf
      · next hlt =>
        cases hf
        have hlt' : i < vs.length := by rw [hs.length]; exact hlt
        rw [(fl_put hi hl).1 hlt']
        refine PostS.next h2 (R2.cellPut hmu ha rfl ?_) (w _)
        exact ⟨hob, dx, _, upd_same, (hs.set2 qv i).monoW (w _), by rw [List.length_set]; exact hl⟩
      · split at hf
        · next hq =>
          cases hf
          have hlt' : i = vs.length := by rw [hs.length]; exact hq.1
          rw [(fl_put hi hl).2 hlt']
          refine PostS.next h2 (R2.cellPut hmu ha rfl ?_) (w _)
          exact ⟨hob, dx, _, upd_same, (hs.append (.cons qv .nil)).monoW (w _), by rw [List.length_append]; simp; omega⟩
        · cases hf
    · exact h2.elim
  · exact h2.elim
theorem zIf {t : Expr} {c : Rt.E} {a b : List Stmt} {ca cb : Ss} {p : Pos} (hc : PT X t (rdT C F c E)) (ha : PSs X a (rdSs C F W ca E)) (hb : PSs X b (rdSs C F W cb E)) : PS X (.If t a b p) (rdS C F W (.ifs c ca cb) E) := by
  refine psImp (ps_if hc ha hb) fun D σ H ⟨H0, mu0, r, st, mu, R, h⟩ => ?_
  unfold exec at h
  refine ⟨H0, mu0, r, st, mu, R, PostS.bind R h fun d st1 b' H1 mu1 e1 s1 q1 h1 => ?_⟩
  have e : b' = d := q1
  subst e
  cases b' with
  | true => rw [if_pos rfl] at h1 ⊢; exact ⟨H0, mu0, r, st1, mu1, R.step e1 s1, h1⟩
  | false => rw [if_neg Bool.false_ne_true] at h1 ⊢; exact ⟨H0, mu0, r, st1, mu1, R.step e1 s1, h1⟩
theorem zFor (g : Good C G F k X E) (ho : PassesOwn (model X.prog X.w) X.A X.env X.xe) {tg : Tg} {t iter : Expr} {it : Rt.It} {b : List Stmt} {cb : Ss} {p : Pos} (hi : PI X t iter (rdI C F it E)) (hp : plainE iter = true) (hg : PG X t (rdG C tg)) (hb : PSs X b (rdSs C F W cb E)) : PS X (.For t iter b [] p) (rdS C F W (.fors tg it cb) E) := by
  refine psImp (ps_for ho g.calm hi hg hb (plain_set hp)) fun D σ H ⟨H0, mu0, r, st, mu, R, h⟩ => ?_
  unfold exec at h
  refine ⟨H0, mu0, r, st, mu, R, PostS.bind R h fun ds st1 J H1 mu1 e1 s1 wk h1 => ?_⟩
  generalize hf : (fun (d : Rt.D) (r : Env) (s : Sto) => match bindT tg d r with | some r => execs F W cb r s | none => Res.bad) = f at h1
  refine ⟨fun i m σ' H' => m = ds.length - i ∧ i ≤ ds.length ∧ ∃ r' st' mu', Rel C H0 mu0 σ' H' r' st' mu' ∧ ExtW mu1 mu' H1 H' ∧ PostS C E H0 mu0 (forR f (ds.drop i) r' st') D H' mu',
    ⟨ds.length, by simp, Nat.zero_le _, r, st1, mu1, R.step e1 s1, .refl, by simpa using h1⟩, ?_⟩
  rintro i m σ' H' ⟨rfl, hi, r', st', mu', R', w', h'⟩
  by_cases hlt : i < ds.length
  · right
    have hd : ds[i]? = some ds[i] := List.getElem?_eq_getElem hlt
    obtain ⟨go, yl⟩ := (wk i H' mu' w').2 _ hd
    rw [drop_get hlt] at h'
    unfold forR at h'
    refine ⟨go, fun σ'' H'' => ∃ r' st' mu', Rel C H0 mu0 σ'' H'' r' st' mu' ∧ ExtW mu1 mu' H1 H'' ∧ PostS C E H0 mu0 (forR f (ds.drop (i + 1)) r' st') D H'' mu', fun σ'' H'' z => ⟨ds.length - (i + 1), by omega, rfl, hlt, z⟩, fun x H2 hyl => ?_⟩
    obtain ⟨ex, sx, sdx⟩ := yl x H2 hyl
    have R2 := R'.step (ex mu') (sx mu' st' R'.srel)
    have h2 := h'.mono (ex mu').w
    rw [← hf] at h2
    dsimp only at h2
    split at h2
    · next r2 hb2 =>
      refine ⟨H0, mu0, r', st', mu', ds[i], r2, R2, sdx, hb2, fun σ3 R3 _ => ⟨H0, mu0, r2, st', mu', R3, ?_⟩⟩
      refine PostS.ends (PostS.seq h2 fun r4 st4 σ4 H4 mu4 R4 e4 h4 => ?_) (fun _ _ z => z) (fun _ _ z => z)
      rw [hf] at h4
      exact ⟨r4, st4, mu4, R4, (w'.trans (ex mu').w).trans e4, h4⟩
    · exact h2.elim
  · left
    have hie : i = ds.length := by omega
    refine ⟨(wk i H' mu' w').1 (by omega) (by omega), ?_⟩
    rw [hie, List.drop_length] at h'
    unfold forR at h'
    exact PostS.next h' R' .refl
theorem zWhile (g : Good C G F k X E) (ho : PassesOwn (model X.prog X.w) X.A X.env X.xe) {t : Expr} {c : Rt.E} {b : List Stmt} {cb : Ss} {p : Pos} (hc : PT X t (rdT C F c E)) (hb : PSs X b (rdSs C F W cb E)) : PS X (.While t b [] p) (rdS C F W (.whl c cb) E) := by
  refine psImp (ps_while ho hc hb) fun D σ H ⟨H0, mu0, r, st, mu, R, h⟩ => ?_
  unfold exec at h
  refine ⟨fun m σ' H' => ∃ r' st' mu', Rel C H0 mu0 σ' H' r' st' mu' ∧ PostS C E H0 mu0 (whileR (fun r s => tst (ev F c r s)) (fun r s => execs F W cb r s) m r' st') D H' mu', ⟨W, r, st, mu, R, h⟩, ?_⟩
  rintro m σ' H' ⟨r', st', mu', R', h'⟩
  cases m with
  | zero => unfold whileR at h'; exact h'.elim
  | succ m =>
    unfold whileR at h'
    refine ⟨H0, mu0, r', st', mu', R', PostS.bind R' h' fun d st1 b' H1 mu1 e1 s1 q1 h1 => ?_⟩
    have e : b' = d := q1
    subst e
    cases b' with
    | true =>
      rw [if_pos rfl] at h1 ⊢
      refine ⟨fun σ'' H'' => ∃ r' st' mu', Rel C H0 mu0 σ'' H'' r' st' mu' ∧ PostS C E H0 mu0 (whileR (fun r s => tst (ev F c r s)) (fun r s => execs F W cb r s) m r' st') D H'' mu', fun σ'' H'' z => ⟨m, Nat.lt_succ_self _, z⟩, H0, mu0, r', st1, mu1, R'.step e1 s1, ?_⟩
      exact PostS.ends (PostS.seq h1 fun r4 st4 σ4 H4 mu4 R4 e4 h4 => ⟨r4, st4, mu4, R4, h4⟩) (fun _ _ z => z) (fun _ _ z => z)
    | false =>
      rw [if_neg Bool.false_ne_true] at h1 ⊢
      exact PostS.next h1 (R'.step e1 s1) .refl
theorem zRaise (g : Good C G F k X E) {c : Nat} {x m : Str} {j : Nat} {p p1 p2 p3 : Pos} (hx : G.exn c = some x) (hg : Gl X x) : PS X (.Raise (some (.Call (.Name x p1) [.Constant (.str m) j p2] [] p3)) none p) (rdS C F W (.raise c) E) := by
  obtain ⟨hdb, hm, hq, hk, hs, ht⟩ := g.exf c x hx
  obtain ⟨L, env0, outer0, _, _, _, tk⟩ := g.tk
  refine psImp (ps_raiseL g.calm tk (L2N.pmk_own PySem.F.excBase_ValueError hq hm hk (raises_own hs ht) hg hdb)) fun D σ H ⟨H0, mu0, r, st, mu, R, h⟩ => ?_
  unfold exec at h
  exact h H mu R.ext R.srel
theorem psFrz {t : Stmt} {ts : TS} (h : PS X t ts) : PS X t (fun D σ H => ts { D with nx := fun σ' H' => ∃ a xs, H' a = some (.lst xs) ∧ ∀ o, D.nx σ' (upd H' a (.frz o (.lst xs))) } σ H) := by
  refine ⟨fun pins s σ H D I q => thn (h.run pins s σ H _ I q) fun f s1 z => ?_⟩
  cases f with
  | next =>
    obtain ⟨σ', H', I', a, xs, ha, q1⟩ := z
    obtain ⟨o, I2⟩ := I'.lock (u := .lst xs) ha trivial
    exact ⟨σ', _, I2, q1 o⟩
  | ret v => exact z
  | brk => exact z
  | cont => exact z
theorem zAsgLc (g : Good C G F k X E) {i : Nat} {x : Str} {p2 spos : Pos} {tg : Tg} {it : Rt.It} {cond : Oe} {elt : Rt.E} {own : List Nat} {e tg' iter : Expr} {ifs : List Expr} {scope : Scope} {ownL : List (Str × Nat)} {pos : Pos} (hi' : G.N[i]? = some x) (hx : X.env.scope.names.lookup x = some .local)
    (hsw : swapsWith (.ListComp e [⟨tg', iter, ifs, 0⟩] scope pos) (some (.Name x p2)) spos.line X.env = pure true) (hsl : ∀ i, i ∈ tg.slots → i ∈ own) (ho : ownL.map (·.2) = own)
    (hi : PI X tg' iter (rdI C F it E)) (ok : BlkOk X.N X.env.scope scope ownL) (hp : plainE iter = true)
    (hg : ∀ (s : Shared) (H : Hp) (C' : Addr) (cl : List (Str × Addr)) (fp : List Addr), PG (X.blk s H scope (compEnvC scope cl C' X.env) fp) tg' (rdG C tg))
    (ht : ∀ (s : Shared) (H : Hp) (C' : Addr) (cl : List (Str × Addr)) (fp : List Addr), PTs (X.blk s H scope (compEnvC scope cl C' X.env) fp) ifs (rdC C F cond E0))
    (he : ∀ (s : Shared) (H : Hp) (C' : Addr) (cl : List (Str × Addr)) (fp : List Addr), PE (X.blk s H scope (compEnvC scope cl C' X.env) fp) e (rdE C F elt E0)) :
    PS X (.Assign [.Name x p2] (.ListComp e [⟨tg', iter, ifs, 0⟩] scope pos) spos) (rdS C F W (.asg i (.comp tg it cond elt own)) E) := by
  refine psImp (psFrz (ps_setLc (i := i) g.calm (by rw [g.hN]; exact g.nd) (by rw [g.hN]; exact hi') hx hsw hi ok hg ht he (plain_set hp))) fun D σ H ⟨H0, mu0, r, st, mu, R, h⟩ => ?_
  rw [ho]
  unfold exec at h
  refine compQ (Q := fun v H' => D.nx (σ.set i (some v)) H') hsl R (PostS.bind R h fun d st1 v H1 mu1 e1 s1 q1 h1 => ?_) fun a xs H1 ha z => ⟨a, xs, ha, z⟩
  exact PostS.next h1 ((R.step e1 s1).set i q1) .refl
theorem zAsgLcX (g : Good C G F k X E) {i : Nat} {x : Str} {p2 spos : Pos} {tg : Tg} {it : Rt.It} {elt : Rt.E} {own : List Nat} {e tg' iter : Expr} {scope : Scope} {ownL : List (Str × Nat)} {pos : Pos} (hi' : G.N[i]? = some x) (hx : X.env.scope.names.lookup x = some .local)
    (hsw : swapsWith (.ListComp e [⟨tg', iter, [], 0⟩] scope pos) (some (.Name x p2)) spos.line X.env = pure true) (hsl : ∀ i, i ∈ tg.slots → i ∈ own) (ho : ownL.map (·.2) = own)
    (hi : PI X tg' iter (rdI C F it E)) (ok : BlkOk X.N X.env.scope scope ownL) (hp : plainE iter = true)
    (hg : ∀ Y : Cx, Good C G F k Y E → Y.env.scope = relS scope X.env.scope → (∀ x, Y.fn x = (scope.names.lookup x == some .cell)) → PG Y tg' (rdG C tg))
    (he : ∀ Y : Cx, Good C G F k Y E → Y.env.scope = relS scope X.env.scope → PE Y e (rdE C F elt E)) :
    PS X (.Assign [.Name x p2] (.ListComp e [⟨tg', iter, [], 0⟩] scope pos) spos) (rdS C F W (.asg i (.compX tg it elt own)) E) := by
  obtain ⟨L, env0, outer0, hstk, hf0, hfr, tk⟩ := g.tk
  refine psImp (psFrz (ps_setLcX (i := i) hstk hf0 hfr tk g.calm (by rw [g.hN]; exact g.nd) (by rw [g.hN]; exact hi') hx hsw hi ok (fun s H C' cl fp xe tkb => hg _ (g.blkX hstk hf0 hfr s H scope _ fp xe rfl tkb) rfl fun _ => rfl) (fun s H C' cl fp xe tkb => he _ (g.blkX hstk hf0 hfr s H scope _ fp xe rfl tkb) rfl) (plain_set hp))) fun D σ H ⟨H0, mu0, r, st, mu, R, h⟩ => ?_
  rw [ho]
  unfold exec at h
  refine compXQ (Q := fun v H' => D.nx (σ.set i (some v)) H') hsl R (PostS.bind R h fun d st1 v H1 mu1 e1 s1 q1 h1 => ?_) fun a xs H1 ha z => ⟨a, xs, ha, z⟩
  exact PostS.next h1 ((R.step e1 s1).set i q1) .refl
theorem zAsgLc2 (g : Good C G F k X E) {i : Nat} {x : Str} {p2 spos : Pos} {tg tg2 : Tg} {it it2 : Rt.It} {elt : Rt.E} {own own2 : List Nat} {e tg' iter tg2' iter2 : Expr} {scope : Scope} {ownL : List (Str × Nat)} {pos : Pos} (hi' : G.N[i]? = some x) (hx : X.env.scope.names.lookup x = some .local)
    (hsw : swapsWith (.ListComp e [⟨tg', iter, [], 0⟩, ⟨tg2', iter2, [], 0⟩] scope pos) (some (.Name x p2)) spos.line X.env = pure true) (hsl : ∀ i, i ∈ tg.slots → i ∈ own) (hsl2 : ∀ i, i ∈ tg2.slots → i ∈ own2) (hso : ∀ i, i ∈ own2 → i ∈ own) (ho : ownL.map (·.2) = own)
    (hi : PI X tg' iter (rdI C F it E)) (ok : BlkOk X.N X.env.scope scope ownL) (hp : plainE iter = true) (hp2 : plainE iter2 = true)
    (hg : ∀ (s : Shared) (H : Hp) (C' : Addr) (cl : List (Str × Addr)) (fp : List Addr), PG (X.blk s H scope (compEnvC scope cl C' X.env) fp) tg' (rdG C tg))
    (hi2 : ∀ (s : Shared) (H : Hp) (C' : Addr) (cl : List (Str × Addr)) (fp : List Addr), PI (X.blk s H scope (compEnvC scope cl C' X.env) fp) tg2' iter2 (rdI C F it2 E0))
    (hg2 : ∀ (s : Shared) (H : Hp) (C' : Addr) (cl : List (Str × Addr)) (fp : List Addr), PG (X.blk s H scope (compEnvC scope cl C' X.env) fp) tg2' (rdG C tg2))
    (he : ∀ (s : Shared) (H : Hp) (C' : Addr) (cl : List (Str × Addr)) (fp : List Addr), PE (X.blk s H scope (compEnvC scope cl C' X.env) fp) e (rdE C F elt E0)) :
    PS X (.Assign [.Name x p2] (.ListComp e [⟨tg', iter, [], 0⟩, ⟨tg2', iter2, [], 0⟩] scope pos) spos) (rdS C F W (.asg i (.comp2 tg it tg2 it2 elt own own2)) E) := by
  refine psImp (psFrz (ps_setLc2 (i := i) (vs1 := own2) g.calm (by rw [g.hN]; exact g.nd) (by rw [g.hN]; exact hi') hx hsw hi ok (by rw [ho]; exact hso) hg (fun _ _ _ _ _ => ⟨fun _ _ _ H _ I h => wpAny_tests_nil ⟨H, I, h⟩⟩) hi2 hg2 (fun _ _ _ _ _ => ⟨fun _ _ _ H _ I h => wpAny_tests_nil ⟨H, I, h⟩⟩) he (plain_set hp) (fun env x => plain_set hp2 x))) fun D σ H ⟨H0, mu0, r, st, mu, R, h⟩ => ?_
  rw [ho]
  unfold exec at h
  refine comp2Q (Q := fun v H' => D.nx (σ.set i (some v)) H') hsl hsl2 R (PostS.bind R h fun d st1 v H1 mu1 e1 s1 q1 h1 => ?_) fun a xs H1 ha z => ⟨a, xs, ha, z⟩
  exact PostS.next h1 ((R.step e1 s1).set i q1) .refl
theorem zPar2 (g : Good C G F k X E) {i j : Nat} {x y : Str} {a b : Expr} {cs : Es} {px py pt pt2 p : Pos} {kt k2 : Nat} (hi : G.N[i]? = some x) (hj : G.N[j]? = some y) (hij : i ≠ j) (hx : X.env.scope.names.lookup x = some .local) (hy : X.env.scope.names.lookup y = some .local) (ha : PA X [a, b] (rdEs C F cs E))
    (hw : swappedStores [.Tuple [.Name x px, .Name y py] kt pt] (.Tuple [a, b] k2 pt2) X.env = pure (some [x, y])) : PS X (.Assign [.Tuple [.Name x px, .Name y py] kt pt] (.Tuple [a, b] k2 pt2) p) (rdS C F W (.par [i, j] cs) E) := by
  refine psImp (ps_par (i := i) (j := j) g.calm (by rw [g.hN]; exact g.nd) (by rw [g.hN]; exact hi) (by rw [g.hN]; exact hj) hij hx hy ha hw rfl) fun D σ H ⟨H0, mu0, r, st, mu, R, h⟩ => ?_
  unfold exec at h
  refine ⟨H0, mu0, r, st, mu, R, PostS.bind R h fun ds st1 vs H1 mu1 e1 s1 q1 h1 => ?_⟩
  split at h1
  · next r' hb =>
    match ds, hb with
    | [d1, d2], hb =>
      obtain ⟨v1, v2, rfl, q2, q3⟩ := SdA.two q1
      simp only [setAll] at hb
      cases hb
      exact ⟨v1, v2, rfl, PostS.next h1 (((R.step e1 s1).set i q2).set j q3) .refl⟩
    | [], hb => simp [setAll] at hb
    | [_], hb => simp [setAll] at hb
    | _ :: _ :: _ :: _, hb => simp [setAll] at hb
  · exact h1.elim
theorem ps_par3 {i j l : Nat} {x y z : Str} {a b c : Expr} {ta : TA} {px py pz pt pos : Pos} {kt k2 : Nat} {pt2 : Pos} (hc : X.calm = true) (hN : X.N.Nodup) (hi : X.N[i]? = some x) (hj : X.N[j]? = some y) (hl : X.N[l]? = some z) (hij : i ≠ j) (hil : i ≠ l) (hjl : j ≠ l)
    (hx : X.env.scope.names.lookup x = some .local) (hy : X.env.scope.names.lookup y = some .local) (hz : X.env.scope.names.lookup z = some .local) (ha : PA X [a, b, c] ta)
    (hw : swappedStores [.Tuple [.Name x px, .Name y py, .Name z pz] kt pt] (.Tuple [a, b, c] k2 pt2) X.env = pure (some [x, y, z]))
    (hs : swapsWithSole [.Tuple [.Name x px, .Name y py, .Name z pz] kt pt] (.Tuple [a, b, c] k2 pt2) pos.line X.env = pure false := by rfl) :
    PS X (.Assign [.Tuple [.Name x px, .Name y py, .Name z pz] kt pt] (.Tuple [a, b, c] k2 pt2) pos) (fun D σ H => ta σ H fun vs H1 => ∃ v w u, vs = [v, w, u] ∧ D.nx (((σ.set i (some v)).set j (some w)).set l (some u)) H1) := by
  refine ⟨fun pins s σ H D I h => ?_⟩
  rw [exec_Assign_arm]
  refine wpAny_bind (wpAny_standAt ?_)
  rw [hs]
  refine wpAny_bind (wpAny_pure ?_)
  rw [if_neg (by decide)]
  refine wpAny_bind (Tuple_ (thn (ha.run _ pins s σ H _ I h) fun us s1 ⟨vs, H1, I1, r1, q1⟩ => ?_))
  obtain ⟨v, w, u, e1, q1⟩ := q1
  subst e1
  obtain ⟨u1, u2, u3, rfl, rv, rw', ru⟩ : ∃ u1 u2 u3, us = [u1, u2, u3] ∧ RelV v u1 ∧ RelV w u2 ∧ RelV u u3 := by
    cases r1 with
    | cons p q =>
      cases q with
      | cons p' q' =>
        cases q' with
        | cons p2 q2 =>
          cases q2
          exact ⟨_, _, _, rfl, p, p', p2⟩
  refine wpAny_newObj_type ?_ (by show 3 ≤ sizeLine; decide)
  have I2 : L2.Inv X pins σ H1 { s1 with heap := s1.heap.push { cls := .type "tuple", data := .seq [u1, u2, u3].toArray } } := I1.kept (t' := s1.toks) fun b o e => Heap.get?_push_of_some _ e
  rw [hw]
  refine wpAny_bind (wpAny_pure ?_)
  show wpAny (model X.prog X.w) X.A (do rule "assign.swapped-stores"; let items ← unpackItems (.ref s1.heap.objs.size) 3 none; assignInOrder [fun v => bindName X.env z v, fun v => bindName X.env y v, fun v => bindName X.env x v] items.reverse; pure PySem.Flow.next) _ _ _
  refine wpAny_bind (wpAny_rule (wpAny_bind (unpackItems_tuple (items := #[u1, u2, u3]) (I.ok.hd hc) (IsTup.new s1.heap _) fun h' hx' => ?_)))
  have I3 := I2.kept (h' := h') (t' := s1.toks) fun b o e => hx' b o (Nat.ne_of_lt (Heap.lt_size e)) e
  show wpAny _ _ (assignInOrder [fun v => bindName X.env z v, fun v => bindName X.env y v, fun v => bindName X.env x v] [u3, u2, u1] >>= fun _ => pure PySem.Flow.next) _ _ _
  refine wpAny_bind (assignInOrder_cons (wpAny_bindName (store_ok I3 hN hl (.inl hz) ru (fun s2 I4 => ?_) (.inr hz))))
  refine assignInOrder_cons (wpAny_bindName (store_ok I4 hN hj (.inl hy) rw' (fun s3 I5 => ?_) (.inr hy)))
  refine assignInOrder_cons (wpAny_bindName (store_ok I5 hN hi (.inl hx) rv (fun s4 I6 => assignInOrder_nil (wpAny_pure ?_)) (.inr hx)))
  have e : (((σ.set l (some u)).set j (some w)).set i (some v)) = (((σ.set i (some v)).set j (some w)).set l (some u)) := by
    rw [List.set_comm _ _ (Ne.symm hij), List.set_comm (some u) (some v) (Ne.symm hil), List.set_comm (some u) (some w) (Ne.symm hjl)]
  rw [e] at I6
  exact ⟨_, H1, I6, q1⟩
theorem zPar3 (g : Good C G F k X E) {i j l : Nat} {x y z : Str} {a b c : Expr} {cs : Es} {px py pz pt pt2 p : Pos} {kt k2 : Nat} (hi : G.N[i]? = some x) (hj : G.N[j]? = some y) (hl : G.N[l]? = some z) (hij : i ≠ j) (hil : i ≠ l) (hjl : j ≠ l)
    (hx : X.env.scope.names.lookup x = some .local) (hy : X.env.scope.names.lookup y = some .local) (hz : X.env.scope.names.lookup z = some .local) (ha : PA X [a, b, c] (rdEs C F cs E))
    (hw : swappedStores [.Tuple [.Name x px, .Name y py, .Name z pz] kt pt] (.Tuple [a, b, c] k2 pt2) X.env = pure (some [x, y, z])) : PS X (.Assign [.Tuple [.Name x px, .Name y py, .Name z pz] kt pt] (.Tuple [a, b, c] k2 pt2) p) (rdS C F W (.par [i, j, l] cs) E) := by
  refine psImp (ps_par3 (i := i) (j := j) (l := l) g.calm (by rw [g.hN]; exact g.nd) (by rw [g.hN]; exact hi) (by rw [g.hN]; exact hj) (by rw [g.hN]; exact hl) hij hil hjl hx hy hz ha hw rfl) fun D σ H ⟨H0, mu0, r, st, mu, R, h⟩ => ?_
  unfold exec at h
  refine ⟨H0, mu0, r, st, mu, R, PostS.bind R h fun ds st1 vs H1 mu1 e1 s1 q1 h1 => ?_⟩
  split at h1
  · next r' hb =>
    match ds, hb with
    | [d1, d2, d3], hb =>
      cases q1 with
      | cons q0 q1 =>
        obtain ⟨v1, v2, rfl, q2, q3⟩ := SdA.two q1
        simp only [setAll] at hb
        cases hb
        exact ⟨_, v1, v2, rfl, PostS.next h1 ((((R.step e1 s1).set i q0).set j q2).set l q3) .refl⟩
    | [], hb => simp [setAll] at hb
    | [_], hb => simp [setAll] at hb
    | [_, _], hb => simp [setAll] at hb
    | _ :: _ :: _ :: _ :: _, hb => simp [setAll] at hb
  · exact h1.elim
end
end Rt
namespace Rt
open PySem PySem.Spec PyProof.Rows L2
theorem slot_set {r : Env} {i : Nat} {ds : List D} {sl : Slot} (h : r[i]? = some sl) : slotB (r.set i (.own ds)) i = true := by
  unfold slotB
  rw [List.getElem?_set_self (List.getElem?_eq_some_iff.mp h).1]
theorem putD_slot {r r' : Env} {s s' : Sto} {i : Nat} {x d : D} (h : putD r s i x d = .ok (.next r') s') : slotB r' i = true := by
  unfold putD at h
  split at h
  · split at h
    · next ds hr =>
      split at h
      · cases h; exact slot_set hr
      · cases h
    · next n hr =>
      split at h
      · split at h
        · cases h
        · split at h
          · cases h
            unfold slotB
            rw [hr]
          · cases h
      · cases h
    · cases h
  · cases h
section
variable {C : Cn} {G : Gam} {F : Nat → List D → Sto → Res D} {W : Nat} {k : Nat} {X : Cx} {E : XK} {H0 H H1 : Hp} {mu0 mu mu1 : List Addr} {σ : L2.St} {r : Env} {st : Sto} {D : Ends}
theorem PostS.seqE {x : Res Flow} {f : Env → Sto → Res Flow} {nx : L2.St → Hp → Prop} (h : PostS C E H0 mu0 (seqR x f) D H mu)
    (w : ∀ r' st' σ' H' mu', x = .ok (.next r') st' → Rel C H0 mu0 σ' H' r' st' mu' → ExtW mu mu' H H' → PostS C E H0 mu0 (f r' st') D H' mu' → nx σ' H') : PostS C E H0 mu0 x { D with nx := nx } H mu := by
  cases x with
  | ok fl st =>
    cases fl with
    | next r => exact fun σ' H' mu' R e => w r st σ' H' mu' rfl R e (PostS.mono h e)
    | ret d => exact h
  | exc c st => exact h
  | bad => exact h
theorem sub_assign {o ix : Expr} {p2 : Pos} {env : PySem.Env} (hpx : plainE ix = true) : ∀ v, assign (.Subscript o ix p2) env v = (do
      let ov ← holding [v] (eval o env)
      let iv ← holding [v, ov] (eval ix env)
      standAt p2
      holding [v, ov, iv] (setItem ov iv v)
      release [v, ov, iv] []) := by
  intro v
  cases ix <;> first | rfl | cases hpx
theorem zSetI2 (g : Good C G F k X E) {i : Nat} {x : Str} {ix iy e f : Expr} {cx cy c cf : Rt.E} {p p1 p2 p3 p4 pt pt2 : Pos} {kt k2 : Nat} (hi : G.N[i]? = some x) (hv : Vis X.env.scope x) (hx : PE X ix (rdE C F cx E)) (hpx : plainE ix = true) (hy : PE X iy (rdE C F cy E)) (hpy : plainE iy = true) (hes : PA X [e, f] (rdEs C F (.cons c (.cons cf .nil)) E)) :
    PS X (.Assign [.Tuple [.Subscript (.Name x p1) ix p2, .Subscript (.Name x p3) iy p4] kt pt] (.Tuple [e, f] k2 pt2) p) (rdS C F W (.setI2 i cx cy c cf) E) := by
  have hd := g.dbg x (List.mem_of_getElem? hi)
  have hw : swappedStores [.Tuple [.Subscript (.Name x p1) ix p2, .Subscript (.Name x p3) iy p4] kt pt] (.Tuple [e, f] k2 pt2) X.env = pure none := by
    unfold swappedStores
    simp
  have hpg := pg_tup (pos := pt) (k := kt) g.calm (pgs_cons (pg_sub (pos := p2) (pe_var (pos := p1) (i := i) (by rw [g.hN]; exact hi) hv hd.1 hd.2) hx set_list (sub_assign hpx)) (pgs_cons (pg_sub (pos := p4) (pe_var (pos := p3) (i := i) (by rw [g.hN]; exact hi) hv hd.1 hd.2) hy set_list (sub_assign hpy)) pgs_nil))
  refine psImp (ps_asg (sTup hes (show (2 : Nat) ≤ 1000 by decide)) hpg rfl hw rfl) fun D σ H ⟨H0, mu0, r, st, mu, R, h⟩ => ?_
  unfold exec at h
  split at h
  · exact h.elim
  · next z =>
    rw [Bool.not_eq_false] at z
    have e0 : ((ev F c r st).bind fun d s => (ev F cf r s).bind fun d2 s => (ev F cx r s).bind fun k s => seqR (putD r s i k d) fun r s => (ev F cy r s).bind fun k2 s => putD r s i k2 d2) =
        (ev F (.tup (.cons c (.cons cf .nil))) r st).bind fun t s => match t with
          | .tup [d, d2] => (ev F cx r s).bind fun k s => seqR (putD r s i k d) fun r s => (ev F cy r s).bind fun k2 s => putD r s i k2 d2
          | _ => .bad := by
      simp only [ev, evs]
      cases ev F c r st with
      | ok d s1 =>
        simp only [Res.bind_ok]
        cases ev F cf r s1 <;> rfl
      | exc a b => rfl
      | bad => rfl
    rw [e0] at h
    refine ⟨H0, mu0, r, st, mu, R, PostS.bind R h fun dt st1 v H1 mu1 e1 s1 q1 h1 => ?_⟩
    have R1 := R.step e1 s1
    split at h1
    · next d d2 =>
      obtain ⟨a, xs, rfl, sq, sa⟩ := Sd.cTup q1
      obtain ⟨v1, v2, rfl, sd1, sd2⟩ := sa.two
      rw [← g.hK] at sq
      obtain ⟨o, ho⟩ := slotB_get R1 z
      refine ⟨a, [v1, v2], rfl, sq, rfl, v1, [v2], rfl, o, ho, H0, mu0, r, st1, mu1, R1, PostS.bind R1 h1 fun kx st2 kv H2 mu2 e2 s2 q2 h2 => ?_⟩
      have R2 := R1.step e2 s2
      refine putQ (D := { D with nx := fun σ' H' => gCons (gSub (tVar i) (rdE C F cy E) rSetL) gNil [v2] σ' H' D.nx }) R2 ho q2 (Sd.mono e2 sd1) (PostS.seqE h2 fun r' st' σ' H' mu' hp R' ew h3 => ?_)
      obtain ⟨o', ho'⟩ := slotB_get R' (putD_slot hp)
      refine ⟨v2, [], rfl, o', ho', H0, mu0, r', st', mu', R', PostS.bind R' h3 fun kx' st3 kv' H3 mu3 e3 s3 q3 h4 => ?_⟩
      have := putQ (R'.step e3 s3) ho' q3 (Sd.mono e3 (Sd.monoW ew (Sd.mono e2 sd2))) (PostS.ends (D' := { D with nx := fun σ' H' => gNil [] σ' H' D.nx }) h4 (fun σ H q => ⟨rfl, q⟩) (fun _ _ q => q))
      exact this
    · exact h1.elim
end
end Rt
set_option maxHeartbeats 4000000
namespace Rt
open PySem PySem.Spec PyProof.Rows L2
section
variable {C : Cn} {G : Gam} {F : Nat → List D → Sto → Res D} {W : Nat} {k : Nat} {X : Cx} {E : XK}
theorem zAsgO (g : Good C G F k X E) {i : Nat} {x : Str} {p2 spos : Pos} {tg : Tg} {it : Rt.It} {cond : Oe} {elt : Rt.E} {own : List Nat} {e tg' iter : Expr} {ifs : List Expr} {scope : Scope} {ownL : List (Str × Nat)} {pos : Pos} (hi' : G.N[i]? = some x) (hx : X.env.scope.names.lookup x = some .local)
    (hsw : swapsWith (.ListComp e [⟨tg', iter, ifs, 0⟩] scope pos) (some (.Name x p2)) spos.line X.env = pure true) (hsl : ∀ i, i ∈ tg.slots → i ∈ own) (ho : ownL.map (·.2) = own)
    (hi : PI X tg' iter (rdI C F it E)) (ok : BlkOk X.N X.env.scope scope ownL) (hp : plainE iter = true)
    (hg : ∀ (s : Shared) (H : Hp) (C' : Addr) (cl : List (Str × Addr)) (fp : List Addr), PG (X.blk s H scope (compEnvC scope cl C' X.env) fp) tg' (rdG C tg))
    (ht : ∀ (s : Shared) (H : Hp) (C' : Addr) (cl : List (Str × Addr)) (fp : List Addr), PTs (X.blk s H scope (compEnvC scope cl C' X.env) fp) ifs (rdC C F cond E0))
    (he : ∀ (s : Shared) (H : Hp) (C' : Addr) (cl : List (Str × Addr)) (fp : List Addr), PE (X.blk s H scope (compEnvC scope cl C' X.env) fp) e (rdE C F elt E0)) :
    PS X (.Assign [.Name x p2] (.ListComp e [⟨tg', iter, ifs, 0⟩] scope pos) spos) (rdS C F W (.asgO i (.comp tg it cond elt own)) E) := by
  refine psImp (ps_setLc (i := i) g.calm (by rw [g.hN]; exact g.nd) (by rw [g.hN]; exact hi') hx hsw hi ok hg ht he (plain_set hp)) fun D σ H ⟨H0, mu0, r, st, mu, R, h⟩ => ?_
  rw [ho]
  unfold exec at h
  refine compA hsl R (fun z => by rw [z] at h; exact h) (fun c s z H' mu' e q => by rw [z] at h; exact h H' mu' (R.ext.trans e) q) fun st1 H1 mu1 Dl H' mu' st' acc accD e1 s1 hD A z => ?_
  rw [z] at h
  simp only [Res.bind_ok] at h
  exact PostS.next h ((R.step e1 s1).ownAt i hD A.ext A.rel A.at_ A.out A.sd) (e1.trans A.ext).w
theorem zParA (g : Good C G F k X E) {i j : Nat} {x y : Str} {a : Expr} {c : Rt.E} {px py pt pt2 pl p : Pos} {kt k2 : Nat} (hi : G.N[i]? = some x) (hj : G.N[j]? = some y) (hij : i ≠ j) (hx : X.env.scope.names.lookup x = some .local) (hy : X.env.scope.names.lookup y = some .local) (ha : PE X a (rdE C F c E)) (hpa : plainE a = true)
    (hw : swappedStores [.Tuple [.Name x px, .Name y py] kt pt] (.Tuple [a, .List [] pl] k2 pt2) X.env = pure (some [x, y])) : PS X (.Assign [.Tuple [.Name x px, .Name y py] kt pt] (.Tuple [a, .List [] pl] k2 pt2) p) (rdS C F W (.parA i j c) E) := by
  refine psImp (ps_par (i := i) (j := j) g.calm (by rw [g.hN]; exact g.nd) (by rw [g.hN]; exact hi) (by rw [g.hN]; exact hj) hij hx hy (pa_cons ha (pa_cons (pe_lst pa_nil) pa_nil (plain_star rfl)) (plain_star hpa)) hw rfl) fun D σ H ⟨H0, mu0, r, st, mu, R, h⟩ => ?_
  unfold exec at h
  refine ⟨H0, mu0, r, st, mu, R, PostS.bind R h fun d st1 v H1 mu1 e1 s1 q1 h1 => ⟨Nat.zero_le _, fun q hq => ⟨v, .ref q, rfl, ?_⟩⟩⟩
  exact PostS.next h1 (((R.step e1 s1).set i q1).setOwn j hq .nil) (Ext.upd hq).w
theorem zParB (g : Good C G F k X E) {i j : Nat} {x y : Str} {a : Expr} {c : Rt.E} {px py pt pt2 pl p : Pos} {kt k2 : Nat} (hi : G.N[i]? = some x) (hj : G.N[j]? = some y) (hij : i ≠ j) (hx : X.env.scope.names.lookup x = some .local) (hy : X.env.scope.names.lookup y = some .local) (ha : PE X a (rdE C F c E)) (hpa : plainE a = true)
    (hw : swappedStores [.Tuple [.Name x px, .Name y py] kt pt] (.Tuple [.List [] pl, a] k2 pt2) X.env = pure (some [x, y])) : PS X (.Assign [.Tuple [.Name x px, .Name y py] kt pt] (.Tuple [.List [] pl, a] k2 pt2) p) (rdS C F W (.parB i j c) E) := by
  refine psImp (ps_par (i := i) (j := j) g.calm (by rw [g.hN]; exact g.nd) (by rw [g.hN]; exact hi) (by rw [g.hN]; exact hj) hij hx hy (pa_cons (pe_lst pa_nil) (pa_cons ha pa_nil (plain_star hpa)) (plain_star rfl)) hw rfl) fun D σ H ⟨H0, mu0, r, st, mu, R, h⟩ => ?_
  unfold exec at h
  refine ⟨Nat.zero_le _, fun q hq => ?_⟩
  have ex : Ext mu mu H (upd H q (.lst [])) := Ext.upd hq
  have s0 := R.srel.upd (o := .lst []) hq
  refine ⟨H0, mu0, r, st, mu, R.step ex s0, PostS.bind (R.step ex s0) (h.mono ex.w) fun d st1 v H1 mu1 e1 s1 q1 h1 => ⟨.ref q, v, rfl, ?_⟩⟩
  have hx1 : H1 q = some (.lst []) := e1.keepL q [] upd_same (notin_new R.srel hq)
  exact PostS.next h1 ((R.ownAt i hq (ex.trans e1) s1 hx1 (e1.notin upd_same (notin_new R.srel hq)) .nil).set j q1) .refl
/-- .. names among them that are cells -/
theorem zParC (g : Good C G F k X E) {i j : Nat} {x y : Str} {a : Expr} {c : Rt.E} {px py pt pt2 pl p : Pos} {kt k2 : Nat} (hi : G.N[i]? = some x) (hj : G.N[j]? = some y) (hx : Loc X.env.scope x ∧ (X.fn x = true ∨ X.env.scope.names.lookup x = some .local)) (hy : Loc X.env.scope y ∧ (X.fn y = true ∨ X.env.scope.names.lookup y = some .local)) (ha : PE X a (rdE C F c E)) (hpa : plainE a = true)
    (hw : swappedStores [.Tuple [.Name x px, .Name y py] kt pt] (.Tuple [a, .List [] pl] k2 pt2) X.env = pure none) : PS X (.Assign [.Tuple [.Name x px, .Name y py] kt pt] (.Tuple [a, .List [] pl] k2 pt2) p) (rdS C F W (.parA i j c) E) := by
  have hpg := pg_tup (X := X) (n := 2) (pos := pt) (k := kt) g.calm (pgs_cons (pg_name (pos := px) (i := i) (by rw [g.hN]; exact g.nd) (by rw [g.hN]; exact hi) hx.1 hx.2) (pgs_cons (pg_name (pos := py) (i := j) (by rw [g.hN]; exact g.nd) (by rw [g.hN]; exact hj) hy.1 hy.2) pgs_nil))
  refine psImp (ps_asg (pe_tup (pa_cons ha (pa_cons (pe_lst pa_nil) pa_nil (plain_star rfl)) (plain_star hpa))) hpg rfl hw rfl) fun D σ H ⟨H0, mu0, r, st, mu, R, h⟩ => ?_
  unfold exec at h
  refine ⟨H0, mu0, r, st, mu, R, PostS.bind R h fun d st1 v H1 mu1 e1 s1 q1 h1 => ⟨Nat.zero_le _, fun q hq => ⟨small_line (show (2 : Nat) ≤ 1000 by decide), fun t ht => ?_⟩⟩⟩
  refine ⟨t, [v, .ref q], rfl, .inl (.inl upd_same), rfl, v, [.ref q], rfl, .ref q, [], rfl, rfl, ?_⟩
  have R2 := ((R.step e1 s1).set i q1).setOwn j hq .nil
  exact PostS.next h1 (R2.step (Ext.upd ht) (R2.srel.upd ht)) ((Ext.upd hq).trans (Ext.upd ht)).w
end
end Rt
set_option maxHeartbeats 2000000
namespace Rt
open PySem PySem.Spec PyProof.Rows L2 LamX
/-- tables stay tables -/
def TabK (H H' : Hp) : Prop := ∀ b ps, H b = some (.tbl ps) → ∃ ps', H' b = some (.tbl ps')
section
variable {X : Cx} {pins : List (Addr × Obj)} {σ : L2.St} {H : Hp} {s : Shared}
theorem lam_make3 {T : List (Addr × Str)} {c P : Addr} {params : Arguments} {body : Expr} {scope : Scope} {pos : Pos} {E : Value → Shared → Prop} {Q : Value → Shared → Prop} (I : Inv X pins σ H s) (TB : TabB X.base X.mg c P) (hcode : X.env.code = .ref c)
    (hm : (P, X.env.qual ++ "<lambda>") ∈ T) (hu : ∀ p ∈ T, p.1 = P → p.2 = X.env.qual ++ "<lambda>") (hT : Tabs T H) (hdef : defaultsOf params X.env = ([], [])) (hfree : ∀ y ∈ scope.names, y.2 = .free → ∃ c, X.env.cells.lookup y.1 = some c)
    (h : ∀ (f c' : Addr) (pm ctv : Value) (H1 : Hp) (s' : Shared), Inv X pins σ H1 s' → ExtN H H1 → TabK H H1 → Tabs T H1 →
      s'.heap.get? f = some (PySem.W.kla_obj "<lambda>" (X.env.qual ++ "<lambda>") params body scope (cloFrom X.env.cells scope.names []) pm c' ctv) → H1 f = none → f ∉ frs X.stack → H1 c' = some (CodeO c' (X.env.qual ++ "<lambda>")) → Q (.ref f) s') :
    wpAny (model X.prog X.w) X.A (eval (.Lambda params body scope pos) X.env) Q E s := by
  obtain ⟨ps, hP, ht, ha⟩ := hT _ hm
  have bP : s.heap.BuiltinsAt X.mg P := TB.bm.keeps I.bk
  have hP' : s.heap.get? P = some { cls := .none, data := .fields ps } := I.hok P _ hP
  have nofr : ∀ f, s.heap.objs.size ≤ f → f ∉ frs X.stack := fun f hf z => by
    rcases List.mem_cons.mp (I.stkSub _ z) with e | e
    · have h1 := I.lt
      rw [← e] at h1
      exact Nat.lt_irrefl _ (Nat.lt_of_lt_of_le h1 hf)
    · exact I.nofs hf e
  refine PySem.W.kla_eval hdef ?_
  cases hc : codeAmong pos ps.toList with
  | some cv =>
    obtain ⟨c', e, hco⟩ := ha pos cv hc
    subst e
    refine PySem.W.kla_makeFunctionHit (mg := X.mg) (c := c) (P := P) (ps := ps) (closure_ok hfree) I.ok.glob (I.mod.glob.keeps I.bk) hcode (TB.code.keeps I.bk) hP' ht hc bP fun ctv h' tk hx hsz => ?_
    have I1 : Inv X pins σ H { s with heap := h'.push (PySem.W.kla_obj "<lambda>" (X.env.qual ++ "<lambda>") params body scope (cloFrom X.env.cells scope.names []) ((X.mg "__name__").getD .none) c' ctv), toks := tk } := I.kept fun b o e => Heap.get?_push_of_some _ (hx b o e)
    exact h h'.objs.size c' ((X.mg "__name__").getD .none) ctv H _ I1 (ExtN.refl H) (fun b ps e => ⟨ps, e⟩) hT (Heap.get?_push_size _ rfl) (I.hok.fresh hsz) (nofr _ hsz) hco
  | none =>
    refine PySem.W.kla_makeFunction (mg := X.mg) (c := c) (P := P) (ps := ps) (closure_ok hfree) I.ok.glob (I.mod.glob.keeps I.bk) hcode (TB.code.keeps I.bk) hP' ht hc TB.gP bP fun c' ctv h' tk hx hge hlt hrec htb => ?_
    obtain ⟨c2, oc, vs, t, e2, hoc, hd, hv⟩ := hrec
    cases e2
    have hsz : s.heap.objs.size ≤ h'.objs.size := Nat.le_trans hge (Nat.le_of_lt hlt)
    have nC : H c' = none := I.hok.fresh hge
    generalize hH1 : upd (upd H P (.tbl (ps ++ #[rawInt pos.line, rawInt pos.col, .ref c']))) c' (CodeO c' (X.env.qual ++ "<lambda>")) = H1
    have at_ : ∀ b, b ≠ c' → b ≠ P → H1 b = H b := fun b n1 n2 => by rw [← hH1, upd_ne n1, upd_ne n2]
    have atC : H1 c' = some (CodeO c' (X.env.qual ++ "<lambda>")) := by rw [← hH1]; exact upd_same
    have atP : H1 P = some (.tbl (ps ++ #[rawInt pos.line, rawInt pos.col, .ref c'])) := by rw [← hH1, upd_ne (ne_of_none hP nC), upd_same]
    have I1 := inv_table (t' := tk) (more := #[rawInt pos.line, rawInt pos.col, .ref c']) (h' := h'.push (PySem.W.kla_obj "<lambda>" (X.env.qual ++ "<lambda>") params body scope (cloFrom X.env.cells scope.names []) ((X.mg "__name__").getD .none) c' ctv)) I hP
      (fun b o hb e => Heap.get?_push_of_some _ (hx b o hb e)) (Heap.get?_push_of_some _ htb) hge ⟨oc, vs, t, Heap.get?_push_of_some _ hoc, hd, hv⟩
    rw [hH1] at I1
    have hE : ExtN H H1 := fun b o e n => by
      rw [at_ b (ne_of_none e nC) (fun z => n ps (Option.some.inj (e.symm.trans (by rw [z]; exact hP))))]
      exact e
    have hK : TabK H H1 := fun b qs e => by
      by_cases hb : b = P
      · rw [hb]; exact ⟨_, atP⟩
      · rw [at_ b (ne_of_none e nC) hb]; exact ⟨qs, e⟩
    have eL : (ps ++ #[rawInt pos.line, rawInt pos.col, .ref c']).toList = ps.toList ++ [rawInt pos.line, rawInt pos.col, .ref c'] := by simp
    refine h h'.objs.size c' ((X.mg "__name__").getD .none) ctv H1 _ I1 hE hK (fun p hp => ?_) (Heap.get?_push_size _ rfl) ?_ (nofr _ hsz) atC
    · by_cases hb : p.1 = P
      · rw [hu p hp hb, hb]
        refine ⟨_, atP, by rw [eL]; exact PySem.TriplesOk_snoc _ _ _ _ ht, fun p' cv hcv => ?_⟩
        rw [eL] at hcv
        rcases among_app _ ht hcv with z | z
        · obtain ⟨c0, e1, e2⟩ := ha p' cv z
          exact ⟨c0, e1, hE _ _ e2 codeO_ne⟩
        · exact ⟨c', z, atC⟩
      · obtain ⟨ps', a1, a2, a3⟩ := hT p hp
        refine ⟨ps', by rw [at_ _ (ne_of_none a1 nC) hb]; exact a1, a2, fun p' cv hcv => ?_⟩
        obtain ⟨c0, e1, e2⟩ := a3 p' cv hcv
        exact ⟨c0, e1, hE _ _ e2 codeO_ne⟩
    · have n2 : h'.objs.size ≠ P := Nat.ne_of_gt (Nat.lt_of_lt_of_le (Heap.lt_size hP') hsz)
      rw [at_ _ (Nat.ne_of_gt hlt) n2]
      exact I.hok.fresh hsz
end
/-- the lambda's body: what it lets out has the context None -/
def lamCxN (X : Cx) (A : Around) (outer : List PySem.Env) (s : Shared) (H : Hp) (E : XK) (scope : Scope) (f c' : Addr) : Cx :=
  (lamCx X A outer s H E scope f c').tr [] (fun e s' => wpAny (model X.prog X.w) (A.deeper (lamEnv X scope s.heap.objs.size f c')) (leaving (lamEnv X scope s.heap.objs.size f c') e)
    (fun _ s'' => L2N.CX X.prog X.w outer H s E e s'') (fun e' s'' => L2N.CX X.prog X.w outer H s E e' s'') s')
section
variable {X : Cx} {pins : List (Addr × Obj)} {σ : L2.St} {H : Hp} {s : Shared}
theorem lam_takes {A : Around} {outer : List PySem.Env} {E : XK} {scope : Scope} {f c' : Addr} : L2N.Takes (lamCxN X A outer s H E scope f c') (fun cls d _ H => E cls d H) := L2N.takes_of rfl rfl rfl rfl
/-- x(), in the def that got the lambda -/
theorem pe_actN {CXg : CXT} {Eg : XK} {Ng : List Str} {qg : Str} {sg : Scope} {g f c' : Addr} {cdg pm ctv : Value} {params : Arguments} {body : Expr} {scope : Scope} {k i : Nat} {a : Str} {pn : List (Addr × Obj)} {xe : Value → Shared → Prop} {W : WX} {E : XK} {tb : TE} {p1 p2 : Pos}
    (I : Inv X pins σ H s) (L : LamS X.env.scope scope) (hf : s.heap.get? f = some (PySem.W.kla_obj "<lambda>" (X.env.qual ++ "<lambda>") params body scope (cloFrom X.env.cells scope.names []) pm c' ctv)) (hfn : H f = none) (hfr : f ∉ frs X.stack)
    (hbind : bindArgs (PySem.W.kla_fn "<lambda>" (X.env.qual ++ "<lambda>") params body scope (cloFrom X.env.cells scope.names []) pm (.ref c') ctv) ⟨[], []⟩ = pure [])
    (tk : L2N.Takes ((cxOf CXg X.prog X.w X.K X.mg X.base Ng qg sg g cdg X.A X.stack s H Eg).tr pn xe) W) (hW : ∀ cls d σ' H', E cls d H' → W cls d σ' H') (hr : Room (k + 1) (X.A.deeper (envOfC qg sg s.heap.objs.size g cdg)))
    (hbody : ∀ (A : Around) (outer : List PySem.Env) (s : Shared) (H : Hp), Room k (A.deeper (lamEnv X scope s.heap.objs.size f c')) → PE (lamCxN X A outer s H E scope f c') body tb)
    (hN : Ng[i]? = some a) (hv : Vis sg a) (hd : (a == ("__debug__" : Str)) = false) (hcd : (a == ("__classdict__" : Str)) = false) :
    PE ((cxOf CXg X.prog X.w X.K X.mg X.base Ng qg sg g cdg X.A X.stack s H Eg).tr pn xe) (.Call (.Name a p1) [] [] p2)
      (fun σZ HZ Q => σZ[i]? = some (some (.ref f)) ∧ HZ c' = some (CodeO c' (X.env.qual ++ "<lambda>")) ∧ tb σ HZ Q) := by
  refine ⟨fun pinsZ sZ σZ HZ Q IZ h => ?_⟩
  obtain ⟨hs, hc, ht⟩ := h
  refine wpAny_Call_Name_kw (thn ((pe_var (pos := p1) (i := i) hN hv hd hcd).run pinsZ sZ σZ HZ (fun v H1 => v = .ref f ∧ H1 = HZ) IZ ⟨.ref f, hs, rfl, rfl⟩) fun u s1 ⟨v, H1, I1, r1, ev, eH⟩ => ?_)
  subst ev
  rw [eH] at I1
  obtain rfl : u = Value.ref f := r1
  have of1 : s1.heap.get? f = some (PySem.W.kla_obj "<lambda>" (X.env.qual ++ "<lambda>") params body scope (cloFrom X.env.cells scope.names []) pm c' ctv) := I1.base.keep f _ hf hfn hfr (fun z => nomatch (show f ∈ ([] : List Addr) from z))
  refine PySem.W.callWith_F0 ⟨_, _, _, _, of1⟩ ?_
  have un : Un (frs X.stack) [] H HZ s.heap s1.heap := I1.base
  obtain ⟨⟨oc, vs, t, hoc, hdc, hvc⟩, _, _⟩ := I1.hok c' _ hc
  have rc : codeAny (model X.prog X.w) (X.A.deeper (envOfC qg sg s.heap.objs.size g cdg)) (.call (.ref f) ⟨[], []⟩) (CR (L2N.CX X.prog X.w) (envOfC qg sg s.heap.objs.size g cdg :: X.stack) X.prog X.w HZ s1 Q E) s1 := by
    refine PySem.W.kla_callFunE hr.depth of1 rfl L.co L.gen rfl ⟨c', oc, vs, t, rfl, hoc, hdc, hvc⟩ ?_
    rw [hbind]
    refine wpAny_pure (wpAny_newFunctionEnv (fun y hy => (L.own y hy).2) (fun y hy => absurd hy (by simp)) (fun h₁ hns hsb => ⟨I1.nolimit.fresh _ hsb, ?_⟩) L.kind)
    show codeAny _ _ (.expr body (lamEnv X scope s1.heap.objs.size f c')) _ _
    have kp : ∀ b o, s1.heap.get? b = some o → h₁.get? b = some o := fun b o e => hsb.extBut b o (Nat.ne_of_lt (Heap.lt_size e)) (Heap.get?_push_of_some _ e)
    have J0 := (lam_start2 (E := E) (f := f) (c' := c') (A := X.A.deeper (envOfC qg sg s.heap.objs.size g cdg)) (outer := envOfC qg sg s.heap.objs.size g cdg :: X.stack) (tk := s1.toks + ([] : List (Str × Value)).length) I L I1.env0 hr.hd un hns kp)
    have J : Inv (lamCxN X (X.A.deeper (envOfC qg sg s.heap.objs.size g cdg)) (envOfC qg sg s.heap.objs.size g cdg :: X.stack) s1 HZ E scope f c') [] σ HZ { s1 with heap := h₁, toks := s1.toks + ([] : List (Str × Value)).length } := J0.toTry _
    refine PySem.W.kla_codeExpr (wpAny_mono ((hbody _ _ s1 HZ (hr.deeper _)).run [] _ _ HZ Q J ht) (fun v s' hq => ?_) fun e s' hq => hq)
    obtain ⟨w', H', J', rv, q⟩ := hq
    exact ⟨w', H', J'.os, J'.bare, J'.base, J'.hok, rv, q⟩
  have hx := L2N.passes_call tk hW
  refine wpAny_call (codeAny_mono rc fun r s' hq => ?_)
  cases r with
  | error e => exact hx pinsZ σZ HZ s1 e s' I1 hq
  | ok fl =>
    cases fl with
    | ret u => exact I1.after hq
    | next => exact False.elim hq
    | brk => exact False.elim hq
    | cont => exact False.elim hq
end
end Rt
set_option maxHeartbeats 2000000
namespace Rt
open PySem PySem.Spec PyProof.Rows L2 LamX
/-- what is asked of what the body lets out: the clause takes it, and it may be returned -/
def wKeep (K : PySem.W.Frag) (c : Value) (D : Ends) : WX := fun cls d _ H => d = none ∧ PySem.W.exmOne K cls c = some true ∧ ∀ a, H a = none → D.rt (.ref a) (upd H a (excV cls a))
/-- behind the suite: the exception is a thing of the heap like others -/
theorem keepE {X : Cx} {pins : List (Addr × Obj)} {σ : L2.St} {H : Hp} {s : Shared} {a : Addr} {oe : Obj} {cls : Value} {vs : Array Value} (S : L2.Inv (X.suite a ((a, oe) :: (X.pn ++ pins))) [] σ H s) (ok : X.Ok) (new0 : X.s_0.heap.get? a = none) (np : ∀ p ∈ X.pn ++ pins, p.1 ≠ a)
    (hz : L2N.Zn cls none oe) (hd : oe.data = .fields vs) : L2.Inv X pins σ (upd H a (excV cls a)) s := by
  obtain ⟨hget, na, nL, nF, nC⟩ := S.pin (a, oe) (List.mem_append_left _ List.mem_cons_self)
  have U := S.unsuite ok
  have keep : ∀ b o, H b = some o → upd H a (excV cls a) b = some o := fun b o e => by rw [upd_ne (ne_of_none e na)]; exact e
  have none_ : ∀ b, b ≠ a → H b = none → upd H a (excV cls a) b = none := fun b n e => by rw [upd_ne n]; exact e
  refine { ok := ok, os := U.os, bare := U.bare, base := ?_, loc := U.loc, cell := U.cell, free := none_ _ (Ne.symm nL) U.free, freeC := fun x c e => ?_, pin := fun p hp => ?_, hok := fun b o e => ?_, len := U.len }
  · have tb : ∀ b ps, X.H_0 b = some (.tbl ps) → ∃ more, upd H a (excV cls a) b = some (.tbl (ps ++ more)) := fun b ps e => by
      obtain ⟨m, q⟩ := U.base.tbls b ps e
      exact ⟨m, keep _ _ q⟩
    have fr : ∀ b o, X.s_0.heap.get? b = some o → b ≠ a := fun b o e z => by
      rw [z, new0] at e
      cases e
    exact { keep := U.base.keep, slot := U.base.slot, there := U.base.there, tups := fun b xs e => keep _ _ (U.base.tups b xs e), frzs := fun b o xs e => keep _ _ (U.base.frzs b o xs e), tbls := tb, free := fun b o e n hx => none_ b (fr b o e) (U.base.free b o e n hx) }
  · refine none_ c (fun z => ?_) (U.freeC x c e)
    obtain ⟨v, o, ho, hc⟩ := U.cell x c e
    rw [z, hget] at ho
    cases ho
    exact nC v hc
  · obtain ⟨p1, p2, p3⟩ := U.pin p hp
    exact ⟨p1, none_ _ (np p hp) p2, p3⟩
  · by_cases hb : b = a
    · subst hb
      rw [upd_same] at e
      cases e
      refine ⟨⟨oe, vs, hget, hz, hd⟩, ⟨oe, hget⟩, fun h1 h2 ⟨oe1, vs1, g1, g2, g3⟩ kk => ⟨oe1, vs1, kk _ g1, g2, g3⟩⟩
    · rw [upd_ne hb] at e
      exact (U.hok b o e).stay (fun _ _ _ q => q) (fun c q => keep _ _ q) fun c xs q => keep _ _ q
section
variable {X : Cx} {x n : Str} {c : Value} {i : Nat} {body : List Stmt} {np p1 p2 pos pos' : Pos} {tb : WX → TS}
theorem ps_keep (hs : X.stack = X.env :: X.outer) (hf : X.env.frame = some X.env.locals) (hex : X.ex = []) (hN : X.N.Nodup) (hi : X.N[i]? = some n) (hln : X.env.kindOf n = some .local) (hd1 : (n == ("__debug__" : Str)) = false) (hd2 : (n == ("__classdict__" : Str)) = false) (hc : Names X x c)
    (hb : ∀ (W : WX) (pn : List (Addr × Obj)) (xe : Value → Shared → Prop), L2N.Takes (X.tr pn xe) W → PSs (X.tr pn xe) body (tb W)) :
    PS X (.Try body [.ExceptHandler (some (.Name x np)) (some n) [.Return (some (.Name n p1)) p2] pos'] [] [] pos) (fun D σ H => tb (wKeep X.K c D) D σ H) := by
  refine ⟨fun pins s σ H D I h => wpAny_Try_except ?_⟩
  have ok := I.ok
  let M := model X.prog X.w
  let hds : List ExceptHandler := [.ExceptHandler (some (.Name x np)) (some n) [.Return (some (.Name n p1)) p2] pos']
  let xe : Value → Shared → Prop := fun u t => wpAny M X.A (noteFrame u X.env) (fun _ t2 => wpAny M X.A (setFlight u none) (fun _ t3 => wpAny M X.A (handleBy u X.env hds) (SP X pins D) X.xe t3) X.xe t2) X.xe t
  have hfr : X.A.frames = some (X.env :: X.outer) := hs ▸ ok.frames
  have catch_ : L2N.Takes (X.tr (X.pn ++ pins) xe) (wKeep X.K c D) := by
    intro u t ⟨a, B, sI, pins', σ', H', cls, d, eu, J', nb, up, sky, na, os, ag, ed, hm, hret⟩
    subst eu
    subst ed
    have J : L2.Inv X pins σ' H' sI := J'.ofTry ok
    have sky2 : Sky B (X.env :: X.outer) a (L2N.Zn cls none) X.env.locals t.heap := hs ▸ sky
    show wpAny M X.A (noteFrame (.ref a) X.env) _ X.xe t
    refine L2N.Sky.land L2N.Zn.steady hfr hf sky2 fun h3 fl3 up3 => ?_
    have J3 : L2.Inv X pins σ' H' { t with heap := h3 } := J.landed nb fl3.1 (up.trans up3) os ag
    obtain ⟨oe3, vs3, he3, hz3, hd3⟩ := fl3.there
    have nfr : a ∉ frs (X.env :: X.outer) := fun hm => by
      obtain ⟨_, o', e', hnf⟩ := fl3.2.2.1.mem hm
      rw [he3] at e'
      cases e'
      exact hnf _ hd3
    have nL : a ≠ X.env.locals := fun z => nfr (List.mem_filterMap.mpr ⟨X.env, List.mem_cons_self, hf.trans (congrArg some z.symm)⟩)
    have nF : a ∉ X.fs := fun hm => by
      obtain ⟨e, he, q⟩ := List.mem_filterMap.mp hm
      exact nfr (List.mem_filterMap.mpr ⟨e, List.mem_cons_of_mem _ he, q⟩)
    have newI : sI.heap.get? a = none := by
      cases q : sI.heap.get? a with
      | none => rfl
      | some o =>
        have z := nb a o q (by rw [hs]; exact nfr)
        rw [fl3.2.1] at z
        cases z
    have new0 : X.s_0.heap.get? a = none := by
      cases q : X.s_0.heap.get? a with
      | none => rfl
      | some o =>
        obtain ⟨o', z⟩ := J.base.there a o q (by rw [hex]; simp)
        rw [newI] at z
        cases z
    have npn : ∀ p ∈ X.pn ++ pins, p.1 ≠ a := fun p hp z => by
      obtain ⟨q, _⟩ := J.pin p hp
      rw [z, newI] at q
      cases q
    have S3 := J3.suite he3 hd3 na nL nF
    refine wpAny_handleBy_cons (codeAny_handlers_test ?_) fun q => nomatch q
    have LT : PySem.W.Looks M h3 (typeOf (.ref a)) cls := fun A Q E s k q => wpAny_typeOf_ref (k _ _ he3) (by rw [hz3.1]; exact q)
    have LM := PySem.W.exm_one (M := M) J3.kIn LT hm
    have look : ∀ {Q E : Value → Shared → Prop}, Q c { t with heap := h3 } → wpAny M (X.A.mark (some (.ref a))) (eval (.Name x np) X.env) Q E { t with heap := h3 } := fun {Q E} q => by
      obtain ⟨hg, hdbg, g1 | ⟨g1, g2, g3⟩⟩ := hc
      · exact ld_glob (X := X.suite a ((a, oe3) :: (X.pn ++ pins))) S3 hg g1 q hdbg
      · exact ld_blt (X := X.suite a ((a, oe3) :: (X.pn ++ pins))) S3 hg g1 g2 q g3 hdbg
    refine look (LM.here (codeAny_handlers_suite_as (HandSPX.lands_againZ fl3 fun h4 fl4 up4 => ?_)))
    have J4 : L2.Inv X pins σ' H' { t with heap := h4 } := J.landed nb fl4.1 ((up.trans up3).trans up4) os ag
    obtain ⟨oe4, vs4, he4, hz4, hd4⟩ := fl4.there
    have S4 := J4.suite he4 hd4 na nL nF
    refine store_ok (X := X.suite a ((a, oe4) :: (X.pn ++ pins))) (v := .ref a) S4 hN hi (.inl hln) rfl (fun s5 S5 => ?_) (.inr hln)
    have hlt : i < σ'.length := by rw [J.len]; exact (List.getElem?_eq_some_iff.mp hi).1
    have run := (pss_one (ps_ret (pos := p2) (pe_var (X := X.suite a ((a, oe4) :: (X.pn ++ pins))) (pos := p1) (i := i) hi (.inl hln) hd1 hd2))).run [] s5 _ H' { nx := fun _ _ => False, rt := fun v Hz => v = .ref a ∧ Hz = H' } S5 ⟨.ref a, List.getElem?_set_self hlt, rfl, rfl⟩
    refine wpAny_mono run (fun f s6 hsp => ?_) fun _ _ z => False.elim z
    cases f with
    | ret u =>
      obtain ⟨v6, σ6, H6, S6, r6, rfl, rfl⟩ := hsp
      exact gone_ok (keepE S6 ok new0 npn hz4 hd4) hN hi hln fun s7 J7 => ⟨_, _, _, J7, r6, hret a na⟩
    | next => obtain ⟨_, _, _, z⟩ := hsp; exact z.elim
    | brk => obtain ⟨_, _, _, z⟩ := hsp; exact z.elim
    | cont => obtain ⟨_, _, _, z⟩ := hsp; exact z.elim
  refine wpAny_mono ((hb _ _ xe catch_).run [] s σ H D (I.toTry _) h) (fun f s1 hsp => ?_) fun e s1 he => he
  cases f with
  | next =>
    obtain ⟨σ', H', J', q⟩ := hsp
    exact wpAny_execs_nil ⟨σ', H', J'.ofTry ok, q⟩
  | brk => obtain ⟨σ', H', J', q⟩ := hsp; exact ⟨σ', H', J'.ofTry ok, q⟩
  | cont => obtain ⟨σ', H', J', q⟩ := hsp; exact ⟨σ', H', J'.ofTry ok, q⟩
  | ret u => obtain ⟨v, σ', H', J', r, q⟩ := hsp; exact ⟨v, σ', H', J'.ofTry ok, r, q⟩
end
end Rt
set_option maxHeartbeats 2000000
namespace Rt
open PySem PySem.Spec PyProof.Rows L2 LamX
def isMet : List Stmt → Bool
  | [.Try [.Expr (.Call (.Name d _) [] [] _) _] [.ExceptHandler (some (.Name r _)) (some n) [.Return (some (.Name n2 _)) _] _] [] [] _, .Return (some (.Constant .none _ _)) _] =>
    decide (d = "deed") && (decide (r = "RangeError") && (decide (n = "e") && decide (n2 = "e")))
  | _ => false
/-- what is let out of the deed: one of the twelve; it is returned -/
def metE (ca : Nat → Addr) (Q : VK) : XK := fun cls d H => ∃ n, n < 12 ∧ cls = .ref (ca n) ∧ d = none ∧ ∀ a, H a = none → Q (.ref a) (upd H a (excV (.ref (ca n)) a))
structure MetK (K : PySem.W.Frag) (mg : Str → Option Value) (ca : Nat → Addr) (g : Addr) (fd : FuncData) (params : Arguments) (body : List Stmt) (scope : Scope) (CS : Addr) : Prop where
  fn : FunD K "_law_met" "_law_met" params body scope [] [] g fd
  gl : mg "_law_met" = some (.ref g)
  bind : Binds K fd ["deed"] []
  sc : FnScope ["deed", "e"] ["deed"] scope
  ck : isMet body = true
  names : Vis scope "deed" ∧ scope.names.lookup ("e" : Str) = some .local ∧ scope.names.lookup ("RangeError" : Str) = some .globalImplicit
  re : mg "RangeError" = some (.ref CS)
  exm : ∀ n, n < 12 → PySem.W.exmOne K (.ref (ca n)) (.ref CS) = some true
section
variable {P : Program} {w : World} {K : PySem.W.Frag} {mg : Str → Option Value} {base : Heap} {ca : Nat → Addr} {g CS : Addr} {fd : FuncData} {params : Arguments} {body : List Stmt} {scope : Scope}
theorem met_body (T : MetK K mg ca g fd params body scope CS) {A : Around} {outer : List PySem.Env} {s : Shared} {H : Hp} {cdv : Value} {f c' : Addr} {q : Str} {tl : XK → Hp → VK → Prop} {Q : VK}
    (act : ∀ (W : WX) (pn : List (Addr × Obj)) (xe : Value → Shared → Prop) (E : XK) (p1 p2 : Pos), L2N.Takes ((cxOf (L2N.CX P w) P w K mg base ["deed", "e"] "_law_met" scope g cdv A outer s H (fun _ _ _ => False)).tr pn xe) W → (∀ cls d σ' H', E cls d H' → W cls d σ' H') →
      PE ((cxOf (L2N.CX P w) P w K mg base ["deed", "e"] "_law_met" scope g cdv A outer s H (fun _ _ _ => False)).tr pn xe) (.Call (.Name "deed" p1) [] [] p2) (fun σZ HZ Q => σZ[0]? = some (some (.ref f)) ∧ HZ c' = some (CodeO c' q) ∧ tl E HZ Q))
    (hc : H c' = some (CodeO c' q)) (h : tl (metE ca Q) H fun _ H2 => Q .non H2) :
    ∃ t, PSs (cxOf (L2N.CX P w) P w K mg base ["deed", "e"] "_law_met" scope g cdv A outer s H (fun _ _ _ => False)) body t ∧ t { nx := fun _ H' => Q .non H', rt := Q } (L2.start ["deed", "e"] [.ref f]) H := by
  have ck := T.ck
  unfold isMet at ck
  split at ck
  · simp only [Bool.and_eq_true, decide_eq_true_eq] at ck
    obtain ⟨rfl, rfl, rfl, rfl⟩ := ck
    refine ⟨_, pss_cons (ps_keep (X := cxOf (L2N.CX P w) P w K mg base ["deed", "e"] "_law_met" scope g cdv A outer s H (fun _ _ _ => False)) (c := .ref CS) (i := 1)
      (tb := fun W D σ H => ∃ Ech : XK, (∀ cls d σ' H', Ech cls d H' → W cls d σ' H') ∧ σ[0]? = some (some (.ref f)) ∧ H c' = some (CodeO c' q) ∧ tl Ech H fun _ H2 => D.nx σ H2)
      rfl rfl rfl T.sc.nd rfl T.names.2.1 (by decide +kernel) (by decide +kernel) ⟨T.names.2.2, by decide +kernel, .inl T.re⟩ (fun W pn xe tk => ?_)) (pss_one (ps_ret pe_non)), ?_⟩
    · refine ⟨fun pins s' σ H' D I ⟨Ech, hW, h1, h2, h3⟩ => ?_⟩
      exact (pss_one (ps_expr (act W pn xe Ech _ _ tk hW))).run pins s' σ H' D I ⟨h1, h2, h3⟩
    · refine ⟨metE ca Q, fun cls d σ' H' ⟨n, hn, e1, e2, e3⟩ => ?_, rfl, hc, h⟩
      subst e1 e2
      exact ⟨rfl, T.exm n hn, e3⟩
  · cases ck
end
def tMet (T : List (Addr × Str)) (ca : Nat → Addr) (t : XK → TE) : TE := fun σ H Q => Tabs T H ∧ ∀ H1, ExtN H H1 → TabK H H1 → Tabs T H1 → t (metE ca Q) σ H1 fun _ H2 => Q .non H2
theorem pe_met {X : Cx} {T : List (Addr × Str)} {ca : Nat → Addr} {g CS c P : Addr} {fd : FuncData} {params pl : Arguments} {body : List Stmt} {scope ls : Scope} {le : Expr} {k : Nat} {t : XK → TE} {p lpos pos : Pos}
    (hg : Gl X "_law_met") (D : MetK X.K X.mg ca g fd params body scope CS)
    (TB : TabB X.base X.mg c P) (hcode : X.env.code = .ref c) (hmT : (P, X.env.qual ++ "<lambda>") ∈ T) (hu : ∀ p ∈ T, p.1 = P → p.2 = X.env.qual ++ "<lambda>") (hr : Room (k + 2) X.A) (L : LamS X.env.scope ls) (hdef : defaultsOf pl X.env = ([], []))
    (hbind : ∀ (q : Str) (cl : List (Str × Addr)) (pm cv ctv : Value), bindArgs (PySem.W.kla_fn "<lambda>" q pl le ls cl pm cv ctv) ⟨[], []⟩ = pure [])
    (hbody : ∀ (A : Around) (outer : List PySem.Env) (s : Shared) (H : Hp) (E : XK) (f c' : Addr), Room k (A.deeper (lamEnv X ls s.heap.objs.size f c')) → PE (lamCxN X A outer s H E ls f c') le (t E)) :
    PE X (.Call (.Name "_law_met" p) [.Lambda pl le ls lpos] [] pos) (tMet T ca t) := by
  refine ⟨fun pins s σ H Q I h => ?_⟩
  obtain ⟨hT, h⟩ := h
  refine wpAny_Call_Name_kw (ld_glob I hg D.gl ?_ (by decide +kernel))
  refine PySem.W.callWith_K (h₀ := X.base) I.ok.mod.kin D.fn.kp ?_ (by rfl) (by rfl)
  show wpAny _ _ (spliced ((false, eval (.Lambda pl le ls lpos) X.env) :: backTo pos (starEach [] X.env))) _ _ s
  refine Calls.spliced_cons (lam_make3 I TB hcode hmT hu hT hdef (L.has I.ok) fun f c' pm' ctv H1 s' I1 eN eT T1 hf hfn hfr hco => ?_)
  refine Calls.spliced_nil ⟨I1.kIn, ?_⟩
  have b := D.bind s' [.ref f] I1.kIn rfl
  rw [List.append_nil] at b
  obtain ⟨oc, od, dV, kV, doc, pm, an, cdv, ct, osl, efd, lk, hcod, _, _⟩ := D.fn.ex
  subst efd
  have rc : codeAny (model X.prog X.w) X.A (.call (.ref g) ⟨[.ref f], []⟩) (CR (L2N.CX X.prog X.w) X.stack X.prog X.w H1 s' Q (fun _ _ _ => False)) s' := by
    refine run_ofS (N := ["deed", "e"]) (ps := ["deed"]) (us := [.ref f]) (vs := [.ref f]) lk hcod D.sc hr I1.env0 b (.cons rfl .nil) rfl fun hr' => ?_
    exact met_body D (fun W pn xe E p1 p2 tk hW => pe_actN (i := 0) I1 L hf hfn hfr (hbind _ _ _ _ _) tk hW hr' (fun A outer s H hr2 => hbody A outer s H E f c' hr2) rfl D.names.1 (by decide +kernel) (by decide +kernel)) hco (h H1 eN eT T1)
  refine wpAny_call (codeAny_mono rc fun r s2 hq => ?_)
  cases r with
  | error e =>
    obtain ⟨_, _, _, _, _, _, _, _, _, _, _, _, z⟩ := hq
    exact z.elim
  | ok fl =>
    cases fl with
    | ret u => exact I1.after hq
    | next => exact False.elim hq
    | brk => exact False.elim hq
    | cont => exact False.elim hq
end Rt
set_option maxHeartbeats 2000000
namespace Rt
open PySem PySem.Spec PyProof.Rows L2 LamX
section
variable {C : Cn} {G : Gam} {F : Nat → List D → Sto → Res D} {k : Nat} {X : Cx} {E : XK}
theorem ev_metE {c : Rt.E} {r : Env} {st : Sto} : ev F (.met c) r st = metD (ev F c r st) := by rw [ev]
theorem Good.lam (g : Good C G F k X E) {A : Around} {outer : List PySem.Env} {s : Shared} {H : Hp} {E' : XK} {ls : Scope} {f c' : Addr} (hr : Room (k + 1) (A.deeper (lamEnv X ls s.heap.objs.size f c'))) : Good C G F k (lamCxN X A outer s H E' ls f c') E' :=
  { hK := g.hK, hN := g.hN, nd := g.nd, dbg := g.dbg, calm := rfl, room := hr, tk := ⟨_, _, _, rfl, rfl, rfl, takesL_of (lam_takes (X := X) (A := A) (outer := outer) (s := s) (H := H) (E := E') (scope := ls) (f := f) (c' := c'))⟩, blt := g.blt, fns := g.fns, exf := g.exf, dsk := g.dsk, mth := g.mth, mke := g.mke, xi := g.xi, hca := g.hca }
theorem ext_lam {mu : List Addr} {H H1 : Hp} (a : ExtN H H1) (b : TabK H H1) : Ext mu mu H H1 :=
  ⟨⟨[], by simp⟩, fun b o h _ n => a b o h n, fun b xs h _ => a b _ h (fun _ z => by cases z), fun p ps h => b p ps h, fun _ h n => absurd h n, fun b C dx fs h _ => a b _ h (fun _ z => by cases z)⟩
theorem srel_lam {mu : List Addr} {st : Sto} {H H1 : Hp} (s : SRel C H mu st) (a : ExtN H H1) (b : TabK H H1) (t : Tabs C.T H1) : SRel C H1 mu st :=
  ⟨s.len, s.nd, fun n p ds h1 h2 => by
    exact (s.cel n p ds h1 h2).mono (ext_lam a b).w fun o q hm => a _ _ q (fun _ z => by subst z; cases hm), t⟩
theorem sMet (g : Good C G F k X E) {CS gA c P : Addr} {fd : FuncData} {params pl : Arguments} {body : List Stmt} {scope ls : Scope} {le : Expr} {cc : Rt.E} {p lpos pos : Pos}
    (hg : Gl X "_law_met") (D : MetK X.K X.mg C.ca gA fd params body scope CS)
    (TB : TabB X.base X.mg c P) (hcode : X.env.code = .ref c) (hmT : (P, X.env.qual ++ "<lambda>") ∈ C.T) (hu : ∀ p ∈ C.T, p.1 = P → p.2 = X.env.qual ++ "<lambda>") (hr : Room (k + 1 + 2) X.A) (L : LamS X.env.scope ls) (hdef : defaultsOf pl X.env = ([], []))
    (hbind : ∀ (q : Str) (cl : List (Str × Addr)) (pm cv ctv : Value), bindArgs (PySem.W.kla_fn "<lambda>" q pl le ls cl pm cv ctv) ⟨[], []⟩ = pure [])
    (hck : ckE G.N G.fnm cc ls le = true) :
    PE X (.Call (.Name "_law_met" p) [.Lambda pl le ls lpos] [] pos) (rdE C F (.met cc) E) := by
  refine peImp (pe_met (t := fun E' => rdE C F cc E') hg D TB hcode hmT hu hr L hdef hbind fun A outer s H E' f1 c' hr' => ?_) fun σ H Q ⟨H0, mu0, r, st, mu, R, h⟩ => ?_
  · have g' := g.lam (outer := outer) (s := s) (H := H) (E' := E') hr'
    exact (sndE cc _ _ _ g' hck).1
  · refine ⟨R.srel.tabs, fun H1 a b t => ⟨H0, mu0, r, st, mu, R.step (ext_lam a b) (srel_lam R.srel a b t), ?_⟩⟩
    rw [ev_metE] at h
    have h1 := Post.mono h (ext_lam (mu := mu) a b)
    cases z : ev F cc r st with
    | ok d st1 => rw [z] at h1; exact fun v H' mu' e s q => h1 .non H' mu' e s .non
    | bad => rw [z] at h1; exact h1
    | exc n st1 =>
      rw [z] at h1
      unfold metD at h1
      split at h1
      · next z2 =>
        cases z2
        split at h1
        · next hn =>
          intro H' mu' e1 s1
          refine ⟨n, hn, rfl, rfl, fun p hp => ?_⟩
          have h2 := Post.mono h1 e1
          refine h2 _ _ mu' (Ext.upd hp) (s1.upd hp) (.exc ?_)
          rw [← g.hca n]
          exact upd_same
        · exact h1.elim
      · next z2 => cases z2
      · next z2 => cases z2
end
end Rt
set_option maxHeartbeats 2000000
namespace Rt
open PySem PySem.Spec PyProof.Rows L2 LamX
/-- no parameters -/
def noArgs : Arguments → Bool
  | ⟨[], [], none, [], [], none, []⟩ => true
  | _ => false
theorem noArgs_eq {a : Arguments} (h : noArgs a = true) : a = ⟨[], [], none, [], [], none, []⟩ := by
  unfold noArgs at h
  split at h
  · rfl
  · cases h
section
variable (N : List Str) (fnm : Nat → Option Str)
def ckMet (c : E) (sc : Scope) : Expr → Bool
  | .Call (.Name g _) [.Lambda pl le ls _] [] _ => decide (g = "_law_met") && (glB sc g && (noArgs pl && (lamSB sc ls && ckE N fnm c ls le)))
  | _ => false
def ckX (sc : Scope) : E → Expr → Bool
  | .met c, e => ckMet N fnm c sc e
  | .cmp op a b, e => (match e with
    | .Compare x [o] [y] p => cmpB op o && (ckX sc a x && ckE N fnm b sc y)
    | _ => false)
  | .or a b, e => (match e with
    | .BoolOp .Or [x, y] p => ckX sc a x && ckX sc b y
    | e => ckE N fnm (.or a b) sc e)
  | c, e => ckE N fnm c sc e
end
/-- what a def that meets must know -/
structure MetF (C : Cn) (k : Nat) (X : Cx) : Prop where
  ex : ∃ (CS gA c P : Addr) (fd : FuncData) (params : Arguments) (body : List Stmt) (scope : Scope), MetK X.K X.mg C.ca gA fd params body scope CS ∧
    TabB X.base X.mg c P ∧ X.env.code = .ref c ∧ (P, X.env.qual ++ "<lambda>") ∈ C.T ∧ (∀ p ∈ C.T, p.1 = P → p.2 = X.env.qual ++ "<lambda>") ∧ Room (k + 1 + 2) X.A
section
variable {C : Cn} {G : Gam} {F : Nat → List D → Sto → Res D} {k : Nat} {X : Cx} {E : XK}
theorem ckMet_plain {N : List Str} {fnm : Nat → Option Str} {c : Rt.E} {sc : Scope} {e : Expr} (h : ckMet N fnm c sc e = true) : ∃ g as p, e = .Call g as [] p := by
  unfold ckMet at h
  split at h
  · exact ⟨_, _, _, rfl⟩
  · cases h
theorem sndMet (g : Good C G F k X E) (t : MetF C k X) {cc : Rt.E} {e : Expr} (h : ckMet G.N G.fnm cc X.env.scope e = true) : Both C F X E (.met cc) e := by
  obtain ⟨g0, as, p, e0⟩ := ckMet_plain h
  have key : PE X e (rdE C F (.met cc) E) := by
    unfold ckMet at h
    split at h
    · simp only [Bool.and_eq_true, decide_eq_true_eq] at h
      obtain ⟨rfl, h1, h2, h3, h4⟩ := h
      have h2 := noArgs_eq h2
      subst h2
      obtain ⟨CS, gA, c, P, fd, params, body, scope, t1, t3, t4, t5, t6, t7⟩ := t.ex
      exact sMet g (gl_of h1) t1 t3 t4 t5 t6 t7 (lamS_by h3) rfl (fun q cl pm cv ctv => rfl) h4
    · cases h
  rw [e0] at key ⊢
  exact both key fun _ => rfl
theorem sndX (g : Good C G F k X E) (t : MetF C k X) : ∀ (c : Rt.E) (e : Expr), ckX G.N G.fnm X.env.scope c e = true → Both C F X E c e
  | .met c, e, h => by
    simp only [ckX] at h
    exact sndMet g t h
  | .cmp op a b, e, h => by
    simp only [ckX] at h
    split at h
    · simp only [Bool.and_eq_true] at h
      rw [cmpB_eq h.1]
      have ha := (sndX g t a _ h.2.1).1
      have hb := (sndE b X E _ g h.2.2).1
      have hm := plain_mark (op := cmpOf op) (ck_plain h.2.2)
      exact ⟨sCmp g ha hb hm, tCmp g ha hb hm⟩
    · cases h
  | .or a b, e, h => by
    simp only [ckX] at h
    split at h
    · simp only [Bool.and_eq_true] at h
      have ha := sndX g t a _ h.1
      have hb := sndX g t b _ h.2
      exact ⟨sOr ha.1 (pe_one hb.1), (tOr' ha.2 (pw_or1 hb.2)).pt⟩
    · exact sndE _ X E _ g h
  | .var i, e, h => by simp only [ckX] at h; exact sndE _ X E _ g h
  | .int i, e, h => by simp only [ckX] at h; exact sndE _ X E _ g h
  | .bl i, e, h => by simp only [ckX] at h; exact sndE _ X E _ g h
  | .non, e, h => by simp only [ckX] at h; exact sndE _ X E _ g h
  | .str i, e, h => by simp only [ckX] at h; exact sndE _ X E _ g h
  | .tup i, e, h => by simp only [ckX] at h; exact sndE _ X E _ g h
  | .lst i, e, h => by simp only [ckX] at h; exact sndE _ X E _ g h
  | .cel i, e, h => by simp only [ckX] at h; exact sndE _ X E _ g h
  | .bin i a b, e, h => by simp only [ckX] at h; exact sndE _ X E _ g h
  | .neg a, e, h => by simp only [ckX] at h; exact sndE _ X E _ g h
  | .not a, e, h => by simp only [ckX] at h; exact sndE _ X E _ g h
  | .chain a b c d f, e, h => by simp only [ckX] at h; exact sndE _ X E _ g h
  | .and a b, e, h => by simp only [ckX] at h; exact sndE _ X E _ g h
  | .ite a b c, e, h => by simp only [ckX] at h; exact sndE _ X E _ g h
  | .rep a b, e, h => by simp only [ckX] at h; exact sndE _ X E _ g h
  | .sub a b, e, h => by simp only [ckX] at h; exact sndE _ X E _ g h
  | .subo a b, e, h => by simp only [ckX] at h; exact sndE _ X E _ g h
  | .slice a b c, e, h => by simp only [ckX] at h; exact sndE _ X E _ g h
  | .rev a, e, h => by simp only [ckX] at h; exact sndE _ X E _ g h
  | .call a b, e, h => by simp only [ckX] at h; exact sndE _ X E _ g h
  | .bi a b, e, h => by simp only [ckX] at h; exact sndE _ X E _ g h
  | .comp a b c d f, e, h => by simp only [ckX] at h; exact sndE _ X E _ g h
  | .comp2 a b c d f i j, e, h => by simp only [ckX] at h; exact sndE _ X E _ g h
  | .m1 a b c, e, h => by simp only [ckX] at h; exact sndE _ X E _ g h
  | .compX a b c d, e, h => by simp only [ckX] at h; exact sndE _ X E _ g h
  | .fld a b, e, h => by simp only [ckX] at h; exact sndE _ X E _ g h
  | .meth a b c, e, h => by simp only [ckX] at h; exact sndE _ X E _ g h
  | .make a b, e, h => by simp only [ckX] at h; exact sndE _ X E _ g h
  | .lenO a b, e, h => by simp only [ckX] at h; exact sndE _ X E _ g h
  | .told a, e, h => by simp only [ckX] at h; exact sndE _ X E _ g h
  | .isx a b, e, h => by simp only [ckX] at h; exact sndE _ X E _ g h
/-- a display with one item -/
def ckLi (N : List Str) (fnm : Nat → Option Str) (sc : Scope) : Es → List Expr → Bool
  | .cons (.met c) .nil, [e] => ckMet N fnm c sc e
  | es, xs => ckEs N fnm es sc xs
theorem sndL (g : Good C G F k X E) (t : MetF C k X) {es : Es} {xs : List Expr} (h : ckLi G.N G.fnm X.env.scope es xs = true) : PA X xs (rdEs C F es E) := by
  unfold ckLi at h
  split at h
  · have hs := (sndMet g t h).1
    obtain ⟨_, _, _, rfl⟩ := ckMet_plain h
    exact sCons hs sNil rfl
  · exact sndEs _ X E _ g h
/-- an assigned one: no comprehension, or as before -/
theorem ckX_swaps {N : List Str} {fnm : Nat → Option Str} {sc : Scope} {c : Rt.E} {e : Expr} (h : ckX N fnm sc c e = true) : ckE N fnm c sc e = true ∨ ∀ t l env, swapsWith e t l env = pure false := by
  cases c with
  | met c =>
    simp only [ckX] at h
    obtain ⟨_, _, _, rfl⟩ := ckMet_plain h
    exact .inr fun _ _ _ => rfl
  | cmp op a b =>
    simp only [ckX] at h
    split at h
    · exact .inr fun _ _ _ => rfl
    · cases h
  | or a b =>
    simp only [ckX] at h
    split at h
    · exact .inr fun _ _ _ => rfl
    · exact .inl h
  | _ => simp only [ckX] at h; exact .inl h
end
end Rt
set_option maxHeartbeats 4000000
namespace Rt
open PySem PySem.Spec PyProof.Rows L2
def lcB (sc : Scope) (x : Str) : Bool := decide (sc.names.lookup x = some .local)
/-- a tuple of targets that is not stored name by name from the right -/
def noSw (sc : Scope) : Expr → Expr → Bool
  | .Tuple ts _ _, .Tuple vs _ _ => (((ts.filterMap fun
      | .Name id pos => if sc.names.lookup id == some .local && pos.line == (ts.head?.map (·.pos.line)).getD 0 then some id else none
      | _ => none).length != ts.length) || vs.all (foldedForSure 8))
  | .Tuple _ _ _, _ => true
  | _, _ => false
/-- an expression of a statement's level -/
def ckV (N : List Str) (fnm : Nat → Option Str) (td : Bool) (sc : Scope) (c : E) (e : Expr) : Bool := if td then ckX N fnm sc c e else ckE N fnm c sc e
/-- a list's items -/
def ckLV (N : List Str) (fnm : Nat → Option Str) (td : Bool) (sc : Scope) (es : Es) (xs : List Expr) : Bool := if td then ckLi N fnm sc es xs else ckEs N fnm es sc xs
/-- what is appended -/
def ckA (N : List Str) (fnm : Nat → Option Str) (td : Bool) (sc : Scope) (c : E) (e : Expr) : Bool := match td, c with
  | true, .met c => ckMet N fnm c sc e
  | _, c => ckE N fnm c sc e
section
variable (N : List Str) (fnm exn : Nat → Option Str) (td : Bool) (sc : Scope)
mutual
def ckS : S → Stmt → Bool
  | .pass, .Pass _ => true
  | .asg i e, .Assign [.Name x _] v _ => decide (N[i]? = some x) && (locB sc x && ckV N fnm td sc e v)
  | .asgL i es, .Assign [.Name x _] (.List xs _) _ => decide (N[i]? = some x) && (locB sc x && (decide (es.len ≤ 1000) && ckLV N fnm td sc es xs))
  | .asgC i a b, .Assign [.Name x _] (.BinOp y .Add z _) _ => decide (N[i]? = some x) && (locB sc x && (ckE N fnm a sc y && ckE N fnm b sc z))
  | .asgR i es b, .Assign [.Name x _] (.BinOp (.List xs _) .Mult z _) _ => decide (N[i]? = some x) && (locB sc x && (decide (es.len ≤ 1000) && (ckEs N fnm es sc xs && ckE N fnm b sc z)))
  | .asgO i (.comp tg it cond elt own), .Assign [.Name x p2] (.ListComp e [⟨tg', iter, ifs, n⟩] scope pos) _ => decide (N[i]? = some x) && (lcB sc x && ((p2.line == pos.line) && (!(scope.names.any fun (n, k) => n == x && (k == .local || k == .cell)) &&
      ckE N fnm (.comp tg it cond elt own) sc (.ListComp e [⟨tg', iter, ifs, n⟩] scope pos))))
  | .parA i j e, .Assign [.Tuple [.Name x px, .Name y py] kt pt] (.Tuple [a, .List [] pl] k2 pt2) _ => decide (N[i]? = some x) && (decide (N[j]? = some y) && (decide (i ≠ j) && (ckE N fnm e sc a && ((lcB sc x && (lcB sc y && (decide (py.line = px.line) &&
      (!([a, .List [] pl].all (foldedForSure 8)) && !([a, .List [] pl].all (constantsAlone 8)))))) || (locB sc x && (locB sc y && noSw sc (.Tuple [.Name x px, .Name y py] kt pt) (.Tuple [a, .List [] pl] k2 pt2)))))))
  | .parB i j e, .Assign [.Tuple [.Name x px, .Name y py] _ _] (.Tuple [.List [] pl, a] _ _) _ => decide (N[i]? = some x) && (decide (N[j]? = some y) && (decide (i ≠ j) && (ckE N fnm e sc a && (lcB sc x && (lcB sc y && (decide (py.line = px.line) &&
      (!([.List [] pl, a].all (foldedForSure 8)) && !([.List [] pl, a].all (constantsAlone 8)))))))))
  | .par [i, j] es, .Assign [.Tuple [.Name x px, .Name y py] _ _] (.Tuple [a, b] _ _) _ => decide (N[i]? = some x) && (decide (N[j]? = some y) && (decide (i ≠ j) && (lcB sc x && (lcB sc y && (decide (py.line = px.line) &&
      (!([a, b].all (foldedForSure 8)) && (!([a, b].all (constantsAlone 8)) && ckEs N fnm es sc [a, b])))))))
  | .par [i, j, l] es, .Assign [.Tuple [.Name x px, .Name y py, .Name z pz] _ _] (.Tuple [a, b, c] _ _) _ => decide (N[i]? = some x) && (decide (N[j]? = some y) && (decide (N[l]? = some z) && (decide (i ≠ j) && (decide (i ≠ l) && (decide (j ≠ l) && (lcB sc x && (lcB sc y && (lcB sc z &&
      (decide (py.line = px.line) && (decide (pz.line = px.line) && (!([a, b, c].all (foldedForSure 8)) && (!([a, b, c].all (constantsAlone 8)) && ckEs N fnm es sc [a, b, c]))))))))))))
  | .unp tg e, .Assign [t] v _ => ckT N (locB sc) tg t && (noSw sc t v && ckE N fnm e sc v)
  | .app i e, .Expr (.Call (.Attribute (.Name x _) m p2) [v] [] p3) _ => decide (N[i]? = some x) && (visB sc x && (decide (m = "append") && ((p2.endLine == p3.line) && ckA N fnm td sc e v)))
  | .setI i x e, .Assign [.Subscript (.Name n _) y _] v _ => decide (N[i]? = some n) && (visB sc n && (ckE N fnm x sc y && ckE N fnm e sc v))
  | .setI2 i x y e f, .Assign [.Tuple [.Subscript (.Name n _) a _, .Subscript (.Name n2 _) b _] _ _] (.Tuple [v, w] _ _) _ => decide (N[i]? = some n) && (decide (n2 = n) && (visB sc n && (ckE N fnm x sc a && (ckE N fnm y sc b && ckEs N fnm (.cons e (.cons f .nil)) sc [v, w]))))
  | .aug i e, .AugAssign (.Name x _) .Add v _ => decide (N[i]? = some x) && (locB sc x && ckE N fnm e sc v)
  | .ex e, .Expr (.Call f as ks p) _ => ckE N fnm e sc (.Call f as ks p)
  | .ret e, .Return (some v) _ => ckV N fnm td sc e v
  | .ifs c a b, .If t x y _ => ckV N fnm td sc c t && (ckSs a x && ckSs b y)
  | .fors tg it b, .For t iter body [] _ => ckT N (locB sc) tg t && (ckI N fnm it sc t iter && ckSs b body)
  | .whl c b, .While t body [] _ => ckE N fnm c sc t && ckSs b body
  | .raise c, .Raise (some (.Call (.Name x _) [.Constant (.str _) _ _] [] _)) none _ => decide (exn c = some x) && glB sc x
  | .fldS i o e, .Assign [.Attribute x nm _] v _ => decide (deskFl[i]? = some nm) && (ckE N fnm o sc x && ckE N fnm e sc v)
  | _, _ => false
def ckSs : Ss → List Stmt → Bool
  | .nil, [] => true
  | .cons (.frz _) r, sts => ckSs r sts
  | .cons s r, st :: sts => ckS s st && ckSs r sts
  | _, _ => false
end
end
theorem block_kind {env : PySem.Env} (h : env.scope.kind = .function) : env.blockKind = .function := by
  unfold Env.blockKind; rw [h]; rfl
theorem any_star {N : List Str} {fnm : Nat → Option Str} {cs : Es} {sc : Scope} {es : List Expr} (h : ckEs N fnm cs sc es = true) : (es.any fun | .Starred .. => true | _ => false) = false := by
  have hp := cks_plain h
  rw [List.any_eq_false]
  intro e he
  have := List.all_eq_true.mp hp e he
  cases e <;> first | exact Bool.false_ne_true | exact (Bool.false_ne_true this).elim
theorem sw2 {env : PySem.Env} {x y : Str} {px py pt pt2 : Pos} {kt k2 : Nat} {a b : Expr} (hk : env.scope.kind = .function) (hx : env.scope.names.lookup x = some .local) (hy : env.scope.names.lookup y = some .local) (hl : py.line = px.line) (hxy : x ≠ y)
    (h0 : ([a, b].any fun | .Starred .. => true | _ => false) = false) (h1 : [a, b].all (foldedForSure 8) = false) (h2 : [a, b].all (constantsAlone 8) = false) :
    swappedStores [.Tuple [.Name x px, .Name y py] kt pt] (.Tuple [a, b] k2 pt2) env = pure (some [x, y]) := by
  have kx : env.kindOf x = some NameKind.local := hx
  have ky : env.kindOf y = some NameKind.local := hy
  have yx : ¬ y = x := fun z => hxy z.symm
  unfold swappedStores
  simp only [block_kind hk, h0, h1, h2, Expr.pos]
  simp [List.filterMap_cons, kx, ky, hl, List.eraseDups_cons, yx, List.filter_cons]
  intro hz
  simp only [List.any_cons, List.any_nil, Bool.or_false, Bool.or_eq_false_iff] at h0
  rcases hz with hz | hz
  · exact (Bool.false_ne_true (h0.1.symm.trans hz)).elim
  · exact (Bool.false_ne_true (h0.2.symm.trans hz)).elim
theorem sw3 {env : PySem.Env} {x y z : Str} {px py pz pt pt2 : Pos} {kt k2 : Nat} {a b c : Expr} (hk : env.scope.kind = .function) (hx : env.scope.names.lookup x = some .local) (hy : env.scope.names.lookup y = some .local) (hz : env.scope.names.lookup z = some .local) (hl : py.line = px.line) (hl2 : pz.line = px.line) (hxy : x ≠ y) (hxz : x ≠ z) (hyz : y ≠ z)
    (h0 : ([a, b, c].any fun | .Starred .. => true | _ => false) = false) (h1 : [a, b, c].all (foldedForSure 8) = false) (h2 : [a, b, c].all (constantsAlone 8) = false) :
    swappedStores [.Tuple [.Name x px, .Name y py, .Name z pz] kt pt] (.Tuple [a, b, c] k2 pt2) env = pure (some [x, y, z]) := by
  have kx : env.kindOf x = some NameKind.local := hx
  have ky : env.kindOf y = some NameKind.local := hy
  have kz : env.kindOf z = some NameKind.local := hz
  have yx : ¬ y = x := fun z => hxy z.symm
  have zx : ¬ z = x := fun e => hxz e.symm
  have zy : ¬ z = y := fun e => hyz e.symm
  unfold swappedStores
  simp only [block_kind hk, h0, h1, h2, Expr.pos]
  simp [List.filterMap_cons, kx, ky, kz, hl, hl2, List.eraseDups_cons, yx, zx, zy, List.filter_cons]
  intro hz
  simp only [List.any_cons, List.any_nil, Bool.or_false, Bool.or_eq_false_iff] at h0
  rcases hz with hz | hz | hz
  · exact (Bool.false_ne_true (h0.1.symm.trans hz)).elim
  · exact (Bool.false_ne_true (h0.2.1.symm.trans hz)).elim
  · exact (Bool.false_ne_true (h0.2.2.symm.trans hz)).elim
theorem noSw_none {env : PySem.Env} {t v : Expr} (h : noSw env.scope t v = true) : swappedStores [t] v env = pure none := by
  cases t with
  | Tuple ts j p =>
    cases v with
    | Tuple vs j2 p2 =>
      unfold noSw at h
      unfold swappedStores
      simp only at h ⊢
      rw [Bool.or_eq_true] at h
      split
      · rfl
      · split
        · rfl
        · rcases h with h | h
          · have e : ∀ id, (env.kindOf id == some NameKind.local) = (List.lookup id env.scope.names == some NameKind.local) := fun _ => rfl
            simp only [e]
            exact if_pos (Bool.or_eq_true_iff.mpr (.inl h))
          · split
            · rfl
            · first | rfl | rw [if_pos h]
    | _ => rfl
  | _ => cases h
theorem loc_def {sc : Scope} {x : Str} (h : locB sc x = true) : Loc sc x := by
  unfold locB at h
  split at h
  · next z => exact .inl z
  · next z => exact .inr z
  · cases h
theorem star2 {a b : Expr} (ha : plainE a = true) (hb : plainE b = true) : ([a, b].any fun | .Starred .. => true | _ => false) = false := by
  rw [List.any_eq_false]
  intro e he
  have : plainE e = true := by
    have : e = a ∨ e = b := by simpa using he
    rcases this with z | z
    · rw [z]; exact ha
    · rw [z]; exact hb
  cases e <;> first | exact Bool.false_ne_true | exact (Bool.false_ne_true this).elim
theorem ck_swaps {N : List Str} {fnm : Nat → Option Str} {c : E} {sc : Scope} {e : Expr} {t : Option Expr} {l : Nat} {env : PySem.Env} (h : ckE N fnm c sc e = true) : (∃ a b s p, e = .ListComp a b s p) ∨ swapsWith e t l env = pure false := by
  cases e with
  | ListComp a b s p => exact .inl ⟨a, b, s, p, rfl⟩
  | SetComp a b s p => exfalso; cases c <;> unfold ckE at h <;> first | cases h | (split at h <;> contradiction)
  | DictComp a b d s p => exfalso; cases c <;> unfold ckE at h <;> first | cases h | (split at h <;> contradiction)
  | _ => exact .inr rfl
section
variable {C : Cn} {G : Gam} {F : Nat → List D → Sto → Res D} {W : Nat} {k : Nat} {X : Cx} {E : XK}
/-- name = a comprehension -/
theorem zAsgAny (g : Good C G F k X E) (hk : X.env.scope.kind = .function) (hfn : ∀ x, X.fn x = true) {i : Nat} {x : Str} {c : Rt.E} {v : Expr} {p p2 : Pos} (hi : G.N[i]? = some x) (hx : locB X.env.scope x = true) (h : ckE G.N G.fnm c X.env.scope v = true) :
    PS X (.Assign [.Name x p2] v p) (rdS C F W (.asg i c) E) := by
  rcases ck_swaps (t := some (.Name x p2)) (l := p.line) (env := X.env) h with ⟨a, gs, scope, pos, rfl⟩ | hs
  · by_cases sw : X.env.scope.names.lookup x = some .local ∧ (p2.line == pos.line) = true ∧ (scope.names.any fun (n, k) => n == x && (k == .local || k == .cell)) = false
    · cases c with
      | comp tg it cond elt own =>
        unfold ckE at h
        split at h <;> first | contradiction | skip
        all_goals (rename_i z; cases z)
        simp only [Bool.and_eq_true, decide_eq_true_eq] at h
        rename_i z2
        cases z2
        obtain ⟨h0, h1, h2, h3, h4, h5, h6, h7⟩ := h
        subst h0
        refine zAsgLc g (ownL := ownL G.N own) hi sw.1 (sw_true hk sw.1 sw.2.1 sw.2.2) (fun i hi => ?_) h2 (sndI it X E _ _ g h5) (blkOk_by (by rw [g.hN]; exact h1)) (cki_plain h5) (fun s H C' cl fp => ?_) (fun s H C' cl fp => ?_) (fun s H C' cl fp => ?_)
        · have := List.all_eq_true.mp h3 i hi
          simpa using this
        · exact sndG (g.blk s H _ _ fp) (fun x hx => loc_blk hx) h4
        · exact sndC cond _ E0 _ (g.blk s H _ (compEnvC _ cl C' X.env) fp) h6
        · exact (sndE elt _ E0 _ (g.blk s H _ (compEnvC _ cl C' X.env) fp) h7).1
      | compX tg it elt own =>
        unfold ckE at h
        split at h <;> first | contradiction | skip
        all_goals (rename_i z; cases z)
        simp only [Bool.and_eq_true, decide_eq_true_eq] at h
        rename_i z2
        cases z2
        obtain ⟨h0, h1, h2, h3, h4, h5, h7⟩ := h
        subst h0
        refine zAsgLcX g (ownL := ownL G.N own) hi sw.1 (sw_true hk sw.1 sw.2.1 sw.2.2) (fun i hi => ?_) h2 (sndI it X E _ _ g h5) (blkOk_by (by rw [g.hN]; exact h1)) (cki_plain h5) (fun Y gY hY hfn => ?_) (fun Y gY hY => ?_)
        · have := List.all_eq_true.mp h3 i hi
          simpa using this
        · exact sndG gY (fun x hx => by rw [hY, hfn]; exact loc_blk hx) h4
        · exact (sndE elt Y E _ gY (by rw [hY]; exact h7)).1
      | comp2 tg it tg2 it2 elt own own2 =>
        unfold ckE at h
        split at h <;> first | contradiction | skip
        all_goals (rename_i z; cases z)
        simp only [Bool.and_eq_true, decide_eq_true_eq] at h
        rename_i z2
        cases z2
        obtain ⟨h0, h00, h1, h2, h3, h3b, h3c, h4, h4b, h5, h5b, h7⟩ := h
        subst h0 h00
        refine zAsgLc2 g (ownL := ownL G.N own) hi sw.1 (sw_true hk sw.1 sw.2.1 sw.2.2) (fun i hi => ?_) (fun i hi => ?_) (fun i hi => ?_) h2 (sndI it X E _ _ g h5) (blkOk_by (by rw [g.hN]; exact h1)) (cki_plain h5) (cki_plain h5b) (fun s H C' cl fp => ?_) (fun s H C' cl fp => ?_) (fun s H C' cl fp => ?_) (fun s H C' cl fp => ?_)
        · have := List.all_eq_true.mp h3 i hi
          simpa using this
        · have := List.all_eq_true.mp h3b i hi
          simpa using this
        · have := List.all_eq_true.mp h3c i hi
          simpa using this
        · exact sndG (g.blk s H _ _ fp) (fun x hx => loc_blk hx) h4
        · exact sndI it2 _ E0 _ _ (g.blk s H _ (compEnvC _ cl C' X.env) fp) h5b
        · exact sndG (g.blk s H _ _ fp) (fun x hx => loc_blk hx) h4b
        · exact (sndE elt _ E0 _ (g.blk s H _ (compEnvC _ cl C' X.env) fp) h7).1
      | _ => unfold ckE at h; first | cases h | (split at h <;> contradiction)
    · refine zAsg g hi (loc_def hx) (.inl (hfn x)) (sndE c X E _ g h).1 ?_
      have e : (X.env.blockKind == .function && X.env.kindOf x == some .local && p2.line == pos.line && !(scope.names.any fun (n, k) => n == x && (k == .local || k == .cell))) = false := by
        by_cases a1 : X.env.scope.names.lookup x = some .local
        · by_cases a2 : (p2.line == pos.line) = true
          · have a3 : (scope.names.any fun (n, k) => n == x && (k == .local || k == .cell)) = true := by
              cases q : (scope.names.any fun (n, k) => n == x && (k == .local || k == .cell)) with
              | true => rfl
              | false => exact absurd ⟨a1, a2, q⟩ sw
            rw [a3]; simp
          · rw [Bool.not_eq_true] at a2
            rw [a2]; simp
        · have : (X.env.kindOf x == some .local) = false := by
            show (X.env.scope.names.lookup x == some .local) = false
            exact beq_eq_false_iff_ne.mpr a1
          rw [this]; simp
      unfold swapsWith
      simp only [Expr.pos]
      exact congrArg pure e
  · exact zAsg g hi (loc_def hx) (.inl (hfn x)) (sndE c X E _ g h).1 hs
variable {td : Bool}
theorem sndV (g : Good C G F k X E) (tf : td = true → MetF C k X) {c : Rt.E} {e : Expr} (h : ckV G.N G.fnm td X.env.scope c e = true) : Both C F X E c e := by
  unfold ckV at h
  split at h
  · next z => exact sndX g (tf z) c e h
  · exact sndE c X E e g h
theorem sndLV (g : Good C G F k X E) (tf : td = true → MetF C k X) {es : Es} {xs : List Expr} (h : ckLV G.N G.fnm td X.env.scope es xs = true) : PA X xs (rdEs C F es E) := by
  unfold ckLV at h
  split at h
  · next z => exact sndL g (tf z) h
  · exact sndEs es X E xs g h
theorem sndA (g : Good C G F k X E) (tf : td = true → MetF C k X) {c : Rt.E} {e : Expr} (h : ckA G.N G.fnm td X.env.scope c e = true) : PE X e (rdE C F c E) ∧ plainE e = true := by
  unfold ckA at h
  split at h
  · have hs := (sndMet g (tf rfl) h).1
    obtain ⟨_, _, _, rfl⟩ := ckMet_plain h
    exact ⟨hs, rfl⟩
  · exact ⟨(sndE _ X E _ g h).1, ck_plain h⟩
mutual
theorem sndS (g : Good C G F k X E) (ho : PassesOwn (model X.prog X.w) X.A X.env X.xe) (tf : td = true → MetF C k X) (hk : X.env.scope.kind = .function) (hfn : ∀ x, X.fn x = true) : ∀ (s : S) (t : Stmt), ckS G.N G.fnm G.exn td X.env.scope s t = true → PS X t (rdS C F W s E)
  | .pass, t, h => by
    unfold ckS at h
    split at h <;> first | contradiction | skip
    all_goals (rename_i z; try cases z)
    exact zPass
  | .frz i, t, h => by
    unfold ckS at h
    cases h
  | .asg i e, t, h => by
    unfold ckS at h
    split at h <;> first | contradiction | skip
    all_goals (rename_i z; cases z)
    simp only [Bool.and_eq_true, decide_eq_true_eq] at h
    obtain ⟨h1, h2, h3⟩ := h
    unfold ckV at h3
    split at h3
    · next z =>
      rcases ckX_swaps h3 with q | q
      · exact zAsgAny g hk hfn h1 h2 q
      · exact zAsg g h1 (loc_def h2) (.inl (hfn _)) (sndX g (tf z) _ _ h3).1 (q _ _ _)
    · exact zAsgAny g hk hfn h1 h2 h3
  | .asgL i es, t, h => by
    unfold ckS at h
    split at h <;> first | contradiction | skip
    all_goals (rename_i z; cases z)
    simp only [Bool.and_eq_true, decide_eq_true_eq] at h
    exact zAsgL g h.1 (loc_def h.2.1) (.inl (hfn _)) (sndLV g tf h.2.2.2) h.2.2.1
  | .asgC i a b, t, h => by
    unfold ckS at h
    split at h <;> first | contradiction | skip
    all_goals (rename_i z; cases z)
    simp only [Bool.and_eq_true, decide_eq_true_eq] at h
    exact zAsgC g h.1 (loc_def h.2.1) (.inl (hfn _)) (sndE a X E _ g h.2.2.1).1 (sndE b X E _ g h.2.2.2).1
  | .asgR i es b, t, h => by
    unfold ckS at h
    split at h <;> first | contradiction | skip
    all_goals (rename_i z; cases z)
    simp only [Bool.and_eq_true, decide_eq_true_eq] at h
    exact zAsgR g h.1 (loc_def h.2.1) (.inl (hfn _)) (sndEs es X E _ g h.2.2.2.1) h.2.2.1 (sndE b X E _ g h.2.2.2.2).1
  | .asgO i c, t, h => by
    unfold ckS at h
    split at h <;> first | contradiction | skip
    all_goals (rename_i z; cases z)
    rename_i z2
    cases z2
    simp only [Bool.and_eq_true, decide_eq_true_eq, Bool.not_eq_true'] at h
    obtain ⟨k1, k2, k3, k4, h⟩ := h
    unfold ckE at h
    simp only [Bool.and_eq_true, decide_eq_true_eq] at h
    obtain ⟨h0, h1, h2, h3, h4, h5, h6, h7⟩ := h
    subst h0
    have hx := of_decide_eq_true k2
    refine zAsgO g (ownL := ownL G.N _) k1 hx (sw_true hk hx k3 k4) (fun i hi => ?_) h2 (sndI _ X E _ _ g h5) (blkOk_by (by rw [g.hN]; exact h1)) (cki_plain h5) (fun s H C' cl fp => ?_) (fun s H C' cl fp => ?_) (fun s H C' cl fp => ?_)
    · have := List.all_eq_true.mp h3 i hi
      simpa using this
    · exact sndG (g.blk s H _ _ fp) (fun x hx => loc_blk hx) h4
    · exact sndC _ _ E0 _ (g.blk s H _ (compEnvC _ cl C' X.env) fp) h6
    · exact (sndE _ _ E0 _ (g.blk s H _ (compEnvC _ cl C' X.env) fp) h7).1
  | .parA i j c, t, h => by
    unfold ckS at h
    split at h <;> first | contradiction | skip
    all_goals (rename_i z; cases z)
    simp only [Bool.and_eq_true, Bool.or_eq_true, decide_eq_true_eq, Bool.not_eq_true'] at h
    obtain ⟨h1, h2, h3, h4, h5⟩ := h
    have hpa := ck_plain h4
    rcases h5 with ⟨a1, a2, a3, a4, a5⟩ | ⟨a1, a2, a3⟩
    · have hx := of_decide_eq_true a1
      have hy := of_decide_eq_true a2
      exact zParA g h1 h2 h3 hx hy (sndE _ X E _ g h4).1 hpa (sw2 hk hx hy a3 (fun e => h3 (nodup_at g.nd h1 (e ▸ h2))) (star2 hpa rfl) a4 a5)
    · exact zParC g h1 h2 ⟨loc_def a1, .inl (hfn _)⟩ ⟨loc_def a2, .inl (hfn _)⟩ (sndE _ X E _ g h4).1 hpa (noSw_none a3)
  | .parB i j c, t, h => by
    unfold ckS at h
    split at h <;> first | contradiction | skip
    all_goals (rename_i z; cases z)
    simp only [Bool.and_eq_true, decide_eq_true_eq, Bool.not_eq_true'] at h
    obtain ⟨h1, h2, h3, h4, a1, a2, a3, a4, a5⟩ := h
    have hpa := ck_plain h4
    have hx := of_decide_eq_true a1
    have hy := of_decide_eq_true a2
    exact zParB g h1 h2 h3 hx hy (sndE _ X E _ g h4).1 hpa (sw2 hk hx hy a3 (fun e => h3 (nodup_at g.nd h1 (e ▸ h2))) (star2 rfl hpa) a4 a5)
  | .par is es, t, h => by
    unfold ckS at h
    split at h <;> first | contradiction | skip
    all_goals (rename_i z; cases z)
    · simp only [Bool.and_eq_true, decide_eq_true_eq, Bool.not_eq_true'] at h
      obtain ⟨h1, h2, h3, h4, h5, h6, h7, h8, h9⟩ := h
      have hx := of_decide_eq_true h4
      have hy := of_decide_eq_true h5
      exact zPar2 g h1 h2 h3 hx hy (sndEs es X E _ g h9) (sw2 hk hx hy h6 (fun e => h3 (nodup_at g.nd h1 (e ▸ h2))) (any_star h9) h7 h8)
    · simp only [Bool.and_eq_true, decide_eq_true_eq, Bool.not_eq_true'] at h
      obtain ⟨h1, h2, h2b, h3, h3b, h3c, h4, h5, h5b, h6, h6b, h7, h8, h9⟩ := h
      have hx := of_decide_eq_true h4
      have hy := of_decide_eq_true h5
      have hz := of_decide_eq_true h5b
      exact zPar3 g h1 h2 h2b h3 h3b h3c hx hy hz (sndEs es X E _ g h9) (sw3 hk hx hy hz h6 h6b (fun e => h3 (nodup_at g.nd h1 (e ▸ h2))) (fun e => h3b (nodup_at g.nd h1 (e ▸ h2b))) (fun e => h3c (nodup_at g.nd h2 (e ▸ h2b))) (any_star h9) h7 h8)
  | .unp tg e, t, h => by
    unfold ckS at h
    split at h <;> first | contradiction | skip
    all_goals (rename_i z; cases z)
    simp only [Bool.and_eq_true] at h
    obtain ⟨h1, h2, h3⟩ := h
    rename_i t' v _
    refine zUnp g (sndG g (fun x hx => ⟨loc_def hx, .inl (hfn x)⟩) h1) (sndE e X E _ g h3).1 ?_ (noSw_none h2) ?_
    · cases t' with
      | Tuple ts j p => cases v <;> rfl
      | _ => cases h2
    · exact (ckT_each (es := []) (env := X.env) h1).1
  | .app i e, t, h => by
    unfold ckS at h
    split at h <;> first | contradiction | skip
    all_goals (rename_i z; cases z)
    simp only [Bool.and_eq_true, decide_eq_true_eq] at h
    obtain ⟨h1, h2, rfl, h3, h4⟩ := h
    exact zApp g h1 (vis_of h2) (sndA g tf h4).1 (sndA g tf h4).2 h3
  | .setI i x e, t, h => by
    unfold ckS at h
    split at h <;> first | contradiction | skip
    all_goals (rename_i z; cases z)
    simp only [Bool.and_eq_true, decide_eq_true_eq] at h
    exact zSetI g h.1 (vis_of h.2.1) (sndE x X E _ g h.2.2.1).1 (ck_plain h.2.2.1) (sndE e X E _ g h.2.2.2).1
  | .setI2 i x y e f, t, h => by
    unfold ckS at h
    split at h <;> first | contradiction | skip
    all_goals (rename_i z; cases z)
    simp only [Bool.and_eq_true, decide_eq_true_eq] at h
    obtain ⟨h1, rfl, h2, h3, h4, h5⟩ := h
    exact zSetI2 g h1 (vis_of h2) (sndE x X E _ g h3).1 (ck_plain h3) (sndE y X E _ g h4).1 (ck_plain h4) (sndEs _ X E _ g h5)
  | .aug i e, t, h => by
    unfold ckS at h
    split at h <;> first | contradiction | skip
    all_goals (rename_i z; cases z)
    simp only [Bool.and_eq_true, decide_eq_true_eq] at h
    exact zAug g h.1 (loc_def h.2.1) (.inl (hfn _)) (sndE e X E _ g h.2.2).1
  | .ex e, t, h => by
    unfold ckS at h
    split at h <;> first | contradiction | skip
    all_goals (rename_i z; cases z)
    exact zEx (sndE e X E _ g h).1 rfl
  | .ret e, t, h => by
    unfold ckS at h
    split at h <;> first | contradiction | skip
    all_goals (rename_i z; cases z)
    exact zRet (sndV g tf h).1
  | .ifs c a b, t, h => by
    unfold ckS at h
    split at h <;> first | contradiction | skip
    all_goals (rename_i z; cases z)
    simp only [Bool.and_eq_true] at h
    exact zIf (sndV g tf h.1).2 (sndSs g ho tf hk hfn a _ h.2.1) (sndSs g ho tf hk hfn b _ h.2.2)
  | .fors tg it b, t, h => by
    unfold ckS at h
    split at h <;> first | contradiction | skip
    all_goals (rename_i z; cases z)
    simp only [Bool.and_eq_true] at h
    exact zFor g ho (sndI it X E _ _ g h.2.1) (cki_plain h.2.1) (sndG g (fun x hx => ⟨loc_def hx, .inl (hfn x)⟩) h.1) (sndSs g ho tf hk hfn b _ h.2.2)
  | .whl c b, t, h => by
    unfold ckS at h
    split at h <;> first | contradiction | skip
    all_goals (rename_i z; cases z)
    simp only [Bool.and_eq_true] at h
    exact zWhile g ho (sndE c X E _ g h.1).2 (sndSs g ho tf hk hfn b _ h.2)
  | .raise c, t, h => by
    unfold ckS at h
    split at h <;> first | contradiction | skip
    all_goals (rename_i z; cases z)
    simp only [Bool.and_eq_true, decide_eq_true_eq] at h
    exact zRaise g h.1 (gl_of h.2)
  | .fldS i o e, t, h => by
    unfold ckS at h
    split at h <;> first | contradiction | skip
    all_goals (rename_i z; cases z)
    simp only [Bool.and_eq_true, decide_eq_true_eq] at h
    exact zFldS g h.1 (sndE o X E _ g h.2.1).1 (sndE e X E _ g h.2.2).1
theorem sndSs (g : Good C G F k X E) (ho : PassesOwn (model X.prog X.w) X.A X.env X.xe) (tf : td = true → MetF C k X) (hk : X.env.scope.kind = .function) (hfn : ∀ x, X.fn x = true) : ∀ (s : Ss) (t : List Stmt), ckSs G.N G.fnm G.exn td X.env.scope s t = true → PSs X t (rdSs C F W s E)
  | .nil, [], h => zNil
  | .nil, _ :: _, h => by simp [ckSs] at h
  | .cons (.frz i) r, t, h => by
    rw [ckSs] at h
    exact zFrz (sndSs g ho tf hk hfn r t h)
  | .cons s r, [], h => by
    cases s with
    | frz i => rw [ckSs] at h; exact zFrz (sndSs g ho tf hk hfn r [] h)
    | _ => simp [ckSs] at h
  | .cons s r, t :: ts, h => by
    cases s with
    | frz i => rw [ckSs] at h; exact zFrz (sndSs g ho tf hk hfn r _ h)
    | _ =>
      simp only [ckSs, Bool.and_eq_true] at h
      exact zCons (sndS g ho tf hk hfn _ t h.1) (sndSs g ho tf hk hfn r ts h.2)
end
end
end Rt
set_option maxHeartbeats 4000000
namespace Rt
open PySem PySem.Spec PyProof.Rows L2
def scopeB (N ps : List Str) (sc : Scope) : Bool := decide (sc.kind = .function) && (!sc.isCoroutine && (!sc.isGenerator && (decide N.Nodup && (decide (N.take ps.length = ps) && ((ps.all fun x => locB sc x) && sc.names.all fun y => decide (y.2 ≠ .free))))))
theorem scope_of {N ps : List Str} {sc : Scope} (h : scopeB N ps sc = true) : FnScope N ps sc := by
  unfold scopeB at h
  simp only [Bool.and_eq_true, decide_eq_true_eq, Bool.not_eq_true', List.all_eq_true] at h
  obtain ⟨h1, h2, h3, h4, h5, h6, h7⟩ := h
  refine ⟨h1, h2, h3, h4, h5, fun x hx => ?_, h7⟩
  have := loc_def (h6 x hx)
  exact this
def dbgB (N : List Str) : Bool := N.all fun x => !(x == ("__debug__" : Str)) && !(x == ("__classdict__" : Str))
def nmOf (es : List Ent) (f : Nat) : Option Str := (es.find? fun e => e.id == f).map (·.name)
def atB (e : Ent) : Bool := if isM e.id then decide (e.at_ = (("Desk" : Str), some e.name)) else decide (e.at_ = (e.name, none))
def ckEnt (es : List Ent) (exn : Nat → Option Str) (e : Ent) : Bool := scopeB e.N e.ps (defScope e.st) && (dbgB e.N && (!(e.name == ("__debug__" : Str)) && (decide (e.d.np = e.ps.length) && (decide (e.d.nn = e.N.length) && (atB e &&
  ckSs e.N (nmOf es) exn e.td (defScope e.st) e.d.body (defBody e.st))))))
/-- what is not checked by computing -/
structure EntOk (Pd : Nat → Option Def) (e : Ent) : Prop where
  def_ : Pd e.id = some e.d
  bind : ∀ (kV doc pm : Value) (an : Option Addr) (cdv ct : Value) (us : List Value), us.length = e.ps.length → bindArgs (PySem.W.fnOf e.name e.qual (defArgs e.st) (defBody e.st) (defScope e.st) .none kV doc pm an cdv ct) ⟨us, []⟩ = pure (e.ps.zip us)
inductive AllOk (Pd : Nat → Option Def) : List Ent → Prop where
  | nil : AllOk Pd []
  | cons {e : Ent} {es : List Ent} (h : EntOk Pd e) (t : AllOk Pd es) : AllOk Pd (e :: es)
theorem AllOk.get {Pd : Nat → Option Def} : ∀ {es : List Ent} {e : Ent}, AllOk Pd es → e ∈ es → EntOk Pd e
  | _, _, .nil, h => absurd h (by simp)
  | _, _, .cons h t, m => by
    rcases List.mem_cons.mp m with z | z
    · rw [z]; exact h
    · exact AllOk.get t z
theorem nmOf_some {es : List Ent} {f : Nat} {x : Str} (h : nmOf es f = some x) : ∃ e, e ∈ es ∧ e.id = f ∧ e.name = x := by
  unfold nmOf at h
  cases z : es.find? fun e => e.id == f with
  | none => rw [z] at h; cases h
  | some e =>
    rw [z] at h
    cases h
    have := List.find?_some z
    exact ⟨e, List.mem_of_find?_eq_some z, by simpa using this, rfl⟩
/-- where a function object lies -/
def LkF (K : PySem.W.Frag) (f : Addr) (fd : FuncData) : Prop := ∃ oc od osl, K.lookup f = some ⟨oc, od, .func fd, osl⟩
theorem LkF.uniq {K : PySem.W.Frag} {f : Addr} {fd fd' : FuncData} (a : LkF K f fd) (b : LkF K f fd') : fd = fd' := by
  obtain ⟨_, _, _, a⟩ := a
  obtain ⟨_, _, _, b⟩ := b
  have e := a.symm.trans b
  cases e
  rfl
theorem run_of {Pd : Nat → Option Def} {W n f : Nat} {d : Def} {ds : List D} {s : Sto} (h : Pd f = some d) : run Pd W (n + 1) f ds s = body (run Pd W n) W d ds s := by
  rw [run, h]
section
variable {P : Program} {w : World} {K : PySem.W.Frag} {mg : Str → Option Value} {base : Heap} {C : Cn} {es : List Ent} {exn : Nat → Option Str} {Pd : Nat → Option Def} {W : Nat}
theorem start_rel {H : Hp} {mu : List Addr} {st : Sto} {vs : List V} {ds : List D} {N : List Str} {nn np : Nat} (q : SdA C.K H mu vs ds) (s : SRel C H mu st) (hn : nn = N.length) (hp : np = ds.length) (hl : np ≤ nn) :
    Rel C H mu (L2.start N vs) H (ds.map .val ++ List.replicate (nn - np) .no) st mu := by
  have e : vs.length = ds.length := q.length
  refine ⟨?_, fun i sl hi => ?_, fun i j a ds' es' hij h1 h2 h3 h4 => ?_, s, .refl⟩
  · unfold L2.start
    simp only [List.length_append, List.length_map, List.length_replicate]
    omega
  · by_cases hlt : i < ds.length
    · rw [List.getElem?_append_left (by simpa using hlt), List.getElem?_map] at hi
      cases z : ds[i]? with
      | none => rw [z] at hi; cases hi
      | some d =>
        rw [z] at hi
        cases hi
        obtain ⟨v, hv, hs⟩ := q.get z
        have : (L2.start N vs)[i]? = some (some v) := by
          unfold L2.start
          rw [List.getElem?_append_left (by rw [List.length_map, e]; exact hlt), List.getElem?_map, hv]
          rfl
        rw [this]
        exact hs
    · rw [List.getElem?_append_right (by simpa using hlt), List.getElem?_replicate] at hi
      split at hi
      · cases hi; exact trivial
      · cases hi
  · by_cases hlt : i < ds.length
    · rw [List.getElem?_append_left (by simpa using hlt), List.getElem?_map] at h3
      cases z : ds[i]? with
      | none => rw [z] at h3; cases h3
      | some d => rw [z] at h3; cases h3
    · rw [List.getElem?_append_right (by simpa using hlt), List.getElem?_replicate] at h3
      split at h3 <;> cases h3
/-- what the program's top must have left -/
structure Left (K : PySem.W.Frag) (mg : Str → Option Value) (C : Cn) (es : List Ent) (exn : Nat → Option Str) : Prop where
  hK : C.K = K
  blt : ∀ x ∈ bltNames, mg x = none
  fn : ∀ e ∈ es, ∃ fd, FunD K e.name e.qual (defArgs e.st) (defBody e.st) (defScope e.st) [] [] (He.fAd K e.at_) fd
  glo : ∀ e ∈ es, isM e.id = false → mg e.name = some (.ref (He.fAd K e.at_))
  exf : ∀ c x, exn c = some x → (x == ("__debug__" : Str)) = false ∧ mg x = some (.ref (C.ca c)) ∧ PySem.W.excIn K (C.ca c) HandSPX.veTail "ValueError.__new__" = true ∧ PySem.W.keepIn K (.ref (C.ca c)) = true ∧
    PySem.W.subIn K (.ref (C.ca c)) (.type "BaseException") = some true ∧ PySem.W.typeIn K (.ref (C.ca c)) = some (.type "type")
  dsk : C.ob = true → Cls K C.dk ∧ ∀ nm ∈ deskFl, NoAttr K C.dk nm
  mth : ∀ e ∈ es, isM e.id = true → Meth K C.dk e.name (He.fAd K e.at_)
  mke : ∀ e ∈ es, isM e.id = true → e.name = "__init__" → C.ob = true ∧ mg "Desk" = some (.ref C.dk) ∧ Mk K C.dk (He.fAd K e.at_)
  xi : IxOk K mg C.ca
  hca : ∀ c, C.ca c = He.ga C.K (excName c)
/-- what the top must have left for met -/
def MetT (K : PySem.W.Frag) (mg : Str → Option Value) (ca : Nat → Addr) : Prop := ∃ (CS gA : Addr) (fd : FuncData) (params : Arguments) (body : List Stmt) (scope : Scope), MetK K mg ca gA fd params body scope CS
/-- .. for a def that tells -/
def TdOk (base : Heap) (mg : Str → Option Value) (C : Cn) (K : PySem.W.Frag) (e : Ent) : Prop := MetT K mg C.ca ∧ ∃ Pa, LamX.TabB base mg (He.codeOf K e.at_) Pa ∧ (Pa, (e.qual ++ ".<locals>.") ++ "<lambda>") ∈ C.T ∧ ∀ p ∈ C.T, p.1 = Pa → p.2 = (e.qual ++ ".<locals>.") ++ "<lambda>"
theorem body_ok (L : Left K mg C es exn) (hc : es.all (ckEnt es exn) = true) (hb : AllOk Pd es) {n : Nat}
    (IH : ∀ e' ∈ es, ∃ fd, Binds K fd e'.ps [] ∧ FnOk P w K mg base (L2N.CX P w) (4 * n) (He.fAd K e'.at_) fd e'.ps (spec C (run Pd W n e'.id) e'.ps.length)) {e : Ent} (hck : ckEnt es exn e = true) {cdv : Value}
    (hcd : e.td = true → cdv = .ref (He.codeOf K e.at_)) (ht : e.td = true → TdOk base mg C K e) {A : Around} {outer : List PySem.Env} {s : Shared} {H : Hp} {E : XK}
    (hr : Room (4 * n + 3) (A.deeper (envOfC e.qual (defScope e.st) s.heap.objs.size (He.fAd K e.at_) cdv))) :
    PSs (cxOf (L2N.CX P w) P w K mg base e.N e.qual (defScope e.st) (He.fAd K e.at_) cdv A outer s H E) (defBody e.st) (rdSs C (run Pd W n) W e.d.body E) := by
  unfold ckEnt at hck
  simp only [Bool.and_eq_true, decide_eq_true_eq, Bool.not_eq_true'] at hck
  obtain ⟨h1, h2, h3, h4, h5, h7, h6⟩ := hck
  have S := scope_of h1
  let X : Cx := cxOf (L2N.CX P w) P w K mg base e.N e.qual (defScope e.st) (He.fAd K e.at_) cdv A outer s H E
  have cal : ∀ e' ∈ es, (e'.name == ("__debug__" : Str)) = false ∧ ∀ ds' st', ds'.length ≠ e'.ps.length → run Pd W n e'.id ds' st' = .bad := fun e' he' => by
    have hck' := List.all_eq_true.mp hc e' he'
    unfold ckEnt at hck'
    simp only [Bool.and_eq_true, decide_eq_true_eq, Bool.not_eq_true'] at hck'
    refine ⟨hck'.2.2.1, fun ds' st' hne => ?_⟩
    cases n with
    | zero => rfl
    | succ n =>
      rw [run_of (hb.get he').def_]
      unfold body
      rw [if_neg (by rw [hck'.2.2.2.1]; exact hne)]
  have g : Good C ⟨e.N, nmOf es, exn⟩ (run Pd W n) (4 * n) X E := by
    refine ⟨L.hK.symm, rfl, S.nd, fun x hx => ?_, rfl, hr.mono (by omega), ⟨_, _, _, rfl, rfl, rfl, takesL_of (L2N.takes_of rfl rfl rfl rfl)⟩, L.blt, fun f x hf hM => ?_, fun c x hx => L.exf c x hx, L.dsk, fun f x hf hM => ?_, fun f hf hM => ?_, L.xi, L.hca⟩
    · have := List.all_eq_true.mp h2 x hx
      simp only [Bool.and_eq_true, Bool.not_eq_true'] at this
      exact this
    · obtain ⟨e', he', rfl, rfl⟩ := nmOf_some hf
      obtain ⟨fd', b1, b3⟩ := IH e' he'
      obtain ⟨fd2, F2⟩ := L.fn e' he'
      exact ⟨(cal e' he').1, He.fAd K e'.at_, fd', e'.ps, L.glo e' he' hM, F2.kp, b1, b3, (cal e' he').2⟩
    · obtain ⟨e', he', rfl, rfl⟩ := nmOf_some hf
      obtain ⟨fd', b1, b3⟩ := IH e' he'
      exact ⟨He.fAd K e'.at_, fd', e'.ps, L.mth e' he' hM, b1, b3, (cal e' he').2⟩
    · obtain ⟨e', he', rfl, hnm⟩ := nmOf_some hf
      obtain ⟨fd', b1, b3⟩ := IH e' he'
      obtain ⟨m1, m2, m3⟩ := L.mke e' he' hM hnm
      exact ⟨m1, m2, He.fAd K e'.at_, fd', e'.ps, m3, b1, b3, (cal e' he').2⟩
  refine sndSs g (passes_of rfl) (fun z => ?_) S.kind (fun _ => rfl) e.d.body (defBody e.st) h6
  obtain ⟨⟨CS, gA, fd1, params, bod, scp, t1⟩, Pa, TB, hm, hu⟩ := ht z
  exact ⟨CS, gA, _, Pa, fd1, params, bod, scp, t1, TB, hcd z, hm, hu, hr⟩
theorem run_rd {e : Ent} {n : Nat} {vs : List V} {H : Hp} {Q : VK} {E : XK} (hck : ckEnt es exn e = true) (hb : EntOk Pd e) (h : spec C (run Pd W (n + 1) e.id) e.ps.length vs H Q E) :
    rdSs C (run Pd W n) W e.d.body E { nx := fun _ H' => Q .non H', rt := Q } (L2.start e.N vs) H := by
  unfold ckEnt at hck
  simp only [Bool.and_eq_true, decide_eq_true_eq, Bool.not_eq_true'] at hck
  obtain ⟨h1, h2, h3, h4, h5, h7, h6⟩ := hck
  have S := scope_of h1
  obtain ⟨hl, ds, st, mu, q, sr, h⟩ := h
  have hds : ds.length = e.d.np := by rw [h4, ← hl, q.length]
  have hpl : e.ps.length ≤ e.N.length := by
    have := congrArg List.length S.pre
    rw [List.length_take] at this
    omega
  refine ⟨H, mu, ds.map .val ++ List.replicate (e.d.nn - e.d.np) .no, st, mu, start_rel q sr h5 hds.symm (by rw [h4, h5]; exact hpl), ?_⟩
  rw [run_of hb.def_] at h
  unfold body at h
  rw [if_pos hds] at h
  cases z : execs (run Pd W n) W e.d.body (ds.map .val ++ List.replicate (e.d.nn - e.d.np) .no) st with
  | ok fl st1 =>
    simp only [z] at h
    cases fl with
    | next r => exact fun σ' H' mu' R ew => h _ H' mu' R.ext R.srel .non
    | ret d => exact h
  | exc c st1 => simp only [z] at h; exact h
  | bad => simp only [z] at h; exact h.elim
theorem code_of {e : Ent} {x q : Str} {pa : Arguments} {b : List Stmt} {sc : Scope} {dV kV doc pm cdv ct oc : Value} {an od : Option Addr} {osl : Array (Option Value)} (lk : K.lookup (He.fAd K e.at_) = some ⟨oc, od, .func (PySem.W.fnOf x q pa b sc dV kV doc pm an cdv ct), osl⟩) (hcd : PySem.W.codeIn K cdv q = true) : cdv = .ref (He.codeOf K e.at_) := by
  obtain ⟨c1, rfl⟩ := He.codeIn_ref hcd
  rw [He.codeOf_eq lk rfl]
/-- EVERY DEF IS THE FUNCTION THAT THE CORE LANGUAGE SAYS -/
theorem defs_ok (L : Left K mg C es exn) (hc : es.all (ckEnt es exn) = true) (hb : AllOk Pd es) (ht : ∀ e ∈ es, e.td = true → TdOk base mg C K e) : ∀ (n : Nat) (e : Ent), e ∈ es → ∃ fd, Binds K fd e.ps [] ∧
    FnOk P w K mg base (L2N.CX P w) (4 * n) (He.fAd K e.at_) fd e.ps (spec C (run Pd W n e.id) e.ps.length)
  | 0, e, he => by
    obtain ⟨fd, hF⟩ := L.fn e he
    refine ⟨fd, hF.bindsN (hb.get he).bind, ⟨fun vs H Q E h => h.1, fun A outer s H args us vs Q E hr he0 hbn hv h => ?_⟩⟩
    obtain ⟨_, ds, st, mu, _, _, h⟩ := h
    exact h.elim
  | n + 1, e, he => by
    obtain ⟨fd, hF⟩ := L.fn e he
    have hck := List.all_eq_true.mp hc e he
    refine ⟨fd, hF.bindsN (hb.get he).bind, ?_⟩
    obtain ⟨oc, od, dV, kV, doc, pm, an, cdv, ct, osl, rfl, lk, hcd, _, _⟩ := hF.ex
    have S : FnScope e.N e.ps (defScope e.st) := by
      have h := hck
      unfold ckEnt at h
      simp only [Bool.and_eq_true] at h
      exact scope_of h.1
    refine fn_of (k := 4 * n + 3) lk hcd S (fun vs H Q E h => h.1) fun A outer s H vs Q E hr h => ?_
    exact ⟨_, body_ok (W := W) L hc hb (fun e' he' => defs_ok L hc hb ht n e' he') hck (fun _ => code_of lk hcd) (ht e he) hr, run_rd hck (hb.get he) h⟩
/-- the law's promise: its list may stand open -/
def specL (C : Cn) (G : List D → Sto → Res D) : Sp := fun vs H Q E => vs.length = 1 ∧ (spec C G 1 vs H Q E ∨ ∃ a xs, H a = some (.lst xs) ∧ ∀ o, spec C G 1 vs (upd H a (.frz o (.lst xs))) Q E)
theorem law_ok (L : Left K mg C es exn) (hc : es.all (ckEnt es exn) = true) (hb : AllOk Pd es) (ht : ∀ e ∈ es, e.td = true → TdOk base mg C K e) {n : Nat} {e : Ent} {fd : FuncData} (hF : FunD K e.name e.qual (defArgs e.st) (defBody e.st) (defScope e.st) [] [] (He.fAd K e.at_) fd) (hps : e.ps = [("script" : Str)]) (hck : ckEnt es exn e = true) (hbe : EntOk Pd e)
    (hte : e.td = true → TdOk base mg C K e) : FnOk P w K mg base (L2N.CX P w) (4 * n + 4) (He.fAd K e.at_) fd e.ps (specL C (run Pd W (n + 1) e.id)) := by
  have hl1 : e.ps.length = 1 := by rw [hps]; rfl
  obtain ⟨oc, od, dV, kV, doc, pm, an, cdv, ct, osl, rfl, lk, hcd, _, _⟩ := hF.ex
  have S : FnScope e.N e.ps (defScope e.st) := by
    have h := hck
    unfold ckEnt at h
    simp only [Bool.and_eq_true] at h
    exact scope_of h.1
  refine fn_of (k := 4 * n + 3) lk hcd S (fun vs H Q E h => by rw [hl1]; exact h.1) fun A outer s H vs Q E hr h => ?_
  have key := body_ok (W := W) (outer := outer) (H := H) (E := E) L hc hb (fun e' he' => defs_ok (P := P) (w := w) L hc hb ht n e' he') hck (fun _ => code_of lk hcd) hte hr
  obtain ⟨_, h | ⟨a, xs, ha, h⟩⟩ := h
  · refine ⟨_, key, run_rd hck hbe ?_⟩
    rw [hl1]; exact h
  · refine ⟨_, pssFrz key, a, xs, ha, fun o => run_rd hck hbe ?_⟩
    rw [hl1]; exact h o
end
end Rt
set_option maxHeartbeats 4000000
namespace Rt
open PySem PySem.Spec PyProof.Rows L2
theorem exc_dbg (c : Nat) : (excName c == ("__debug__" : Str)) = false := by
  unfold excName
  split <;> decide +kernel
section
variable {P : Program} {w : World} {K : PySem.W.Frag} {mg : Str → Option Value} {h : Heap} {es : List Ent} {cs : List Nat} {Pd : Nat → Option Def} {W : Nat}
theorem says_fact {fa : List He.Fa} {fn : List He.DefD} (c : He.SaysD fa fn K) {f : He.Fa} (m : f ∈ fa) : f.ok K = true := by
  obtain ⟨i, hi⟩ := List.mem_iff_getElem?.mp m
  exact c.fact i hi
theorem says_def {fa : List He.Fa} {fn : List He.DefD} (c : He.SaysD fa fn K) {d : He.DefD} (m : d ∈ fn) : ∃ fd, FunD K d.name d.qual d.params d.body d.scope (d.dvs K) (d.kws K) (He.fAd K d.at_) fd := by
  obtain ⟨i, hi⟩ := List.mem_iff_getElem?.mp m
  exact c.def_ i hi
theorem script_sd {H : Hp} : ∀ ns : List Int, SdA K H [] (ns.map V.int) (ns.map D.int)
  | [] => .nil
  | n :: ns => .cons (.int n) (script_sd ns)
end
end Rt
set_option maxHeartbeats 4000000
namespace Rt
open PySem PySem.Spec PyProof.Rows L2 LamX
theorem excB_ok {K : PySem.W.Frag} {D : Addr} (h : excB K D = true) : ExcC K D := by
  unfold excB at h
  simp only [Bool.and_eq_true, decide_eq_true_eq] at h
  obtain ⟨h1, h2, h3, h4, h5, h6, h7, h8⟩ := h
  exact ⟨He.eqO_ok h1, He.eqO_ok h2, h3, h4, He.eqO_ok h5, He.eqO_ok h6, h7, h8⟩
theorem exK_ok {K : PySem.W.Frag} (h : exK K = true) {n : Nat} (hn : n < 12) : ExcC K (caOf K n) ∧ PySem.W.kitOne K (.ref (caOf K n)) (.type "ValueError") = some true ∧ PySem.W.exmOne K (.ref (caOf K n)) (.ref (He.ga K "RangeError")) = some true ∧
    ∀ i, i < 12 → PySem.W.kitOne K (.ref (caOf K n)) (.ref (caOf K i)) = some (decide (i = n)) := by
  have := List.all_eq_true.mp h n (List.mem_range.mpr hn)
  unfold oneB at this
  simp only [Bool.and_eq_true, decide_eq_true_eq] at this
  obtain ⟨h1, h2, h3, h4⟩ := this
  refine ⟨excB_ok h1, h2, h3, fun i hi => ?_⟩
  have := List.all_eq_true.mp h4 i (List.mem_range.mpr hi)
  simpa using this
/-- the def that meets -/
def ckMets (t1 : Stmt) : Bool := scopeB ["deed", "e"] ["deed"] (defScope t1) && (isMet (defBody t1) && (visB (defScope t1) "deed" && (lcB (defScope t1) "e" && glB (defScope t1) "RangeError")))
def tabsOf (K : PySem.W.Frag) (tds : List Ent) : List (Addr × Str) := tds.map fun e => ((He.cT K e.at_).2, (e.qual ++ ".<locals>.") ++ "<lambda>")
def cnO (K : PySem.W.Frag) (tds : List Ent) : Cn := { T := tabsOf K tds, K := K, ca := fun c => He.ga K (excName c), ob := true, dk := He.ga K "Desk" }
theorem tabs_uniq {K : PySem.W.Frag} : ∀ {tds : List Ent}, (tds.map fun e => (He.cT K e.at_).2).Nodup → ∀ {e : Ent}, e ∈ tds → ∀ p ∈ tabsOf K tds, p.1 = (He.cT K e.at_).2 → p.2 = (e.qual ++ ".<locals>.") ++ "<lambda>"
  | [], _, e, he, _, _, _ => by cases he
  | t :: ts, nd, e, he, p, hp, hz => by
    rw [List.map_cons, List.nodup_cons] at nd
    rw [tabsOf, List.map_cons] at hp
    rcases List.mem_cons.mp hp with z | z
    · rcases List.mem_cons.mp he with z2 | z2
      · rw [z, z2]
      · exfalso
        apply nd.1
        rw [z] at hz
        rw [show (He.cT K t.at_).2 = (He.cT K e.at_).2 from hz]
        exact List.mem_map.mpr ⟨e, z2, rfl⟩
    · rcases List.mem_cons.mp he with z2 | z2
      · exfalso
        apply nd.1
        obtain ⟨e', he', rfl⟩ := List.mem_map.mp z
        rw [← z2, ← hz]
        exact List.mem_map.mpr ⟨e', he', rfl⟩
      · exact tabs_uniq nd.2 z2 p z hz
theorem in12 {i : Nat} (h : i < 12) : i ∈ all12 := by
  have : i = 0 ∨ i = 1 ∨ i = 2 ∨ i = 3 ∨ i = 4 ∨ i = 5 ∨ i = 6 ∨ i = 7 ∨ i = 8 ∨ i = 9 ∨ i = 10 ∨ i = 11 := by omega
  rcases this with z | z | z | z | z | z | z | z | z | z | z | z <;> subst z <;> decide
theorem gl_look {sc : Scope} {x : Str} (h : glB sc x = true) : sc.names.lookup x = some .globalImplicit := by
  unfold glB at h
  split at h
  · next z => exact z
  · cases h
section
variable {P : Program} {w : World} {K : PySem.W.Frag} {mg : Str → Option Value} {h : Heap} {es : List Ent} {Pd : Nat → Option Def} {W : Nat} {e : Ent} {t1 : Stmt}
/-- what binds a def's only parameter -/
def Bind1 (x p : Str) (st : Stmt) : Prop := ∀ (kV doc pm : Value) (an : Option Addr) (cdv ct : Value) (us : List Value), us.length = 1 → bindArgs (PySem.W.fnOf x x (defArgs st) (defBody st) (defScope st) .none kV doc pm an cdv ct) ⟨us, []⟩ = pure ([p].zip us)
theorem says_mem {fa fa' : List He.Fa} {fn fn' : List He.DefD} (c : He.SaysD fa fn K) (h1 : ∀ f ∈ fa', f ∈ fa) (h2 : ∀ d ∈ fn', d ∈ fn) : (∀ f ∈ fa', f.ok K = true) ∧ ∀ d ∈ fn', ∃ fd, FunD K d.name d.qual d.params d.body d.scope (d.dvs K) (d.kws K) (He.fAd K d.at_) fd :=
  ⟨fun f hf => says_fact c (h1 f hf), fun d hd => says_def c (h2 d hd)⟩
theorem left_ofT (X : K.In h) (G : h.Ns mainGlobals mg) {tds : List Ent} {cs : List Nat} (hI : IxOk K mg (fun c => He.ga K (excName c))) (hc : es.all (ckEnt es (exnOf cs)) = true) (hf : ∀ f ∈ faOf es cs, f.ok K = true) (hd : ∀ d ∈ fnsOf es, ∃ fd, FunD K d.name d.qual d.params d.body d.scope (d.dvs K) (d.kws K) (He.fAd K d.at_) fd) : Left K mg (cnO K tds) es (exnOf cs) := by
  have hO : ∀ f ∈ faO es, f.ok K = true := fun f m => hf f (List.mem_append_right _ (List.mem_append_right _ (List.mem_append_right _ (List.mem_append_right _ m))))
  have hat : ∀ e ∈ es, atB e = true := fun e he => by
    have := List.all_eq_true.mp hc e he
    unfold ckEnt at this
    simp only [Bool.and_eq_true] at this
    exact this.2.2.2.2.2.1
  have hcls := He.cls_ok (hO (.cls "Desk") (by simp [faO]))
  refine ⟨rfl, fun x hx => ?_, fun e he => ?_, fun e he hM => ?_, fun i x hx => ?_, fun _ => ⟨hcls, fun nm hm => ?_⟩, fun e he hM => ?_, fun e he hM hn => ?_, hI, fun _ => rfl⟩
  · exact He.free_ok X G (hf _ (List.mem_append_right _ (List.mem_append_left _ (List.mem_map.mpr ⟨x, hx, rfl⟩))))
  · exact hd (fnOfE e) (List.mem_map.mpr ⟨e, he, rfl⟩)
  · have ha := hat e he
    unfold atB at ha
    rw [hM] at ha
    simp only [Bool.false_eq_true, if_false, decide_eq_true_eq] at ha
    rw [ha]
    exact He.glo_ok X G (hf _ (List.mem_append_left _ (List.mem_map.mpr ⟨e, List.mem_filter.mpr ⟨he, by rw [hM]; rfl⟩, rfl⟩)))
  · unfold exnOf at hx
    split at hx
    · next hc =>
      cases hx
      have m : i ∈ cs := by simpa using hc
      obtain ⟨a1, a2, a3, a4⟩ := He.exc_ok (hf (.exc (excName i)) (List.mem_append_right _ (List.mem_append_right _ (List.mem_append_right _ (List.mem_append_left _ (List.mem_map.mpr ⟨i, m, rfl⟩))))))
      exact ⟨exc_dbg i, He.glo_ok X G (hf (.glo (excName i)) (List.mem_append_right _ (List.mem_append_right _ (List.mem_append_left _ (List.mem_map.mpr ⟨i, m, rfl⟩))))), a1, a2, a3, a4⟩
    · cases hx
  · exact He.noat_ok (hO (.noat "Desk" nm) (List.mem_append_right _ (List.mem_append_left _ (List.mem_map.mpr ⟨nm, hm, rfl⟩))))
  · have ha := hat e he
    unfold atB at ha
    rw [hM] at ha
    simp only [if_true, decide_eq_true_eq] at ha
    rw [ha]
    exact He.meth_ok (hO (.meth "Desk" e.name) (List.mem_append_right _ (List.mem_append_right _ (List.mem_map.mpr ⟨e, List.mem_filter.mpr ⟨he, hM⟩, rfl⟩))))
  · have ha := hat e he
    unfold atB at ha
    rw [hM] at ha
    simp only [if_true, decide_eq_true_eq] at ha
    rw [ha, hn]
    exact ⟨rfl, He.glo_ok X G (hO (.glo "Desk") (by simp [faO])), He.mkr_ok (hO (.mkr "Desk") (by simp [faO]))⟩
theorem met_top (X : K.In h) (G : h.Ns mainGlobals mg) (c : He.SaysD (faT es e.name) (fnT es e t1) K) (hx : exK K = true) (hck : ckMets t1 = true) (b1 : Bind1 "_law_met" "deed" t1) : MetT K mg (fun c => He.ga K (excName c)) ∧ IxOk K mg (fun c => He.ga K (excName c)) := by
  unfold ckMets at hck
  simp only [Bool.and_eq_true] at hck
  obtain ⟨k1, k2, k3, k4, k5⟩ := hck
  obtain ⟨fd1, F1⟩ := says_def c (d := entT "_law_met" t1) (by simp [fnT])
  have fact : ∀ f, f ∈ faT es e.name → f.ok K = true := fun f hf => says_fact c hf
  have mE : ∀ i, i < 12 → (He.Fa.glo (excName i)) ∈ faT es e.name := fun i hi => List.mem_append_right _ (List.mem_append_right _ (List.mem_append_right _ (List.mem_append_left _ (List.mem_map.mpr ⟨i, in12 hi, rfl⟩))))
  refine ⟨⟨He.ga K "RangeError", He.ga K "_law_met", fd1, defArgs t1, defBody t1, defScope t1, ⟨F1, He.glo_ok X G (fact (.glo "_law_met") (by simp [faT])), F1.bindsN b1, scope_of k1, k2, ⟨vis_of k3, of_decide_eq_true k4, gl_look k5⟩, He.glo_ok X G (fact (.glo "RangeError") (by simp [faT])), fun n hn => (exK_ok hx hn).2.2.1⟩⟩, ?_⟩
  refine ⟨He.free_ok X G (fact (.free "ValueError") (by simp [faT])), fun n hn => He.glo_ok X G (fact _ (mE n hn)), fun n hn => ?_⟩
  obtain ⟨a1, a2, a3, a4⟩ := exK_ok hx hn
  exact ⟨a1, a2, a4⟩
theorem law_specT {H : Hp} {a : Addr} {ns : List Int} {G : List D → Sto → Res D} {tds : List Ent} (hT : ∀ p ∈ tabsOf K tds, H p.1 = some (.tbl #[])) (hS : SqL K H a (ns.map V.int)) (hr : ∃ st, G [.lst (ns.map D.int)] [] = .ok (.bl true) st) :
    specL (cnO K tds) G [.ref a] H (fun v _ => v = .bl true) fun _ _ _ => False := by
  obtain ⟨st, hr⟩ := hr
  have key : ∀ H', (∀ p ∈ tabsOf K tds, H' p.1 = some (.tbl #[])) → Fz K H' a (ns.map V.int) → spec (cnO K tds) G 1 [.ref a] H' (fun v _ => v = .bl true) fun _ _ _ => False := fun H' hT' hF => by
    refine ⟨rfl, [.lst (ns.map D.int)], [], [], .cons (.lst hF (script_sd ns)) .nil, ⟨rfl, List.nodup_nil, fun n a ds h1 _ => by simp at h1, fun p hp => ?_⟩, ?_⟩
    · exact TabS.nil (hT' p hp)
    · rw [hr]
      intro v H' mu' _ _ q
      cases q
      rfl
  refine ⟨rfl, ?_⟩
  rcases hS with (h1 | h1) | h1
  · refine .inr ⟨a, _, h1, fun o => key _ (fun p hp => ?_) (.inl ⟨o, upd_same⟩)⟩
    have hT := hT p hp
    rw [upd_ne (fun z => by rw [z, h1] at hT; cases hT)]
    exact hT
  · exact .inl (key H hT (.inl h1))
  · exact .inl (key H hT (.inr h1))
/-- THE LAW that tells, from what its core form gives -/
theorem law_ofT {l : PySem.W.OpenLaw} {m n : Nat} {q : Program} {loose : List Str} {XP : (Str → Option Value) → Heap → Prop} {d : DefRec}
    (hn : l.most = some m) (hn2 : m ≤ sizeLine) (hdf : d.params.defaults = []) (hr : Room (4 * n + 4) callerA) (hd : d.name = e.name) (hps : e.ps = [("script" : Str)]) (hat : e.at_ = (e.name, none)) (hc : es.all (ckEnt es (exnOf all12)) = true) (hb : AllOk Pd es) (hck : ckEnt es (exnOf all12) e = true) (hbe : EntOk Pd e)
    (ht : ckMets t1 = true) (b1 : Bind1 "_law_met" "deed" t1)
    (hrun : ∀ ns : List Int, ns.length ≤ m → ∃ st, run Pd W (n + 1) e.id [.lst (ns.map D.int)] [] = .ok (.bl true) st) :
    PySem.W.WalkO q loose XP (He.hookX 4 (faT es e.name) (fnT es e t1) [] ((tdsOf es e).map (·.at_)) (moreO (tdsOf es e))).says l.row.toRowW d [] (fun f vs => PySem.call f vs) := by
  refine walk_ofTsE (l := l) (n := m) (k := 4 * n + 4) (x := "script") (CX := fun w => L2N.CX l.prog w) hn hn2 hdf hr ?_ (fun w H s e s' z => ?_)
  · intro w mg fa h Y G hmg0
    obtain ⟨K, KX, c⟩ := Y
    have cD : He.SaysD (faT es e.name) (fnT es e t1) K := congrArg (fun z : He.AlT => z.1) c.t
    have hgl : mg e.name = some (.ref (He.ga K e.name)) := He.glo_ok KX G (says_fact cD (f := .glo e.name) (by simp [faT]))
    rw [hd] at hmg0
    have e0 := hmg0.symm.trans hgl
    have hfa : He.fAd K e.at_ = He.ga K e.name := by rw [hat]; rfl
    cases e0
    obtain ⟨fd, F⟩ := says_def cD (d := fnOfE e) (by simp [fnT])
    have hm := says_mem cD (fa' := faOf es all12) (fn' := fnsOf es) (fun f hf => List.mem_append_right _ hf) (fun d hd => List.mem_append_right _ hd)
    have hmore := c.more
    unfold moreO at hmore
    rw [Bool.and_eq_true] at hmore
    have nd : ((tdsOf es e).map fun e => (He.cT K e.at_).2).Nodup := of_decide_eq_true hmore.2
    refine ⟨K, KX, fd, (tdsOf es e).map (fun e => He.cT K e.at_), specL (cnO K (tdsOf es e)) (run Pd W (n + 1) e.id), fun p hp => ?_, fun p hp => ?_, fun p hp => ?_, fun s u => ?_, fun H a ns hl _ hH hS => ?_, fun base KB GB TB => ?_⟩
    · obtain ⟨e', he', rfl⟩ := List.mem_map.mp hp; exact c.empty _ (List.mem_map.mpr ⟨e', he', rfl⟩)
    · obtain ⟨e', he', rfl⟩ := List.mem_map.mp hp; exact c.out _ (List.mem_map.mpr ⟨e', he', rfl⟩)
    · obtain ⟨e', he', rfl⟩ := List.mem_map.mp hp; exact PySem.W.codeHd_of_K KX (c.hd _ (List.mem_map.mpr ⟨e', he', rfl⟩))
    · have := FunD.bindsA F hbe.bind s [u] (by rw [hps]; rfl)
      rw [hps] at this
      exact this
    · refine law_specT (fun p hp => ?_) hS (hrun ns hl)
      obtain ⟨e', he', rfl⟩ := List.mem_map.mp hp
      exact hH _ (List.mem_map.mpr ⟨e', he', rfl⟩)
    · obtain ⟨tt, hI⟩ := met_top KX G cD hmore.1 ht b1
      have L := left_ofT (es := es) (cs := all12) (tds := tdsOf es e) KX G hI hc hm.1 hm.2
      have td : ∀ e' ∈ tdsOf es e, TdOk base mg (cnO K (tdsOf es e)) K e' := fun e' he' =>
        ⟨tt, (He.cT K e'.at_).2, TB _ (List.mem_map.mpr ⟨e', he', rfl⟩), List.mem_map.mpr ⟨e', he', rfl⟩, tabs_uniq nd he'⟩
      have := law_ok (P := l.prog) (w := w) (base := base) (W := W) (n := n) L hc hb (fun e' he' ht' => td e' (List.mem_cons_of_mem _ (List.mem_filter.mpr ⟨he', ht'⟩))) F hps hck hbe (fun _ => td e List.mem_cons_self)
      rw [hps] at this
      rw [← hfa]
      exact this
  · obtain ⟨_, _, _, _, _, _, _, _, _, _, _, _, z⟩ := z
    exact z
end
end Rt
namespace Rt
open PySem
section
variable (F : Nat → List D → Sto → Res D) (r : Env) (s : Sto)
@[simp] theorem ev_var (i : Nat) : ev F (.var i) r s = match getV r i with | some d => .ok d s | none => .bad := by rw [ev] <;> rfl
@[simp] theorem ev_int (i : Int) : ev F (.int i) r s = .ok (.int i) s := by rw [ev] <;> rfl
@[simp] theorem ev_bl (i : Bool) : ev F (.bl i) r s = .ok (.bl i) s := by rw [ev] <;> rfl
@[simp] theorem ev_non : ev F (.non) r s = .ok .non s := by rw [ev] <;> rfl
@[simp] theorem ev_str (x : Str) : ev F (.str x) r s = .ok (.str x) s := by rw [ev] <;> rfl
@[simp] theorem ev_tup (es : Es) : ev F (.tup es) r s = (evs F es r s).bind fun ds s => .ok (.tup ds) s := by rw [ev] <;> rfl
@[simp] theorem ev_lst (es : Es) : ev F (.lst es) r s = (evs F es r s).bind fun ds s => .ok (.lst ds) s := by rw [ev] <;> rfl
@[simp] theorem ev_cel (es : Es) : ev F (.cel es) r s = (evs F es r s).bind fun ds s => .ok (.cell s.length) (s ++ [ds]) := by rw [ev] <;> rfl
@[simp] theorem ev_bin (op : Bop) (a b : E) : ev F (.bin op a b) r s = (ev F a r s).bind fun x s => (ev F b r s).bind fun y s => binD s op x y := by rw [ev] <;> rfl
@[simp] theorem ev_rep (es : Es) (k : E) : ev F (.rep es k) r s = (evs F es r s).bind fun ds s => (ev F k r s).bind fun y s => repD s ds y := by rw [ev] <;> rfl
@[simp] theorem ev_neg (a : E) : ev F (.neg a) r s = (ev F a r s).bind fun x s => match x with | .int i => .ok (.int (-i)) s | _ => .bad := by rw [ev] <;> rfl
@[simp] theorem ev_not (a : E) : ev F (.not a) r s = (ev F a r s).bind fun x s => match x with | .bl b => .ok (.bl (!b)) s | _ => .bad := by rw [ev] <;> rfl
@[simp] theorem ev_cmp (op : Cop) (a b : E) : ev F (.cmp op a b) r s = (ev F a r s).bind fun x s => (ev F b r s).bind fun y s => cmpD s op x y := by rw [ev] <;> rfl
def chainK (F : Nat → List D → Sto → Res D) (o2 : Cop) (c : E) (r : Env) (y : D) (k : D) (s : Sto) : Res D := match k with
    | .bl true => (ev F c r s).bind fun z s => cmpD s o2 y z
    | .bl false => .ok (.bl false) s
    | _ => .bad
@[simp] theorem chainK_bl (o2 : Cop) (c : E) (y : D) (b : Bool) : chainK F o2 c r y (.bl b) s = if b then (ev F c r s).bind fun z s => cmpD s o2 y z else .ok (.bl false) s := by cases b <;> rfl
@[simp] theorem ev_chain (o1 o2 : Cop) (a b c : E) : ev F (.chain o1 o2 a b c) r s = (ev F a r s).bind fun x s => (ev F b r s).bind fun y s => (cmpD s o1 x y).bind fun k s => chainK F o2 c r y k s := by rw [ev] <;> rfl
def andK (F : Nat → List D → Sto → Res D) (b : E) (r : Env) (x : D) (s : Sto) : Res D := match x with | .bl true => ev F b r s | .bl false => .ok (.bl false) s | _ => .bad
def orK (F : Nat → List D → Sto → Res D) (b : E) (r : Env) (x : D) (s : Sto) : Res D := match x with | .bl true => .ok (.bl true) s | .bl false => ev F b r s | _ => .bad
def iteK (F : Nat → List D → Sto → Res D) (a b : E) (r : Env) (x : D) (s : Sto) : Res D := match x with | .bl true => ev F a r s | .bl false => ev F b r s | _ => .bad
@[simp] theorem andK_bl (b : E) (k : Bool) : andK F b r (.bl k) s = if k then ev F b r s else .ok (.bl false) s := by cases k <;> rfl
@[simp] theorem orK_bl (b : E) (k : Bool) : orK F b r (.bl k) s = if k then .ok (.bl true) s else ev F b r s := by cases k <;> rfl
@[simp] theorem iteK_bl (a b : E) (k : Bool) : iteK F a b r (.bl k) s = if k then ev F a r s else ev F b r s := by cases k <;> rfl
@[simp] theorem ev_and (a b : E) : ev F (.and a b) r s = (ev F a r s).bind fun x s => andK F b r x s := by rw [ev] <;> rfl
@[simp] theorem ev_or (a b : E) : ev F (.or a b) r s = (ev F a r s).bind fun x s => orK F b r x s := by rw [ev] <;> rfl
@[simp] theorem ev_ite (c a b : E) : ev F (.ite c a b) r s = (ev F c r s).bind fun x s => iteK F a b r x s := by rw [ev] <;> rfl
@[simp] theorem ev_sub (a i : E) : ev F (.sub a i) r s = (ev F a r s).bind fun x s => (ev F i r s).bind fun y s => subD s x y := by rw [ev] <;> rfl
@[simp] theorem ev_subo (i : Nat) (x : E) : ev F (.subo i x) r s = match getO r i with
    | some ds => (ev F x r s).bind fun y s => match y with | .int k => atD s ds k | _ => .bad
    | none => .bad := by rw [ev] <;> rfl
@[simp] theorem ev_slice (a : E) (lo hi : Oe) : ev F (.slice a lo hi) r s = (ev F a r s).bind fun x s => (evo F lo r s).bind fun l s => ofP (partsD l) fun l => (evo F hi r s).bind fun h s => ofP (partsD h) fun h => sliceD s x l h := by rw [ev] <;> rfl
@[simp] theorem ev_rev (a : E) : ev F (.rev a) r s = (ev F a r s).bind fun x s => revD s x := by rw [ev] <;> rfl
@[simp] theorem ev_call (f : Nat) (es : Es) : ev F (.call f es) r s = (evs F es r s).bind fun ds s => F f ds s := by rw [ev] <;> rfl
@[simp] theorem ev_bi (b : Bi) (es : Es) : ev F (.bi b es) r s = (evs F es r s).bind fun ds s => biD s b ds := by rw [ev] <;> rfl
/-- an item of a comprehension -/
def itemK (F : Nat → List D → Sto → Res D) (tg : Tg) (cond : Oe) (elt : E) (r : Env) (d : D) (s : Sto) : Res (Option D) := match bindT tg d r with
      | none => .bad
      | some r' => (evo F cond r' s).bind fun k s => match k with
        | none => (ev F elt r' s).bind fun y s => .ok (some y) s
        | some (.bl true) => (ev F elt r' s).bind fun y s => .ok (some y) s
        | some (.bl false) => .ok none s
        | _ => .bad
def capL (ys : List D) (s : Sto) : Res D := if ys.length ≤ sizeN then .ok (.lst ys) s else .bad
@[simp] theorem ev_comp (tg : Tg) (it : It) (cond : Oe) (elt : E) (own : List Nat) : ev F (.comp tg it cond elt own) r s = (evi F it r s).bind fun ds s => (mapR (itemK F tg cond elt (wipeE r own)) ds s).bind capL := by rw [ev] <;> rfl
@[simp] theorem ev_told (c : E) : ev F (.told c) r s = caught (ev F c r s) := by rw [ev] <;> rfl
@[simp] theorem ev_fld (i : Nat) (a : E) : ev F (.fld i a) r s = (ev F a r s).bind fun x s => fldD s x i := by rw [ev] <;> rfl
@[simp] theorem ev_meth (f : Nat) (a : E) (es : Es) : ev F (.meth f a es) r s = (ev F a r s).bind fun x s => if (obOf s x).isSome then (evs F es r s).bind fun ds s => F f (x :: ds) s else .bad := by rw [ev] <;> rfl
@[simp] theorem ev_make (f : Nat) (es : Es) : ev F (.make f es) r s = (evs F es r s).bind fun ds s => (F f (.cell s.length :: ds) (s ++ [[.ob]])).bind (makeK s.length) := by rw [ev] <;> rfl
@[simp] theorem ev_lenO (f : Nat) (a : E) : ev F (.lenO f a) r s = (ev F a r s).bind fun x s => if (obOf s x).isSome then (F f [x] s).bind lenK else .bad := by rw [ev] <;> rfl
@[simp] theorem makeK_non (n : Nat) : makeK n .non s = .ok (.cell n) s := rfl
@[simp] theorem evs_nil : evs F .nil r s = .ok [] s := by rw [evs] <;> rfl
@[simp] theorem evs_cons (e : E) (es : Es) : evs F (.cons e es) r s = (ev F e r s).bind fun x s => (evs F es r s).bind fun xs s => .ok (x :: xs) s := by rw [evs] <;> rfl
@[simp] theorem evo_none : evo F .none r s = .ok none s := by rw [evo] <;> rfl
@[simp] theorem evo_some (e : E) : evo F (.some e) r s = (ev F e r s).bind fun x s => .ok (some x) s := by rw [evo] <;> rfl
def valK (x : D) (s : Sto) : Res (List D) := match itemsD x with | some ds => .ok ds s | none => .bad
@[simp] theorem valK_tup (xs : List D) : valK (.tup xs) s = .ok xs s := rfl
@[simp] theorem valK_lst (xs : List D) : valK (.lst xs) s = .ok xs s := rfl
def enumK (x : D) (s : Sto) : Res (List D) := match itemsD x with | some ds => .ok (enumD 0 ds) s | none => .bad
@[simp] theorem enumK_tup (xs : List D) : enumK (.tup xs) s = .ok (enumD 0 xs) s := rfl
@[simp] theorem enumK_lst (xs : List D) : enumK (.lst xs) s = .ok (enumD 0 xs) s := rfl
def zipK (x y : D) (s : Sto) : Res (List D) := match x, y with | .tup ds, .tup es => .ok (zipD ds es) s | .lst ds, .lst es => .ok (zipD ds es) s | .tup ds, .lst es => .ok (zipD ds es) s | _, _ => .bad
@[simp] theorem zipK_tup (xs ys : List D) : zipK (.tup xs) (.tup ys) s = .ok (zipD xs ys) s := rfl
@[simp] theorem zipK_tl (xs ys : List D) : zipK (.tup xs) (.lst ys) s = .ok (zipD xs ys) s := rfl
@[simp] theorem zipK_lst (xs ys : List D) : zipK (.lst xs) (.lst ys) s = .ok (zipD xs ys) s := rfl
def rngK (x : D) (s : Sto) : Res (List D) := match x with | .int n => if small n then .ok (rngD 0 n.toNat 1) s else .bad | _ => .bad
@[simp] theorem rngK_int (n : Int) : rngK (.int n) s = if small n then .ok (rngD 0 n.toNat 1) s else .bad := rfl
@[simp] theorem evi_val (e : E) : evi F (.val e) r s = (ev F e r s).bind valK := by rw [evi] <;> rfl
@[simp] theorem evi_rng1 (e : E) : evi F (.rng1 e) r s = (ev F e r s).bind rngK := by rw [evi] <;> rfl
@[simp] theorem evi_enum (e : E) : evi F (.enum e) r s = (ev F e r s).bind enumK := by rw [evi] <;> rfl
@[simp] theorem evi_zip (a b : E) : evi F (.zip a b) r s = (ev F a r s).bind fun x s => (ev F b r s).bind fun y s => zipK x y s := by rw [evi] <;> rfl
end
@[simp] theorem getV_zero (d : D) (r : Env) : getV (.val d :: r) 0 = some d := rfl
@[simp] theorem getV_succ (x : Slot) (r : Env) (i : Nat) : getV (x :: r) (i + 1) = getV r i := rfl
@[simp] theorem getO_zero (d : List D) (r : Env) : getO (.own d :: r) 0 = some d := rfl
@[simp] theorem getO_succ (x : Slot) (r : Env) (i : Nat) : getO (x :: r) (i + 1) = getO r i := rfl
@[simp] theorem wipe_nil (r : Env) : wipeE r [] = r := rfl
@[simp] theorem wipe_cons (r : Env) (v : Nat) (vs : List Nat) : wipeE r (v :: vs) = (wipeE r vs).set v .no := rfl
@[simp] theorem bindT_name (i : Nat) (d : D) (r : Env) : bindT (.name i) d r = some (r.set i (.val d)) := by rw [bindT] <;> rfl
@[simp] theorem bindT_tup2 (a b : Tg) (x y : D) (r : Env) : bindT (.tup2 a b) (.tup [x, y]) r = (bindT a x r).bind (bindT b y) := by rw [bindT] <;> rfl
@[simp] theorem bindT_lst2 (a b : Tg) (x y : D) (r : Env) : bindT (.tup2 a b) (.lst [x, y]) r = (bindT a x r).bind (bindT b y) := by rw [bindT] <;> rfl
@[simp] theorem bindT_tup5 (a b c d e : Tg) (x y z u v : D) (r : Env) : bindT (.tup5 a b c d e) (.tup [x, y, z, u, v]) r = ((((bindT a x r).bind (bindT b y)).bind (bindT c z)).bind (bindT d u)).bind (bindT e v) := by rw [bindT] <;> rfl
@[simp] theorem bindT_tup3 (a b c : Tg) (x y z : D) (r : Env) : bindT (.tup3 a b c) (.tup [x, y, z]) r = ((bindT a x r).bind (bindT b y)).bind (bindT c z) := by rw [bindT] <;> rfl
section
variable (F : Nat → List D → Sto → Res D) (W : Nat) (r : Env) (s : Sto)
@[simp] theorem caught_ok (d : D) : caught (.ok d s) = .ok d s := rfl
@[simp] theorem caught_exc (c : Nat) (h : c < 12) : caught (.exc c s) = .ok (.tup [.str "error", .str (excName c)]) s := by show (if c < 12 then _ else _) = _; rw [if_pos h]
@[simp] theorem seqR_next (f : Env → Sto → Res Flow) : seqR (.ok (.next r) s) f = f r s := rfl
@[simp] theorem seqR_ret (d : D) (f : Env → Sto → Res Flow) : seqR (.ok (.ret d) s) f = .ok (.ret d) s := rfl
@[simp] theorem seqR_exc (c : Nat) (f : Env → Sto → Res Flow) : seqR (.exc c s) f = .exc c s := rfl
@[simp] theorem tst_bl (b : Bool) : tst (.ok (.bl b) s) = .ok b s := rfl
@[simp] theorem tst_int (b : Int) : tst (.ok (.int b) s) = .ok (b != 0) s := rfl
@[simp] theorem tst_exc (c : Nat) : tst (.exc c s) = .exc c s := rfl
@[simp] theorem execs_nil : execs F W .nil r s = .ok (.next r) s := by rw [execs] <;> rfl
@[simp] theorem execs_cons (a : S) (b : Ss) : execs F W (.cons a b) r s = seqR (exec F W a r s) (fun r s => execs F W b r s) := by rw [execs] <;> rfl
@[simp] theorem exec_pass : exec F W .pass r s = .ok (.next r) s := by rw [exec] <;> rfl
@[simp] theorem exec_frz (i : Nat) : exec F W (.frz i) r s = match getO r i with | some ds => .ok (.next (r.set i (.val (.lst ds)))) s | none => .bad := by rw [exec] <;> rfl
@[simp] theorem exec_asg (i : Nat) (e : E) : exec F W (.asg i e) r s = (ev F e r s).bind fun x s => .ok (.next (r.set i (.val x))) s := by rw [exec] <;> rfl
@[simp] theorem exec_asgL (i : Nat) (es : Es) : exec F W (.asgL i es) r s = (evs F es r s).bind fun ds s => .ok (.next (r.set i (.own ds))) s := by rw [exec] <;> rfl
@[simp] theorem exec_asgC (i : Nat) (a b : E) : exec F W (.asgC i a b) r s = (ev F a r s).bind fun x s => (ev F b r s).bind fun y s => (binD s .add x y).bind fun z s => match z with | .lst ds => .ok (.next (r.set i (.own ds))) s | _ => .bad := by rw [exec] <;> rfl
@[simp] theorem exec_asgR (i : Nat) (es : Es) (k : E) : exec F W (.asgR i es k) r s = (evs F es r s).bind fun ds s => (ev F k r s).bind fun y s => (repD s ds y).bind fun z s => match z with | .lst ds => .ok (.next (r.set i (.own ds))) s | _ => .bad := by rw [exec] <;> rfl
@[simp] theorem exec_asgO (i : Nat) (e : E) : exec F W (.asgO i e) r s = (ev F e r s).bind fun x s => match x with | .lst ds => .ok (.next (r.set i (.own ds))) s | _ => .bad := by rw [exec] <;> rfl
@[simp] theorem exec_parA (i j : Nat) (e : E) : exec F W (.parA i j e) r s = (ev F e r s).bind fun x s => .ok (.next ((r.set i (.val x)).set j (.own []))) s := by rw [exec] <;> rfl
@[simp] theorem exec_parB (i j : Nat) (e : E) : exec F W (.parB i j e) r s = (ev F e r s).bind fun x s => .ok (.next ((r.set i (.own [])).set j (.val x))) s := by rw [exec] <;> rfl
@[simp] theorem exec_par (is : List Nat) (es : Es) : exec F W (.par is es) r s = (evs F es r s).bind fun ds s => match setAll is ds r with | some r => .ok (.next r) s | none => .bad := by rw [exec] <;> rfl
@[simp] theorem exec_unp (tg : Tg) (e : E) : exec F W (.unp tg e) r s = (ev F e r s).bind fun x s => match bindT tg x r with | some r => .ok (.next r) s | none => .bad := by rw [exec] <;> rfl
@[simp] theorem exec_app (i : Nat) (e : E) : exec F W (.app i e) r s = match getO r i with | some ds => (ev F e r s).bind fun x s => (if ds.length < sizeN then .ok (.next (r.set i (.own (ds ++ [x])))) s else .bad) | none => .bad := by rw [exec] <;> rfl
@[simp] theorem exec_setI (i : Nat) (x e : E) : exec F W (.setI i x e) r s = if slotB r i = false then .bad else (ev F e r s).bind fun d s => (ev F x r s).bind fun k s => putD r s i k d := by rw [exec] <;> rfl
@[simp] theorem exec_aug (i : Nat) (e : E) : exec F W (.aug i e) r s = match getV r i with | some (.int a) => (ev F e r s).bind fun y s => (match y with | .int b => .ok (.next (r.set i (.val (.int (a + b))))) s | _ => .bad) | _ => .bad := by rw [exec] <;> rfl
@[simp] theorem exec_ex (e : E) : exec F W (.ex e) r s = (ev F e r s).bind fun _ s => .ok (.next r) s := by rw [exec] <;> rfl
@[simp] theorem exec_ret (e : E) : exec F W (.ret e) r s = (ev F e r s).bind fun x s => .ok (.ret x) s := by rw [exec] <;> rfl
@[simp] theorem exec_ifs (c : E) (a b : Ss) : exec F W (.ifs c a b) r s = (tst (ev F c r s)).bind fun k s => if k then execs F W a r s else execs F W b r s := by rw [exec] <;> rfl
/-- a round of a loop -/
def roundK (F : Nat → List D → Sto → Res D) (W : Nat) (tg : Tg) (b : Ss) (d : D) (r : Env) (s : Sto) : Res Flow := match bindT tg d r with | some r => execs F W b r s | none => .bad
@[simp] theorem exec_fors (tg : Tg) (it : It) (b : Ss) : exec F W (.fors tg it b) r s = (evi F it r s).bind fun ds s => forR (roundK F W tg b) ds r s := by rw [exec] <;> rfl
@[simp] theorem exec_fldS (i : Nat) (o e : E) : exec F W (.fldS i o e) r s = (ev F e r s).bind fun d s => (ev F o r s).bind fun x s => fldSK r s i x d := by rw [exec] <;> rfl
@[simp] theorem exec_raise (c : Nat) : exec F W (.raise c) r s = .exc c s := by rw [exec] <;> rfl
end
@[simp] theorem setAll_nil (r : Env) : setAll [] [] r = some r := rfl
@[simp] theorem setAll_cons (i : Nat) (is : List Nat) (d : D) (ds : List D) (r : Env) : setAll (i :: is) (d :: ds) r = setAll is ds (r.set i (.val d)) := rfl
def outK (x : Res Flow) : Res D := match x with
    | .ok (.next _) s => .ok .non s
    | .ok (.ret x) s => .ok x s
    | .exc c s => .exc c s
    | .bad => .bad
@[simp] theorem outK_next (r : Env) (s : Sto) : outK (.ok (.next r) s) = .ok .non s := rfl
@[simp] theorem outK_ret (d : D) (s : Sto) : outK (.ok (.ret d) s) = .ok d s := rfl
@[simp] theorem outK_exc (c : Nat) (s : Sto) : outK (.exc c s) = .exc c s := rfl
theorem body_of {F : Nat → List D → Sto → Res D} {W : Nat} {d : Def} {ds : List D} {s : Sto} (h : ds.length = d.np) : body F W d ds s = outK (execs F W d.body (ds.map .val ++ List.replicate (d.nn - d.np) .no) s) := by
  unfold body outK
  rw [if_pos h] <;> rfl
/-- a call of a def of the program -/
theorem call_of {W n f : Nat} {d : Def} {ds : List D} {s : Sto} (h : Pd f = some d) (hl : ds.length = d.np) : run Pd W (n + 1) f ds s = outK (execs (run Pd W n) W d.body (ds.map .val ++ List.replicate (d.nn - d.np) .no) s) := by
  rw [run, h]
  exact body_of hl
section
variable (s : Sto)
@[simp] theorem bi_len_tup (xs : List D) : biD s .len [.tup xs] = .ok (.int xs.length) s := rfl
@[simp] theorem bi_len_lst (xs : List D) : biD s .len [.lst xs] = .ok (.int xs.length) s := rfl
@[simp] theorem bi_abs (i : Int) : biD s .abs [.int i] = .ok (.int (if i < 0 then -i else i)) s := rfl
@[simp] theorem bi_min2 (i j : Int) : biD s .min2 [.int i, .int j] = .ok (.int (if j < i then j else i)) s := rfl
@[simp] theorem bi_max2 (i j : Int) : biD s .max2 [.int i, .int j] = .ok (.int (if j > i then j else i)) s := rfl
@[simp] theorem bi_min1 (xs : List D) : biD s .min1 [.lst xs] = ofI (intsD xs) fun ns => match ns with | [] => .bad | x :: r => .ok (.int (minL x r)) s := rfl
@[simp] theorem bi_max1 (xs : List D) : biD s .max1 [.lst xs] = ofI (intsD xs) fun ns => match ns with | [] => .bad | x :: r => .ok (.int (maxL x r)) s := rfl
@[simp] theorem bi_sum (xs : List D) : biD s .sum [.lst xs] = ofI (intsD xs) fun ns => .ok (.int ns.sum) s := rfl
@[simp] theorem bz_all (xs : List D) : biD s .all [.lst xs] = ofB (boolsD xs) fun bs => .ok (.bl (bs.all id)) s := rfl
@[simp] theorem bi_any (xs : List D) : biD s .any [.lst xs] = ofB (boolsD xs) fun bs => .ok (.bl (bs.any id)) s := rfl
@[simp] theorem bi_tuple_lst (xs : List D) : biD s .tuple [.lst xs] = .ok (.tup xs) s := rfl
@[simp] theorem bi_tuple_tup (xs : List D) : biD s .tuple [.tup xs] = .ok (.tup xs) s := rfl
@[simp] theorem bi_list_lst (xs : List D) : biD s .list [.lst xs] = .ok (.lst xs) s := rfl
@[simp] theorem bi_list_tup (xs : List D) : biD s .list [.tup xs] = .ok (.lst xs) s := rfl
@[simp] theorem bi_int (i : Int) : biD s .int [.int i] = .ok (.int i) s := rfl
@[simp] theorem bi_int_bl (b : Bool) : biD s .int [.bl b] = .ok (.int (if b then 1 else 0)) s := rfl
@[simp] theorem bi_isi (t : Ty) (d : D) : biD s (.isi t) [d] = match isTy t d with | some b => .ok (.bl b) s | none => .bad := rfl
@[simp] theorem ofI_some (ns : List Int) (f : List Int → Res D) : ofI (some ns) f = f ns := rfl
@[simp] theorem ofB_some (ns : List Bool) (f : List Bool → Res D) : ofB (some ns) f = f ns := rfl
@[simp] theorem ofP_some {a : Type} (p : Option Int) (f : Option Int → Res a) : ofP (some p) f = f p := rfl
@[simp] theorem partsD_none : partsD none = some none := rfl
@[simp] theorem partsD_int (i : Int) : partsD (some (.int i)) = some (some i) := rfl
@[simp] theorem slice_tup (xs : List D) (l h : Option Int) : sliceD s (.tup xs) l h = .ok (.tup (cutD xs l h)) s := rfl
@[simp] theorem slice_lst (xs : List D) (l h : Option Int) : sliceD s (.lst xs) l h = .ok (.lst (cutD xs l h)) s := rfl
@[simp] theorem sub_tup (xs : List D) (i : Int) : subD s (.tup xs) (.int i) = atD s xs i := rfl
@[simp] theorem sub_lst (xs : List D) (i : Int) : subD s (.lst xs) (.int i) = atD s xs i := rfl
@[simp] theorem sub_cell (k : Nat) (i : Int) : subD s (.cell k) (.int i) = match s[k]? with | none => .bad | some xs => cellAt s xs i := rfl
@[simp] theorem cellAt_int (a : Int) (xs : List D) (i : Int) : cellAt s (.int a :: xs) i = atD s (.int a :: xs) i := rfl
@[simp] theorem isOb_int (a : Int) (xs : List D) : isOb (.int a :: xs) = false := rfl
@[simp] theorem isOb_nil : isOb [] = false := rfl
theorem at_nat {xs : List D} {k : Nat} {d : D} (h : xs[k]? = some d) : atD s xs (k : Int) = .ok d s := by
  have hk : k < xs.length := (List.getElem?_eq_some_iff.mp h).1
  unfold atD ixD
  rw [if_pos (by omega), if_pos (by omega)]
  simp [h]
@[simp] theorem at_zero (x : D) (xs : List D) : atD s (x :: xs) 0 = .ok x s := at_nat s (k := 0) rfl
@[simp] theorem at_one (x y : D) (xs : List D) : atD s (x :: y :: xs) 1 = .ok y s := at_nat s (k := 1) rfl
@[simp] theorem at_two (x y z : D) (xs : List D) : atD s (x :: y :: z :: xs) 2 = .ok z s := at_nat s (k := 2) rfl
@[simp] theorem cmp_eq (x y : D) : cmpD s .eq x y = if shp 30 x && shp 30 y then .ok (.bl (eqv x y)) s else .bad := rfl
@[simp] theorem cmp_ne (x y : D) : cmpD s .ne x y = if shp 30 x && shp 30 y then .ok (.bl (!eqv x y)) s else .bad := rfl
@[simp] theorem cmp_lt (i j : Int) : cmpD s .lt (.int i) (.int j) = .ok (.bl (decide (i < j))) s := rfl
@[simp] theorem cmp_le (i j : Int) : cmpD s .le (.int i) (.int j) = .ok (.bl (decide (i ≤ j))) s := rfl
@[simp] theorem cmp_gt (i j : Int) : cmpD s .gt (.int i) (.int j) = .ok (.bl (decide (j < i))) s := rfl
@[simp] theorem cmp_ge (i j : Int) : cmpD s .ge (.int i) (.int j) = .ok (.bl (decide (j ≤ i))) s := rfl
@[simp] theorem bin_add (i j : Int) : binD s .add (.int i) (.int j) = .ok (.int (i + j)) s := rfl
@[simp] theorem bin_sub (i j : Int) : binD s .sub (.int i) (.int j) = .ok (.int (i - j)) s := rfl
theorem bin_mul (i j : Int) : binD s .mul (.int i) (.int j) = if mulOk i j then .ok (.int (i * j)) s else .bad := rfl
theorem bin_fdiv (i j : Int) : binD s .fdiv (.int i) (.int j) = if divOk j then .ok (.int (i.fdiv j)) s else .bad := rfl
@[simp] theorem bin_mod (i j : Int) : binD s .mod (.int i) (.int j) = if j ≠ 0 then .ok (.int (i.fmod j)) s else .bad := rfl
@[simp] theorem bin_pow (i j : Int) : binD s .pow (.int i) (.int j) = if 0 ≤ j ∧ j ≤ 1000 ∧ i.natAbs < 2 ^ 64 then .ok (.int (i ^ j.toNat)) s else .bad := rfl
theorem bin_addT (a b : List D) : binD s .add (.tup a) (.tup b) = if a.length + b.length ≤ sizeN then .ok (.tup (a ++ b)) s else .bad := rfl
theorem bin_addL (a b : List D) : binD s .add (.lst a) (.lst b) = if a.length + b.length ≤ sizeN then .ok (.lst (a ++ b)) s else .bad := rfl
/-- bounds: a product of small things -/
theorem mul_ok {i j : Int} (h : i.natAbs < 2 ^ 64 ∨ j.natAbs < 2 ^ 64) : binD s .mul (.int i) (.int j) = .ok (.int (i * j)) s := by
  rw [bin_mul, if_pos]
  unfold mulOk
  rcases h with h | h <;> simp [h]
theorem big_lt {k : Nat} (h : k < 2 ^ 1000) : k < bigN := Nat.lt_trans h (Nat.pow_lt_pow_right (by decide) (by decide))
theorem div_lt {k : Nat} (h : k < 2 ^ 1000) : k < divN := Nat.lt_trans h (Nat.pow_lt_pow_right (by decide) (by decide))
theorem mul_big {i j : Int} (h : i.natAbs < 2 ^ 1000) (g : j.natAbs < 2 ^ 1000) : binD s .mul (.int i) (.int j) = .ok (.int (i * j)) s := by
  rw [bin_mul, if_pos]
  unfold mulOk
  simp [big_lt h, big_lt g]
theorem fdiv_ok {i j : Int} (h : j ≠ 0) (g : j.natAbs < 2 ^ 1000) : binD s .fdiv (.int i) (.int j) = .ok (.int (i.fdiv j)) s := by
  rw [bin_fdiv, if_pos]
  unfold divOk
  simp [div_lt g, h]
@[simp] theorem eqv_int (i j : Int) : eqv (.int i) (.int j) = (i == j) := by rw [eqv]
@[simp] theorem shp_int (k : Nat) (j : Int) : shp k (.int j) = true := by cases k <;> rfl
@[simp] theorem shp_bl (k : Nat) (j : Bool) : shp k (.bl j) = true := by cases k <;> rfl
@[simp] theorem shp_non (k : Nat) : shp k .non = true := by cases k <;> rfl
@[simp] theorem isTy_tup (t : Ty) (xs : List D) : isTy t (.tup xs) = some (decide (t = .tuple)) := by cases t <;> rfl
@[simp] theorem isTy_lst (t : Ty) (xs : List D) : isTy t (.lst xs) = some false := by cases t <;> rfl
@[simp] theorem isTy_non (t : Ty) : isTy t .non = some false := by cases t <;> rfl
@[simp] theorem isTy_int (t : Ty) (i : Int) : isTy t (.int i) = some (decide (t = .int)) := by cases t <;> rfl
@[simp] theorem isTy_bl (t : Ty) (i : Bool) : isTy t (.bl i) = some (decide (t = .int) || decide (t = .bool)) := by cases t <;> rfl
@[simp] theorem sizeN_eq : sizeN = 1000000 := rfl
@[simp] theorem mapR_nil (f : D → Sto → Res (Option D)) : mapR f [] s = .ok [] s := rfl
@[simp] theorem mapR_cns (f : D → Sto → Res (Option D)) (x : D) (xs : List D) : mapR f (x :: xs) s = (f x s).bindN fun o s => (mapR f xs s).bindN fun ys s => .ok (o.toList ++ ys) s := rfl
@[simp] theorem boolsD_nil : boolsD [] = some [] := rfl
@[simp] theorem boolsD_cons (b : Bool) (r : List D) : boolsD (.bl b :: r) = (boolsD r).map (b :: ·) := rfl
@[simp] theorem intsD_nil : intsD [] = some [] := rfl
@[simp] theorem intsD_cons (b : Int) (r : List D) : intsD (.int b :: r) = (intsD r).map (b :: ·) := rfl
end
/-- two lists, item by item -/
inductive All2 {a b : Type} (Q : a → b → Prop) : List a → List b → Prop where
  | nil : All2 Q [] []
  | cons {x : a} {y : b} {l : List a} {m : List b} : Q x y → All2 Q l m → All2 Q (x :: l) (y :: m)
theorem mapR_eq {a : Type} {f : D → Sto → Res (Option D)} {φ : a → D} (o : a → Option D) {s : Sto} : ∀ {l : List a}, (∀ x ∈ l, f (φ x) s = .ok (o x) s) → mapR f (l.map φ) s = .ok (l.filterMap o) s
  | [], _ => rfl
  | x :: l, h => by
    rw [List.map_cons, mapR, h x (by simp), Res.bindN_ok, mapR_eq o (fun y hy => h y (by simp [hy])), Res.bindN_ok, List.filterMap_cons]
    cases o x <;> rfl
theorem mapR_all {a : Type} {f : D → Sto → Res (Option D)} {φ : a → D} (g : a → D) {s : Sto} {l : List a} (h : ∀ x ∈ l, f (φ x) s = .ok (some (g x)) s) : mapR f (l.map φ) s = .ok (l.map g) s := by
  rw [mapR_eq (fun x => some (g x)) h]
  congr 1
  induction l with
  | nil => rfl
  | cons x l ih => rw [List.filterMap_cons]; simp only [List.map_cons]; rw [ih (fun y hy => h y (by simp [hy]))]
@[simp] theorem capL_eq (ys : List D) (s : Sto) : capL ys s = if ys.length ≤ 1000000 then .ok (.lst ys) s else .bad := rfl
theorem boolsD_map {a : Type} (p : a → Bool) : ∀ l : List a, boolsD (l.map fun x => .bl (p x)) = some (l.map p)
  | [] => rfl
  | x :: l => by rw [List.map_cons, boolsD, boolsD_map p l]; rfl
theorem intsD_map {a : Type} (p : a → Int) : ∀ l : List a, intsD (l.map fun x => .int (p x)) = some (l.map p)
  | [] => rfl
  | x :: l => by rw [List.map_cons, intsD, intsD_map p l]; rfl
theorem biD_all {a : Type} (p : a → Bool) (l : List a) (s : Sto) : biD s .all [.lst (l.map fun x => .bl (p x))] = .ok (.bl (l.all p)) s := by
  simp only [biD, ofB, boolsD_map]
  congr 2
  induction l with
  | nil => rfl
  | cons x l ih => simp only [List.map_cons, List.all_cons, ih, id]
end Rt
namespace Rt
open PySem
section
variable (F : Nat → List D → Sto → Res D) (r : Env) (s : Sto)
def m1K (F : Nat → List D → Sto → Res D) (m : Mt) (b : E) (r : Env) (x : D) (s : Sto) : Res D := if isTxt x then (ev F b r s).bind fun y s => m1D s m x y else .bad
@[simp] theorem m1K_str (m : Mt) (b : E) (z : Str) : m1K F m b r (.str z) s = (ev F b r s).bind fun y s => m1D s m (.str z) y := rfl
@[simp] theorem ev_m1 (m : Mt) (a b : E) : ev F (.m1 m a b) r s = (ev F a r s).bind fun x s => m1K F m b r x s := by rw [ev] <;> rfl
/-- an item of a raising comprehension -/
def itemX (F : Nat → List D → Sto → Res D) (tg : Tg) (elt : E) (r : Env) (d : D) (s : Sto) : Res D := match bindT tg d r with
      | none => .bad
      | some r' => ev F elt r' s
def compK (f : D → Sto → Res D) (ds : List D) (s : Sto) : Res D := if ds.length ≤ sizeN then (mapX f ds s).bind fun ys s => .ok (.lst ys) s else .bad
@[simp] theorem ev_compX (tg : Tg) (it : It) (elt : E) (own : List Nat) : ev F (.compX tg it elt own) r s = (evi F it r s).bind fun ds s => compK (itemX F tg elt (wipeE r own)) ds s := by rw [ev] <;> rfl
@[simp] theorem bi_len_str (z : Str) : biD s .len [.str z] = if z.length ≤ sizeN then .ok (.int z.length) s else .bad := rfl
theorem slice_str (z : Str) (l h : Option Int) : sliceD s (.str z) l h = if z.length ≤ sizeN then .ok (.str (L2.cutS z l h)) s else .bad := rfl
theorem m1_split (a b : Str) : m1D s .split (.str a) (.str b) = if (b.length == 0) = false ∧ a.length + 2 ≤ sizeN then .ok (.lst ((Txt.split a b).map D.str)) s else .bad := rfl
end
/-- items one by one, the first none ends it -/
def mapO {a b : Type} (o : a → Option b) : List a → Option (List b)
  | [] => some []
  | x :: l => (o x).bind fun y => (mapO o l).map (y :: ·)
def orExc {a : Type} (ψ : a → D) (c : Nat) (s : Sto) : Option a → Res D
  | some y => .ok (ψ y) s
  | none => .exc c s
theorem mapX_of {a b : Type} {f : D → Sto → Res D} {φ : a → D} (o : a → Option b) (ψ : b → D) (c : Nat) {s : Sto} : ∀ {l : List a}, (∀ x ∈ l, f (φ x) s = orExc ψ c s (o x)) → mapX f (l.map φ) s = match mapO o l with | some ys => .ok (ys.map ψ) s | none => .exc c s
  | [], _ => rfl
  | x :: l, h => by
    rw [List.map_cons, mapX, h x (by simp)]
    cases hx : o x with
    | none => simp [orExc, mapO, hx]
    | some y =>
      rw [orExc, Res.bind_ok, mapX_of o ψ c (fun z hz => h z (by simp [hz]))]
      cases hl : mapO o l with
      | none => simp [mapO, hx, hl]
      | some ys => simp [mapO, hx, hl]
theorem compK_of {a b : Type} {f : D → Sto → Res D} {φ : a → D} (o : a → Option b) (ψ : b → D) (c : Nat) {s : Sto} {l : List a} (hl : l.length ≤ 1000000) (h : ∀ x ∈ l, f (φ x) s = orExc ψ c s (o x)) : compK f (l.map φ) s = match mapO o l with | some ys => .ok (.lst (ys.map ψ)) s | none => .exc c s := by
  unfold compK
  rw [if_pos (by rw [List.length_map]; exact hl), mapX_of o ψ c h]
  cases mapO o l <;> rfl
end Rt
set_option maxHeartbeats 1000000
namespace Rt
open PySem
variable {W n : Nat} {s : Sto}
abbrev Tab := List (List (Int × Int))
def pD (p : Int × Int) : D := .tup [.int p.1, .int p.2]
def rowD (l : List (Int × Int)) : D := .tup (l.map pD)
def tabD (t : Tab) : D := .tup (t.map rowD)
structure TabOk (t : Tab) : Prop where
  lo : 1 ≤ t.length
  hi : t.length ≤ 3
  sq : ∀ row ∈ t, row.length = t.length
  rg : ∀ row ∈ t, ∀ p ∈ row, -9 ≤ p.1 ∧ p.1 ≤ p.2 ∧ p.2 ≤ 9
theorem run_is_number (d : D) (b : Bool) (h1 : isTy .int d = some b) (c : Bool) (h2 : isTy .bool d = some c) : run Pd W (n + 1) 1 [d] s = .ok (.bl (b && !c)) s := by
  rw [call_of (d := c_is_number) rfl rfl]
  cases b <;> simp [c_is_number, h1, h2]
theorem num_int (v : Int) : run Pd W (n + 1) 1 [.int v] s = .ok (.bl true) s := run_is_number _ true rfl false rfl
theorem run_is_whole (v a b : Int) : run Pd W (n + 2) 2 [.int v, .int a, .int b] s = .ok (.bl (decide (a ≤ v) && decide (v ≤ b))) s := by
  rw [call_of (d := c_is_whole) rfl rfl]
  by_cases h : a ≤ v <;> simp [c_is_whole, h, num_int]
theorem run_is_range (p : Int × Int) (h : -9 ≤ p.1 ∧ p.1 ≤ p.2 ∧ p.2 ≤ 9) : run Pd W (n + 3) 3 [pD p] s = .ok (.bl true) s := by
  rw [call_of (d := c_is_range) rfl rfl]
  have h1 : p.1 ≤ 9 := by omega
  have h2 : -9 ≤ p.2 := by omega
  simp [c_is_range, pD, itemK, run_is_whole, h, h1, h2]
theorem run_is_row (l : List (Int × Int)) (k : Int) (hk : (l.length : Int) = k) (hs : l.length ≤ 1000) (h : ∀ p ∈ l, -9 ≤ p.1 ∧ p.1 ≤ p.2 ∧ p.2 ≤ 9) : run Pd W (n + 4) 4 [rowD l, .int k] s = .ok (.bl true) s := by
  rw [call_of (d := c_is_row) rfl rfl]
  have e := mapR_all (f := itemK (run Pd W (n + 3)) (.name 2) .none (.call 3 (.cons (.var 2) .nil)) [.val (rowD l), .val (.int k), .no]) (φ := pD) (fun _ => D.bl true) (s := s) (l := l) fun p hp => by
    simp [itemK, run_is_range p (h p hp)]
  have a := biD_all (fun _ : Int × Int => true) l s
  have hl : l.length ≤ 1000000 := by omega
  simp [c_is_row, rowD, hk, hl] at e a ⊢
  simp [e, hl, a]
theorem run_is_table (t : Tab) (h : TabOk t) : run Pd W (n + 5) 5 [tabD t] s = .ok (.bl true) s := by
  rw [call_of (d := c_is_table) rfl rfl]
  have e := mapR_all (f := itemK (run Pd W (n + 4)) (.name 1) .none (.call 4 (.cons (.var 1) (.cons (.bi .len (.cons (.var 0) .nil)) .nil))) [.val (tabD t), .no]) (φ := rowD) (fun _ => D.bl true) (s := s) (l := t) fun p hp => by
    have := run_is_row (W := W) (n := n) (s := s) p t.length (by rw [h.sq p hp]) (by rw [h.sq p hp]; have := h.hi; omega) (h.rg p hp)
    simp [itemK, tabD, this]
  have a := biD_all (fun _ : List (Int × Int) => true) t s
  have hl : t.length ≤ 1000000 := by have := h.hi; omega
  have h1 : 1 ≤ (t.length : Int) := by have := h.lo; omega
  have h2 : (t.length : Int) ≤ 3 := by have := h.hi; omega
  simp [c_is_table, tabD, hl, h1, h2] at e a ⊢
  simp [e, hl, a]
theorem run_need_table (t : Tab) (h : TabOk t) : run Pd W (n + 6) 6 [tabD t] s = .ok .non s := by
  rw [call_of (d := c_need_table) rfl rfl]
  simp [c_need_table, run_is_table t h]
end Rt
set_option maxHeartbeats 1000000
namespace Rt
open PySem
variable {W n : Nat} {s : Sto}
/-- every cell holds two ints -/
structure Dice (L : Nat) (s : Sto) : Prop where
  len : s.length = L
  two : ∀ ds ∈ s, ∃ a b : Int, ds = [.int a, .int b]
theorem Dice.get {L i : Nat} (h : Dice L s) (hi : i < L) : ∃ a b : Int, s[i]? = some [.int a, .int b] := by
  have hi2 : i < s.length := by rw [h.len]; exact hi
  obtain ⟨a, b, e⟩ := h.two s[i] (List.getElem_mem hi2)
  exact ⟨a, b, by rw [List.getElem?_eq_getElem hi2, e]⟩
theorem Dice.set {L i : Nat} (h : Dice L s) (a b : Int) : Dice L (s.set i [.int a, .int b]) := by
  refine ⟨by rw [List.length_set]; exact h.len, fun ds hd => ?_⟩
  rcases List.mem_or_eq_of_mem_set hd with z | z
  · exact h.two ds z
  · exact ⟨a, b, z⟩
theorem fm {a b : Int} (h : 0 < b) : a.fmod b = a % b := Int.fmod_eq_emod_of_nonneg a (by omega)
theorem fd {a b : Int} (h : 0 < b) : a.fdiv b = a / b := Int.fdiv_eq_ediv_of_nonneg a (by omega)
theorem natAbs_lt {a : Int} {k : Nat} (h1 : -(k : Int) < a) (h2 : a < k) : a.natAbs < k := by omega
theorem run_drawn (c k : Int) : ∃ v, run Pd W (n + 1) 11 [.int c, .int k] s = .ok (.int v) s := by
  rw [call_of (d := c_law_drawn) rfl rfl]
  simp only [c_law_drawn, List.map, List.replicate, List.cons_append, List.nil_append, execs_cons, exec_asg, ev_bin, ev_var, getV_zero, getV_succ, ev_int, Res.bind_ok]
  generalize e1 : c * 6364136223846793005 + (k + 1) * 1442695040888963407 = x1
  have b1 : (6364136223846793005 : Int).natAbs < 2 ^ 64 := by decide
  have b2 : (1442695040888963407 : Int).natAbs < 2 ^ 64 := by decide
  simp only [bin_add, Res.bind_ok, mul_ok s (Or.inr b1), mul_ok s (Or.inr b2), bin_mod, e1]
  rw [if_pos (by decide)]
  have hx := Int.emod_nonneg x1 (b := 340282366920938463463374607431768211507) (by decide)
  have hy := Int.emod_lt_of_pos x1 (b := 340282366920938463463374607431768211507) (by decide)
  rw [fm (by decide)]
  generalize x1 % 340282366920938463463374607431768211507 = x2 at hx hy
  have b3 : x2.natAbs < 2 ^ 1000 := Nat.lt_trans (natAbs_lt (k := 2 ^ 129) (by omega) (by omega)) (Nat.pow_lt_pow_right (by decide) (by decide))
  simp only [Res.bind_ok, seqR_next, List.set_cons_succ, List.set_cons_zero, getV_succ, getV_zero, execs_cons, exec_asg, ev_bin, ev_var, ev_int, mul_big s b3 b3, bin_mod]
  rw [if_pos (by decide), fm (by decide)]
  have hx3 := Int.emod_nonneg (x2 * x2) (b := 340282366920938463463374607431768211297) (by decide)
  have hy3 := Int.emod_lt_of_pos (x2 * x2) (b := 340282366920938463463374607431768211297) (by decide)
  generalize (x2 * x2) % 340282366920938463463374607431768211297 = x3 at hx3 hy3
  have b4 : (18446744073709551557 : Int).natAbs < 2 ^ 1000 := Nat.lt_trans (show (18446744073709551557 : Int).natAbs < 2 ^ 64 by decide) (Nat.pow_lt_pow_right (by decide) (by decide))
  simp only [Res.bind_ok, seqR_next, List.set_cons_succ, List.set_cons_zero, getV_succ, getV_zero, execs_cons, exec_asg, ev_bin, ev_var, ev_int, bin_mod, fdiv_ok s (show (18446744073709551557 : Int) ≠ 0 by decide) b4, bin_add]
  rw [if_pos (by decide), fm (by decide)]
  simp only [Res.bind_ok, bin_add, fdiv_ok s (show (18446744073709551557 : Int) ≠ 0 by decide) b4]
  rw [fd (by decide)]
  have b5 : (x3 % 18446744073709551557 + 1).natAbs < 2 ^ 64 := natAbs_lt (by omega) (by omega)
  have b6 : (x3 / 18446744073709551557 + 1).natAbs < 2 ^ 65 := natAbs_lt (by omega) (by omega)
  rw [mul_ok s (Or.inl b5)]
  have b7 : ((x3 % 18446744073709551557 + 1) * (x3 / 18446744073709551557 + 1)).natAbs < 2 ^ 1000 := by
    rw [Int.natAbs_mul]
    exact Nat.lt_trans (Nat.mul_lt_mul'' b5 b6) (by rw [← Nat.pow_add]; exact Nat.pow_lt_pow_right (by decide) (by decide))
  have b8 : x3.natAbs < 2 ^ 1000 := Nat.lt_trans (natAbs_lt (k := 2 ^ 128) (by omega) (by omega)) (Nat.pow_lt_pow_right (by decide) (by decide))
  simp only [Res.bind_ok, mul_big s b7 b8]
  simp
theorem run_cell (ns : List Int) (k : Nat) (hk : k < 1000) (hl : ns.length < 1000) : ∃ v, run Pd W (n + 1) 10 [.lst (ns.map D.int), .int k] s = .ok (.int v) s := by
  rw [call_of (d := c_law_cell) rfl rfl]
  have b1 : (7919 : Int).natAbs < 2 ^ 64 := by decide
  have b2 : (104729 : Int).natAbs < 2 ^ 64 := by decide
  cases ns with
  | nil => simp [c_law_cell, shp, eqv, eqvAll, mul_ok s (Or.inr b1)]
  | cons x ns =>
    have h0 : (0 : Int) < (ns.length : Int) + 1 := by omega
    have h1 : ((ns.length : Int) + 1) ≠ 0 := by omega
    have h2 : ((ns.length : Int) + 1).natAbs < 2 ^ 1000 := Nat.lt_trans (natAbs_lt (k := 2 ^ 64) (by omega) (by simp only [List.length_cons] at hl; omega)) (Nat.pow_lt_pow_right (by decide) (by decide))
    have h3 := Int.emod_nonneg (k : Int) h1
    have h4 := Int.emod_lt_of_pos (k : Int) h0
    obtain ⟨j, hj⟩ := Int.eq_ofNat_of_zero_le h3
    have h5 : j < (x :: ns).length := by simp only [List.length_cons]; omega
    have h6 : (D.int x :: ns.map D.int)[j]? = some (.int (x :: ns)[j]) := by
      rw [← List.map_cons, List.getElem?_map, List.getElem?_eq_getElem h5]; rfl
    have h7 := at_nat s h6
    simp [c_law_cell, shp, eqv, eqvAll, h1, fm h0, fd h0, fdiv_ok s h1 h2, mul_ok s (Or.inr b2), hj, h7]
theorem rngD_map (m : Nat) : rngD 0 m 1 = (List.range m).map fun i : Nat => D.int i := by
  unfold rngD
  apply List.map_congr_left
  intro i _
  simp
/-- the rounds: as many cells as items -/
theorem run_rounds (ns : List Int) (most : Int) (hm : 1 ≤ most) (hb : most ≤ 100) (hl : ns.length < 1000) : ∃ L s', run Pd W (n + 2) 13 [.lst (ns.map D.int), .int most] [] = .ok (.lst ((List.range L).map D.cell)) s' ∧ Dice L s' ∧ L ≤ 100 := by
  rw [call_of (d := c_law_rounds) rfl rfl]
  have hk : ∃ k : Nat, (if (1 : Int) < (if (ns.length : Int) < most then (ns.length : Int) else most) then (if (ns.length : Int) < most then (ns.length : Int) else most) else 1) = (k : Int) ∧ k ≤ 100 := by
    by_cases c1 : (ns.length : Int) < most
    · by_cases c2 : (1 : Int) < (ns.length : Int)
      · exact ⟨ns.length, by rw [if_pos c1, if_pos c2], by omega⟩
      · exact ⟨1, by rw [if_pos c1, if_neg c2]; rfl, by omega⟩
    · by_cases c2 : (1 : Int) < most
      · exact ⟨most.toNat, by rw [if_neg c1, if_pos c2]; omega, by omega⟩
      · exact ⟨1, by rw [if_neg c1, if_neg c2]; rfl, by omega⟩
  obtain ⟨k, hk, hk2⟩ := hk
  have key : ∀ (js : List Nat) (s : Sto) (r : Env), (∀ j ∈ js, j < 1000) → Dice s.length s → r[0]? = some (.val (.lst (ns.map D.int))) → r.length = 3 → ∃ s', mapR (itemK (run Pd W (n + 1)) (.name 2) .none (.cel (.cons (.call 10 (.cons (.var 0) (.cons (.var 2) .nil))) (.cons (.int 0) .nil))) r) (js.map fun i : Nat => D.int i) s =
      .ok ((List.range' s.length js.length).map D.cell) s' ∧ Dice (s.length + js.length) s' := by
    intro js
    induction js with
    | nil => intro s r _ hs _ _; exact ⟨s, rfl, by simpa using hs⟩
    | cons j js ih =>
      intro s r hj hs hr hr3
      obtain ⟨v, hv⟩ := run_cell (W := W) (n := n) (s := s) ns j (hj j (by simp)) hl
      obtain ⟨s', e, d⟩ := ih (s ++ [[.int v, .int 0]]) r (fun j h => hj j (by simp [h])) (by
        refine ⟨rfl, fun ds hd => ?_⟩
        rcases List.mem_append.mp hd with z | z
        · exact hs.two ds z
        · exact ⟨v, 0, by simpa using z⟩) hr hr3
      refine ⟨s', ?_, ?_⟩
      · match r, hr, hr3 with
        | [a, b, c], hr, _ =>
          simp at hr
          subst hr
          simp [itemK, hv]
          simp [itemK] at e
          rw [e]
          simp [List.range'_succ]
      · simp only [List.length_append, List.length_cons, List.length_nil] at d
        simp only [List.length_cons]
        rw [show s.length + (js.length + 1) = s.length + (0 + 1) + js.length by omega]
        exact d
  obtain ⟨s', e, d⟩ := key (List.range k) [] [.val (.lst (ns.map D.int)), .val (.int most), .no] (fun j hj => by have := List.mem_range.mp hj; omega) ⟨rfl, by simp⟩ rfl rfl
  refine ⟨k, s', ?_, by simpa using d, hk2⟩
  have h1 : small (k : Int) = true := by unfold small; simp; omega
  have h2 : k ≤ 1000000 := by omega
  simp [c_law_rounds, hk, h1, rngD_map, h2]
  simp [List.length_nil, ← List.range_eq_range'] at e
  rw [e]
  simp [h2]
end Rt
set_option maxHeartbeats 1000000
namespace Rt
open PySem
section
variable {a b : Type}
def Wp (x : Res a) (Q : a → Sto → Prop) : Prop := match x with
  | .ok v s => Q v s
  | _ => False
theorem wp_iff {x : Res a} {Q : a → Sto → Prop} : Wp x Q ↔ ∃ v s, x = .ok v s ∧ Q v s := by
  cases x with
  | ok v s => exact ⟨fun h => ⟨v, s, rfl, h⟩, fun ⟨_, _, e, h⟩ => by cases e; exact h⟩
  | exc c s => exact ⟨fun h => h.elim, fun ⟨_, _, e, _⟩ => by cases e⟩
  | bad => exact ⟨fun h => h.elim, fun ⟨_, _, e, _⟩ => by cases e⟩
theorem Wp.mono {x : Res a} {Q R : a → Sto → Prop} (h : Wp x Q) (k : ∀ v s, Q v s → R v s) : Wp x R := by
  cases x with
  | ok v s => exact k _ _ h
  | exc c s => exact h
  | bad => exact h
@[simp] theorem wp_ok (v : a) (s : Sto) (Q : a → Sto → Prop) : Wp (.ok v s) Q = Q v s := rfl
@[simp] theorem wp_bind (x : Res a) (f : a → Sto → Res b) (Q : b → Sto → Prop) : Wp (x.bind f) Q = Wp x (fun v s => Wp (f v s) Q) := by cases x <;> rfl
def seqP (f : Env → Sto → Res Flow) (Q : Flow → Sto → Prop) (fl : Flow) (s : Sto) : Prop := match fl with
  | .next r => Wp (f r s) Q
  | .ret d => Q (.ret d) s
@[simp] theorem seqP_next (f : Env → Sto → Res Flow) (Q : Flow → Sto → Prop) (r : Env) (s : Sto) : seqP f Q (.next r) s = Wp (f r s) Q := rfl
@[simp] theorem seqP_ret (f : Env → Sto → Res Flow) (Q : Flow → Sto → Prop) (d : D) (s : Sto) : seqP f Q (.ret d) s = Q (.ret d) s := rfl
@[simp] theorem wp_seq (x : Res Flow) (f : Env → Sto → Res Flow) (Q : Flow → Sto → Prop) : Wp (seqR x f) Q = Wp x (seqP f Q) := by
  cases x with
  | ok fl s => cases fl <;> rfl
  | exc c s => rfl
  | bad => rfl
def outP (Q : D → Sto → Prop) (fl : Flow) (s : Sto) : Prop := match fl with
  | .next _ => Q .non s
  | .ret d => Q d s
@[simp] theorem outP_next (Q : D → Sto → Prop) (r : Env) (s : Sto) : outP Q (.next r) s = Q .non s := rfl
@[simp] theorem outP_ret (Q : D → Sto → Prop) (d : D) (s : Sto) : outP Q (.ret d) s = Q d s := rfl
@[simp] theorem wp_out (x : Res Flow) (Q : D → Sto → Prop) : Wp (outK x) Q = Wp x (outP Q) := by
  cases x with
  | ok fl s => cases fl <;> rfl
  | exc c s => rfl
  | bad => rfl
/-- one round: on, or out -/
def loopP (I : Env → Sto → Prop) (Q : Flow → Sto → Prop) (fl : Flow) (s : Sto) : Prop := match fl with
  | .next r => I r s
  | .ret d => Q (.ret d) s
@[simp] theorem loopP_next (I : Env → Sto → Prop) (Q : Flow → Sto → Prop) (r : Env) (s : Sto) : loopP I Q (.next r) s = I r s := rfl
@[simp] theorem loopP_ret (I : Env → Sto → Prop) (Q : Flow → Sto → Prop) (d : D) (s : Sto) : loopP I Q (.ret d) s = Q (.ret d) s := rfl
theorem wp_forL {f : D → Env → Sto → Res Flow} {Q : Flow → Sto → Prop} {tot : Nat} (I : Nat → Env → Sto → Prop) (fin : ∀ r s, I tot r s → Q (.next r) s) : ∀ (ds : List D) (j : Nat) (r : Env) (s : Sto), j + ds.length = tot → I j r s →
    (∀ k d, ds[k]? = some d → ∀ r s, I (j + k) r s → Wp (f d r s) (loopP (I (j + k + 1)) Q)) → Wp (forR f ds r s) Q
  | [], j, r, s, e, h, _ => fin r s (by rw [← e]; exact h)
  | d :: ds, j, r, s, e, h, st => by
    have h1 := st 0 d rfl r s h
    rw [forR, wp_seq]
    refine h1.mono fun fl s1 q => ?_
    cases fl with
    | next r1 =>
      refine wp_forL I fin ds (j + 1) r1 s1 (by simp only [List.length_cons] at e; omega) q fun k d hd r s hI => ?_
      have := st (k + 1) d (by simpa using hd) r s (by rw [show j + (k + 1) = j + 1 + k by omega]; exact hI)
      rw [show j + 1 + k + 1 = j + (k + 1) + 1 by omega]
      exact this
    | ret x => exact q
theorem wp_for {f : D → Env → Sto → Res Flow} {Q : Flow → Sto → Prop} {ds : List D} {r : Env} {s : Sto} (I : Nat → Env → Sto → Prop) (h0 : I 0 r s)
    (st : ∀ k d, ds[k]? = some d → ∀ r s, I k r s → Wp (f d r s) (loopP (I (k + 1)) Q)) (fin : ∀ r s, I ds.length r s → Q (.next r) s) : Wp (forR f ds r s) Q :=
  wp_forL I fin ds 0 r s (Nat.zero_add _) h0 fun k d hd r s hI => by
    have := st k d hd r s (by rw [Nat.zero_add] at hI; exact hI)
    rw [Nat.zero_add]; exact this
end
variable {W n : Nat} {s : Sto}
end Rt
set_option maxHeartbeats 1000000
namespace Rt
open PySem
variable {W n : Nat} {s : Sto}
/-- L cells hold two ints; behind them lies b -/
structure DiceB (b : Sto) (L : Nat) (s : Sto) : Prop where
  len : L ≤ s.length
  two : ∀ i, i < L → ∃ x y : Int, s[i]? = some [.int x, .int y]
  rest : s.drop L = b
theorem DiceB.get {b : Sto} {L i : Nat} (h : DiceB b L s) (hi : i < L) : ∃ x y : Int, s[i]? = some [.int x, .int y] := h.two i hi
theorem DiceB.set {b : Sto} {L i : Nat} (h : DiceB b L s) (hi : i < L) (x y : Int) : DiceB b L (s.set i [.int x, .int y]) := by
  refine ⟨by rw [List.length_set]; exact h.len, fun j hj => ?_, ?_⟩
  · by_cases e : i = j
    · subst e
      exact ⟨x, y, by rw [List.getElem?_set_self (Nat.lt_of_lt_of_le hi h.len)]⟩
    · rw [List.getElem?_set_ne e]
      exact h.two j hj
  · rw [List.drop_set_of_lt hi]
    exact h.rest
theorem DiceB.of {L : Nat} (h : Dice L s) : DiceB [] L s := ⟨by rw [h.len]; exact Nat.le_refl _, fun i hi => h.get hi, by rw [← h.len]; exact List.drop_length⟩
theorem DiceB.size {b : Sto} {L : Nat} (h : DiceB b L s) : s.length = L + b.length := by
  have := congrArg List.length h.rest
  rw [List.length_drop] at this
  have := h.len
  omega
/-- a cell is added -/
theorem DiceB.add {b : Sto} {L : Nat} (h : DiceB b L s) (d : List D) : DiceB (b ++ [d]) L (s ++ [d]) := by
  refine ⟨by rw [List.length_append]; have := h.len; omega, fun i hi => ?_, ?_⟩
  · rw [List.getElem?_append_left (Nat.lt_of_lt_of_le hi h.len)]
    exact h.two i hi
  · rw [List.drop_append_of_le_length h.len, h.rest]
theorem run_rollO {b0 : Sto} {L i : Nat} (h : DiceB b0 L s) (hi : i < L) (m : Int) (hm : 0 < m) (hb : m < 1000000) : ∃ r s', run Pd W (n + 2) 12 [.cell i, .int m] s = .ok (.int r) s' ∧ DiceB b0 L s' ∧ 0 ≤ r ∧ r < m := by
  obtain ⟨a, b, e⟩ := h.get hi
  have hm0 : m ≠ 0 := by omega
  have hmb : m.natAbs < 2 ^ 1000 := Nat.lt_trans (natAbs_lt (k := 2 ^ 64) (by omega) (by omega)) (Nat.pow_lt_pow_right (by decide) (by decide))
  rw [call_of (d := c_law_roll) rfl rfl]
  by_cases h1 : (10 : Int) ^ 18 ≤ a
  · refine ⟨a % m, s.set i [.int (a / m), .int b], ?_, h.set hi _ _, Int.emod_nonneg _ hm0, Int.emod_lt_of_pos _ hm⟩
    have h2 : (1000000000000000000 : Int) ≤ a := h1
    simp [c_law_roll, e, h2, hm0, fm hm, slotB, fdiv_ok s hm0 hmb, fd hm, putD, ixD]
  · obtain ⟨v, hv⟩ := run_drawn (W := W) (n := n) (s := s.set i [.int a, .int (b + 1)]) a (b + 1)
    refine ⟨v / 8 % m, s.set i [.int a, .int (b + 1)], ?_, h.set hi _ _, Int.emod_nonneg _ hm0, Int.emod_lt_of_pos _ hm⟩
    have h2 : ¬ (1000000000000000000 : Int) ≤ a := h1
    have hi2 : i < s.length := Nat.lt_of_lt_of_le hi h.len
    have e2 : (s.set i [.int a, .int (b + 1)])[i]? = some [.int a, .int (b + 1)] := by rw [List.getElem?_set_self hi2]
    have h8 : (8 : Int).natAbs < 2 ^ 1000 := Nat.lt_trans (show (8 : Int).natAbs < 2 ^ 64 by decide) (Nat.pow_lt_pow_right (by decide) (by decide))
    simp [c_law_roll, e, e2, h2, hm0, fm hm, slotB, fd hm, putD, ixD, hv, fdiv_ok _ (show (8 : Int) ≠ 0 by decide) h8, fd (show (0 : Int) < 8 by decide)]
theorem wp_rollO {b0 : Sto} {L i : Nat} (h : DiceB b0 L s) (hi : i < L) (m : Int) (hm : 0 < m) (hb : m < 1000000) {Q : D → Sto → Prop} (k : ∀ r s', DiceB b0 L s' → 0 ≤ r → r < m → Q (.int r) s') : Wp (run Pd W (n + 2) 12 [.cell i, .int m] s) Q := by
  obtain ⟨r, s', e, h1, h2, h3⟩ := run_rollO (W := W) (n := n) h hi m hm hb
  rw [e]
  exact k r s' h1 h2 h3
end Rt
set_option maxHeartbeats 1000000
namespace Rt
open PySem
variable {W n : Nat} {s : Sto}
abbrev Big (W : Nat) : Prop := 10000000000000000000000000000000000000000 ≤ W
/-- a small fraction in lowest terms -/
structure Fr (p : Int × Int) : Prop where
  pos : 0 < p.2
  sm : p.2 < 1000000000000000
  t1 : -1000000000000000 < p.1
  t2 : p.1 < 1000000000000000
  co : Nat.gcd p.2.natAbs p.1.natAbs = 1
structure Bd (b : Int × Int) : Prop where
  a1 : -1000000000000000 < b.1
  a2 : b.1 < 1000000000000000
  b1 : -1000000000000000 < b.2
  b2 : b.2 < 1000000000000000
structure MemOk (t m : Tab) : Prop where
  len : m.length = t.length
  row : ∀ r ∈ m, r.length = t.length
  fr : ∀ r ∈ m, ∀ p ∈ r, Fr p
theorem TabOk.bd {t : Tab} (h : TabOk t) {r : List (Int × Int)} (hr : r ∈ t) {p : Int × Int} (hp : p ∈ r) : Bd p := by
  have := h.rg r hr p hp
  exact ⟨by omega, by omega, by omega, by omega⟩
end Rt
set_option maxHeartbeats 1000000
namespace Rt
open PySem
variable {W n : Nat} {s : Sto}
@[simp] theorem shp_pD (k : Nat) (p : Int × Int) : shp (k + 1) (pD p) = true := by simp [pD, shp]
@[simp] theorem eqv_pD (p q : Int × Int) : eqv (pD p) (pD q) = (p.1 == q.1 && p.2 == q.2) := by simp [pD, eqv, eqvAll]
@[simp] theorem sub_pD0 (s : Sto) (p : Int × Int) : subD s (pD p) (.int 0) = .ok (.int p.1) s := by simp [pD]
@[simp] theorem sub_pD1 (s : Sto) (p : Int × Int) : subD s (pD p) (.int 1) = .ok (.int p.2) s := by simp [pD]
theorem All2.length {a b : Type} {R : a → b → Prop} : ∀ {l : List a} {m : List b}, All2 R l m → m.length = l.length
  | _, _, .nil => rfl
  | _, _, .cons _ t => by simp [All2.length t]
theorem All2.zip {a b : Type} {R : a → b → Prop} (p : b × a → Bool) (h : ∀ x y, R x y → p (y, x) = true) : ∀ {l : List a} {m : List b}, All2 R l m → (m.zip l).all p = true
  | _, _, .nil => rfl
  | _, _, .cons r t => by simp only [List.zip_cons_cons, List.all_cons, h _ _ r, Bool.true_and]; exact All2.zip p h t
theorem All2.right {a b : Type} {R : a → b → Prop} (P : b → Prop) (h : ∀ x y, R x y → P y) : ∀ {l : List a} {m : List b}, All2 R l m → ∀ y ∈ m, P y
  | _, _, .nil, _, hy => by cases hy
  | _, _, .cons r t, y, hy => by
    rcases List.mem_cons.mp hy with rfl | z
    · exact h _ _ r
    · exact All2.right P h t y z
theorem All2.mem_left {a b : Type} {R S : a → b → Prop} : ∀ {l : List a} {m : List b}, All2 R l m → (∀ x ∈ l, ∀ y, R x y → S x y) → All2 S l m
  | _, _, .nil, _ => .nil
  | _, _, .cons r t, h => .cons (h _ (by simp) _ r) (All2.mem_left t fun x hx => h x (by simp [hx]))
def endsP (p : Int × Int) : List Int := if p.1 = p.2 then [p.1] else [p.1, p.2]
def growR (some : List (List Int)) (p : Int × Int) : List (List Int) := some.flatMap fun one => (endsP p).map fun e => one ++ [e]
def rowsC (row : List (Int × Int)) : List (List Int) := row.foldl growR [[]]
def growT (found : List (List (List Int))) (row : List (Int × Int)) : List (List (List Int)) := found.flatMap fun one => (rowsC row).map fun r => one ++ [r]
def cornersL (t : Tab) : List (List (List Int)) := t.foldl growT [[]]
def vecD (l : List Int) : D := .tup (l.map D.int)
def matD (m : List (List Int)) : D := .tup (m.map vecD)
theorem ends_len (p : Int × Int) : (endsP p).length ≤ 2 := by unfold endsP; split <;> simp
theorem flat_len {a b : Type} (f : a → List b) (c : Nat) (h : ∀ x, (f x).length ≤ c) : ∀ l : List a, (l.flatMap f).length ≤ l.length * c
  | [] => by simp
  | x :: l => by
    have := flat_len f c h l
    have := h x
    simp only [List.flatMap_cons, List.length_append, List.length_cons, Nat.add_mul, Nat.one_mul]
    omega
theorem growR_len (l : List (List Int)) (p : Int × Int) : (growR l p).length ≤ l.length * 2 := flat_len _ 2 (fun x => by simp [ends_len]) l
theorem foldR_len : ∀ (row : List (Int × Int)) (l : List (List Int)), (row.foldl growR l).length ≤ l.length * 2 ^ row.length
  | [], l => by simp
  | p :: row, l => by
    have h1 := foldR_len row (growR l p)
    have h2 := Nat.mul_le_mul_right (2 ^ row.length) (growR_len l p)
    simp only [List.foldl_cons, List.length_cons, Nat.pow_succ]
    rw [Nat.mul_comm (2 ^ row.length) 2, ← Nat.mul_assoc]
    omega
theorem rowsC_len (row : List (Int × Int)) (h : row.length ≤ 3) : (rowsC row).length ≤ 8 := by
  have h1 := foldR_len row [[]]
  have h2 : 2 ^ row.length ≤ 2 ^ 3 := Nat.pow_le_pow_right (by decide) h
  unfold rowsC
  simp only [List.length_cons, List.length_nil] at h1
  omega
end Rt
set_option maxHeartbeats 1000000
namespace Rt
open PySem
variable {W n : Nat} {s : Sto}
theorem take_get {a : Type} {l : List a} {k : Nat} {x : a} (h : l[k]? = some x) : l.take (k + 1) = l.take k ++ [x] := by
  rw [List.take_add_one, h]; rfl
theorem map_get {a : Type} {φ : a → D} {l : List a} {k : Nat} {d : D} (h : (l.map φ)[k]? = some d) : ∃ x, l[k]? = some x ∧ d = φ x := by
  rw [List.getElem?_map] at h
  cases z : l[k]? with
  | none => rw [z] at h; cases h
  | some x => rw [z] at h; cases h; exact ⟨x, rfl, rfl⟩
theorem growT_len (found : List (List (List Int))) (row : List (Int × Int)) (h : row.length ≤ 3) : (growT found row).length ≤ found.length * 8 := flat_len _ 8 (fun x => by simpa using rowsC_len row h) found
theorem foldT_len : ∀ (t : Tab) (l : List (List (List Int))), (∀ r ∈ t, r.length ≤ 3) → (t.foldl growT l).length ≤ l.length * 8 ^ t.length
  | [], l, _ => by simp
  | p :: t, l, h => by
    have h1 := foldT_len t (growT l p) (fun r hr => h r (by simp [hr]))
    have h2 := Nat.mul_le_mul_right (8 ^ t.length) (growT_len l p (h p (by simp)))
    simp only [List.foldl_cons, List.length_cons, Nat.pow_succ]
    rw [Nat.mul_comm (8 ^ t.length) 8, ← Nat.mul_assoc]
    omega
/-- a table's shape -/
structure Shp (t : Tab) : Prop where
  hi : t.length ≤ 3
  sq : ∀ row ∈ t, row.length = t.length
theorem TabOk.shp {t : Tab} (h : TabOk t) : Shp t := ⟨h.hi, h.sq⟩
theorem foldT_take (t : Tab) (k : Nat) (h : Shp t) : ((t.take k).foldl growT [[]]).length ≤ 512 := by
  have h1 := foldT_len (t.take k) [[]] (fun r hr => by rw [h.sq r (List.mem_of_mem_take hr)]; exact h.hi)
  have h2 : (t.take k).length ≤ 3 := by rw [List.length_take]; have := h.hi; omega
  have h3 : 8 ^ (t.take k).length ≤ 8 ^ 3 := Nat.pow_le_pow_right (by decide) h2
  simp only [List.length_cons, List.length_nil] at h1
  omega
theorem foldR_take (row : List (Int × Int)) (k : Nat) (h : row.length ≤ 3) : ((row.take k).foldl growR [[]]).length ≤ 8 := by
  have := rowsC_len (row.take k) (by rw [List.length_take]; omega)
  exact this
theorem ends_mem {p : Int × Int} {e : Int} : e ∈ endsP p ↔ e = p.1 ∨ e = p.2 := by
  unfold endsP
  split
  · next h => rw [h]; simp
  · simp
abbrev IsEnd (p : Int × Int) (z : Int) : Prop := z = p.1 ∨ z = p.2
theorem foldR_mem : ∀ (row : List (Int × Int)) (l : List (List Int)) (y : List Int), y ∈ row.foldl growR l ↔ ∃ x ∈ l, ∃ zs, y = x ++ zs ∧ All2 IsEnd row zs
  | [], l, y => by
    simp only [List.foldl_nil]
    constructor
    · intro h; exact ⟨y, h, [], by simp, .nil⟩
    · rintro ⟨x, hx, zs, rfl, h⟩
      cases h
      simpa using hx
  | p :: row, l, y => by
    rw [List.foldl_cons, foldR_mem row (growR l p) y]
    constructor
    · rintro ⟨x, hx, zs, rfl, h⟩
      unfold growR at hx
      simp only [List.mem_flatMap, List.mem_map] at hx
      obtain ⟨one, h1, e, he, rfl⟩ := hx
      exact ⟨one, h1, e :: zs, by simp, .cons (ends_mem.mp he) h⟩
    · rintro ⟨x, hx, zs, rfl, h⟩
      cases h with
      | cons q t =>
        refine ⟨x ++ [_], ?_, _, by simp; rfl, t⟩
        unfold growR
        simp only [List.mem_flatMap, List.mem_map]
        exact ⟨x, hx, _, ends_mem.mpr q, rfl⟩
theorem rowsC_mem {row : List (Int × Int)} {y : List Int} : y ∈ rowsC row ↔ All2 IsEnd row y := by
  unfold rowsC
  rw [foldR_mem]
  constructor
  · rintro ⟨x, hx, zs, rfl, h⟩
    simp at hx; subst hx; exact h
  · intro h; exact ⟨[], by simp, y, rfl, h⟩
theorem foldT_mem : ∀ (t : Tab) (l : List (List (List Int))) (y : List (List Int)), y ∈ t.foldl growT l ↔ ∃ x ∈ l, ∃ zs, y = x ++ zs ∧ All2 (All2 IsEnd) t zs
  | [], l, y => by
    simp only [List.foldl_nil]
    constructor
    · intro h; exact ⟨y, h, [], by simp, .nil⟩
    · rintro ⟨x, hx, zs, rfl, h⟩
      cases h
      simpa using hx
  | p :: row, l, y => by
    rw [List.foldl_cons, foldT_mem row (growT l p) y]
    constructor
    · rintro ⟨x, hx, zs, rfl, h⟩
      unfold growT at hx
      simp only [List.mem_flatMap, List.mem_map] at hx
      obtain ⟨one, h1, e, he, rfl⟩ := hx
      exact ⟨one, h1, e :: zs, by simp, .cons (rowsC_mem.mp he) h⟩
    · rintro ⟨x, hx, zs, rfl, h⟩
      cases h with
      | cons q t =>
        refine ⟨x ++ [_], ?_, _, by simp; rfl, t⟩
        unfold growT
        simp only [List.mem_flatMap, List.mem_map]
        exact ⟨x, hx, _, rowsC_mem.mpr q, rfl⟩
/-- the corners are the choices of ends -/
theorem corners_mem {t : Tab} {y : List (List Int)} : y ∈ cornersL t ↔ All2 (All2 IsEnd) t y := by
  unfold cornersL
  rw [foldT_mem]
  constructor
  · rintro ⟨x, hx, zs, rfl, h⟩
    simp at hx; subst hx; exact h
  · intro h; exact ⟨[], by simp, y, rfl, h⟩
end Rt
set_option maxHeartbeats 1000000
set_option maxHeartbeats 1000000
namespace Rt
open PySem
variable {W n : Nat} {s : Sto}
def pI1 (s0 : Sto) (pre : Env) (p : Int × Int) (so : List (List Int)) (k : Nat) (r : Env) (s : Sto) : Prop := ∃ x5, r = pre ++ [.val (.lst ((growR (so.take k) p).map vecD)), x5] ∧ s = s0
def pI2 (s0 : Sto) (row : List (Int × Int)) (k : Nat) (r : Env) (s : Sto) : Prop := ∃ x2 x3 x4 x5, r = [.val (rowD row), .val (.lst (((row.take k).foldl growR [[]]).map vecD)), x2, x3, x4, x5] ∧ s = s0
theorem run_rows_of (row : List (Int × Int)) (hr3 : row.length ≤ 3) : run Pd W (n + 1) 33 [rowD row] s = .ok (.lst ((rowsC row).map vecD)) s := by
  have key : Wp (run Pd W (n + 1) 33 [rowD row] s) (fun v s' => v = .lst ((rowsC row).map vecD) ∧ s' = s) := by
    rw [call_of (d := c_rows_of) rfl rfl]
    simp [c_rows_of]
    rw [show valK (rowD row) s = .ok (row.map pD) s from rfl]
    simp
    refine wp_for (pI2 s row) ⟨_, _, _, _, rfl, rfl⟩ (fun j d hd r s2 hI => ?_) (fun r s2 hI => ?_)
    · obtain ⟨x2, x3, x4, x5, rfl, rfl⟩ := hI
      obtain ⟨p, hp, rfl⟩ := map_get hd
      have hsl := foldR_take row j hr3
      generalize hso : (row.take j).foldl growR [[]] = so at hsl
      simp [roundK, pD]
      refine wp_for (pI1 s2 [.val (rowD row), .val (.lst (so.map vecD)), .val (.int p.1), .val (.int p.2)] p so) ⟨_, rfl, rfl⟩ (fun i d hd r s3 hI => ?_) (fun r s3 hI => ?_)
      · obtain ⟨x5, rfl, rfl⟩ := hI
        obtain ⟨one, hone, rfl⟩ := map_get hd
        have hgl : (growR (so.take i) p).length ≤ 16 := by
          have := growR_len (so.take i) p
          have h2 : (so.take i).length ≤ 8 := by rw [List.length_take]; omega
          omega
        have hol : one.length ≤ 100 := by
          have hm : one ∈ (row.take j).foldl growR [[]] := by rw [hso]; exact List.mem_of_getElem? hone
          obtain ⟨x, hx, zs, rfl, hz⟩ := (foldR_mem _ _ _).mp hm
          simp at hx
          subst hx
          have := hz.length
          rw [List.length_take] at this
          simp
          omega
        have fin : ∀ ends : List Int, ends = endsP p → ∀ y5, pI1 s3 [.val (rowD row), .val (.lst (so.map vecD)), .val (.int p.1), .val (.int p.2)] p so (i + 1)
           [.val (rowD row), .val (.lst (so.map vecD)), .val (.int p.1), .val (.int p.2), .val (.lst ((growR (so.take i) p).map vecD ++ ends.map fun e => vecD (one ++ [e]))), y5] s3 := by
          rintro ends rfl y5
          refine ⟨y5, ?_, rfl⟩
          simp [take_get hone, growR, vecD]
        by_cases hpe : p.1 = p.2
        · have e1 : endsP p = [p.1] := by unfold endsP; rw [if_pos hpe]
          have hb : (p.1 == p.2) = true := by simpa using hpe
          have hs1 : one.length + 1 ≤ 1000000 := by omega
          have hs2 : (growR (so.take i) p).length + 1 ≤ 1000000 := by omega
          simp only [roundK, bindT_name, List.append_assoc, List.cons_append, List.nil_append, List.set_cons_succ, List.set_cons_zero]
          simp [itemK, hb, vecD, bin_addT, bin_addL, hs1, hs2]
          simpa [vecD] using fin [p.1] e1.symm _
        · have e1 : endsP p = [p.1, p.2] := by unfold endsP; rw [if_neg hpe]
          have hb : (p.1 == p.2) = false := by simpa using hpe
          have hs1 : one.length + 1 ≤ 1000000 := by omega
          have hs2 : (growR (so.take i) p).length + 2 ≤ 1000000 := by omega
          simp only [roundK, bindT_name, List.append_assoc, List.cons_append, List.nil_append, List.set_cons_succ, List.set_cons_zero]
          simp [itemK, hb, vecD, bin_addT, bin_addL, hs1, hs2]
          simpa [vecD] using fin [p.1, p.2] e1.symm _
      · obtain ⟨x5, rfl, rfl⟩ := hI
        simp
        have e : (row.take (j + 1)).foldl growR [[]] = growR so p := by rw [take_get hp, List.foldl_append, hso]; rfl
        unfold pI2
        rw [e]
        exact ⟨_, _, _, _, rfl, rfl⟩
    · obtain ⟨x2, x3, x4, x5, rfl, rfl⟩ := hI
      simp [rowsC]
  obtain ⟨v, s', e, rfl, rfl⟩ := wp_iff.mp key
  exact e
def pI3 (s0 : Sto) (pre : Env) (found : List (List (List Int))) (row : List (Int × Int)) (k : Nat) (r : Env) (s : Sto) : Prop := ∃ x4 x5, r = pre ++ [.val (.lst ((growT (found.take k) row).map matD)), x4, x5] ∧ s = s0
def pI4 (s0 : Sto) (t : Tab) (k : Nat) (r : Env) (s : Sto) : Prop := ∃ x2 x3 x4 x5, r = [.val (tabD t), .val (.lst (((t.take k).foldl growT [[]]).map matD)), x2, x3, x4, x5] ∧ s = s0
theorem run_corners_of (t : Tab) (ht : Shp t) : run Pd W (n + 2) 34 [tabD t] s = .ok (.lst ((cornersL t).map matD)) s := by
  have key : Wp (run Pd W (n + 2) 34 [tabD t] s) (fun v s' => v = .lst ((cornersL t).map matD) ∧ s' = s) := by
    rw [call_of (d := c_corners_of) rfl rfl]
    simp [c_corners_of]
    rw [show valK (tabD t) s = .ok (t.map rowD) s from rfl]
    simp
    refine wp_for (pI4 s t) ⟨_, _, _, _, rfl, rfl⟩ (fun k d hd r s' hI => ?_) (fun r s' hI => ?_)
    · obtain ⟨x2, x3, x4, x5, rfl, rfl⟩ := hI
      obtain ⟨row, hrow, rfl⟩ := map_get hd
      have hrm : row ∈ t := List.mem_of_getElem? hrow
      have hr3 : row.length ≤ 3 := by rw [ht.sq row hrm]; exact ht.hi
      have hfl := foldT_take t k ht
      have hrl := rowsC_len row hr3
      generalize hfound : (t.take k).foldl growT [[]] = found at hfl
      simp [roundK]
      refine wp_for (pI3 s' [.val (tabD t), .val (.lst (found.map matD)), .val (rowD row)] found row) ⟨_, _, rfl, rfl⟩ (fun j d hd r s3 hI => ?_) (fun r s3 hI => ?_)
      · obtain ⟨x4, x5, rfl, rfl⟩ := hI
        obtain ⟨one, hone, rfl⟩ := map_get hd
        have hgl : (growT (found.take j) row).length ≤ 512 * 8 := by
          have := growT_len (found.take j) row hr3
          have h2 : (found.take j).length ≤ 512 := by rw [List.length_take]; omega
          omega
        have hol : one.length + 1 ≤ 1000000 := by
          have hm : one ∈ (t.take k).foldl growT [[]] := by rw [hfound]; exact List.mem_of_getElem? hone
          obtain ⟨x, hx, zs, rfl, hz⟩ := (foldT_mem _ _ _).mp hm
          simp at hx
          subst hx
          have := hz.length
          have := ht.hi
          rw [List.length_take] at *
          simp
          omega
        have hs1 : (rowsC row).length ≤ 1000000 := by omega
        have hs2 : (growT (found.take j) row).length + (rowsC row).length ≤ 1000000 := by omega
        have e1 := mapR_all (f := itemK (run Pd W (n + 1)) (.name 5) .none (.bin .add (.var 4) (.tup (.cons (.var 5) .nil))) [.val (tabD t), .val (.lst (found.map matD)), .val (rowD row), .val (.lst ((growT (found.take j) row).map matD)), .val (matD one), .no]) (φ := vecD) (fun r => matD (one ++ [r])) (s := s3) (l := rowsC row) fun p hp => by
          simp [itemK, matD, bin_addT, hol]
        simp [roundK, run_rows_of row hr3, e1, hs1, bin_addL, hs2]
        refine ⟨.val (matD one), x5, ?_, rfl⟩
        simp [take_get hone, growT]
      · obtain ⟨x4, x5, rfl, rfl⟩ := hI
        simp
        have e : (t.take (k + 1)).foldl growT [[]] = growT found row := by rw [take_get hrow, List.foldl_append, hfound]; rfl
        unfold pI4
        rw [e]
        exact ⟨_, _, _, _, rfl, rfl⟩
    · obtain ⟨x2, x3, x4, x5, rfl, rfl⟩ := hI
      simp [cornersL]
  obtain ⟨v, s', e, rfl, rfl⟩ := wp_iff.mp key
  exact e
end Rt
set_option maxHeartbeats 1000000
namespace Rt
open PySem
variable {W n : Nat} {s : Sto}
/-- rows as a tuple of tuples, or a list of lists -/
def mkD (b : Bool) (xs : List D) : D := if b then .tup xs else .lst xs
def gmD (b : Bool) (m : List (List Int)) : D := mkD b (m.map fun r => mkD b (r.map D.int))
theorem gm_tup (m : List (List Int)) : gmD true m = matD m := rfl
@[simp] theorem mk_val (b : Bool) (xs : List D) (s : Sto) : valK (mkD b xs) s = .ok xs s := by cases b <;> rfl
@[simp] theorem mk_enum (b : Bool) (xs : List D) (s : Sto) : enumK (mkD b xs) s = .ok (enumD 0 xs) s := by cases b <;> rfl
@[simp] theorem mk_len (b : Bool) (xs : List D) (s : Sto) : biD s .len [mkD b xs] = .ok (.int xs.length) s := by cases b <;> rfl
@[simp] theorem mk_sub (b : Bool) (xs : List D) (i : Int) (s : Sto) : subD s (mkD b xs) (.int i) = atD s xs i := by cases b <;> rfl
theorem enum_erase {a : Type} {f : D → Sto → Res (Option D)} {φ : a → D} (g : a → D) (j : Nat) : ∀ (xs : List a) (k : Nat), (∀ (i : Nat) x, x ∈ xs → f (.tup [.int i, φ x]) s = .ok (if i = j then none else some (g x)) s) → mapR f (enumD k (xs.map φ)) s = .ok ((if k ≤ j then xs.eraseIdx (j - k) else xs).map g) s
  | [], k, _ => by simp [enumD]
  | x :: xs, k, hf => by
    rw [List.map_cons, enumD, mapR_cns, hf k x (by simp), Res.bindN_ok, enum_erase g j xs (k + 1) (fun i y hy => hf i y (by simp [hy])), Res.bindN_ok]
    by_cases h : k = j
    · subst h
      have : ¬ k + 1 ≤ k := by omega
      simp [this]
    · by_cases h2 : k ≤ j
      · have h3 : k + 1 ≤ j := by omega
        have h4 : j - k = (j - (k + 1)) + 1 := by omega
        rw [if_neg h, if_pos h2, if_pos h3, h4]
        simp
      · have h3 : ¬ k + 1 ≤ j := by omega
        rw [if_neg h, if_neg h2, if_neg h3]
        simp
theorem run_minor (b : Bool) (m : List (List Int)) (i j : Nat) (h1 : m.length ≤ 1000) (h2 : ∀ r ∈ m, r.length ≤ 1000) : run Pd W (n + 1) 35 [gmD b m, .int i, .int j] s = .ok (gmD false ((m.eraseIdx i).map fun r => r.eraseIdx j)) s := by
  rw [call_of (d := c_minor) rfl rfl]
  have e0 := enum_erase (s := s) (f := itemK (run Pd W n) (.tup2 (.name 3) (.name 4)) (.some (.cmp .ne (.var 3) (.var 1))) (.comp (.tup2 (.name 5) (.name 6)) (.enum (.var 4)) (.some (.cmp .ne (.var 5) (.var 2))) (.var 6) [5, 6]) [.val (gmD b m), .val (.int i), .val (.int j), .no, .no, .no, .no]) (φ := fun r : List Int => mkD b (r.map D.int)) (fun r => .lst ((r.eraseIdx j).map D.int)) i m 0 (fun k r hr => by
    have e1 := enum_erase (s := s) (f := itemK (run Pd W n) (.tup2 (.name 5) (.name 6)) (.some (.cmp .ne (.var 5) (.var 2))) (.var 6) [.val (gmD b m), .val (.int i), .val (.int j), .val (.int k), .val (mkD b (r.map D.int)), .no, .no]) (φ := D.int) D.int j r 0 (fun k' x _ => by
      by_cases h : k' = j
      · subst h; simp [itemK]
      · have : ((k' : Int) == (j : Int)) = false := by
          have : (k' : Int) ≠ (j : Int) := by omega
          simpa using this
        simp [itemK, this, h])
    have hs : (r.eraseIdx j).length ≤ 1000000 := by
      have := List.length_eraseIdx_le r j
      have := h2 r hr
      omega
    by_cases h : k = i
    · subst h; simp [itemK]
    · have : ((k : Int) == (i : Int)) = false := by
        have : (k : Int) ≠ (i : Int) := by omega
        simpa using this
      simp at e1
      simp [itemK, this, h, e1, hs])
  have hs : (m.eraseIdx i).length ≤ 1000000 := by
    have := List.length_eraseIdx_le m i
    omega
  simp [gmD] at e0
  simp [c_minor, gmD, e0, hs]
  simp [mkD, Function.comp]
def detM : List (List Int) → Int
  | [] => 1
  | [[a]] => a
  | [[a, b], [c, d]] => a * d - b * c
  | [[a, b, c], [d, e, f], [g, h, i]] => a * (e * i - f * h) - b * (d * i - f * g) + c * (d * h - e * g)
  | _ => 0
/-- entries that may be multiplied -/
def Ent64 (m : List (List Int)) : Prop := ∀ r ∈ m, ∀ x ∈ r, x.natAbs < 2 ^ 63
theorem run_det1 (b : Bool) (a : Int) : run Pd W (n + 1) 36 [gmD b [[a]]] s = .ok (.int a) s := by
  rw [call_of (d := c_determinant_of) rfl rfl]
  simp [c_determinant_of, gmD]
theorem mul1 (s : Sto) (x : Int) : binD s .mul (.int 1) (.int x) = .ok (.int x) s := by
  rw [mul_ok s (Or.inl (by decide)), Int.one_mul]
theorem muln1 (s : Sto) (x : Int) : binD s .mul (.int (-1)) (.int x) = .ok (.int (-x)) s := by
  rw [mul_ok s (Or.inl (by decide)), Int.neg_one_mul]
theorem run_det2 (t : Bool) (a b c d : Int) (ha : a.natAbs < 2 ^ 63) (hb : b.natAbs < 2 ^ 63) : run Pd W (n + 2) 36 [gmD t [[a, b], [c, d]]] s = .ok (.int (a * d - b * c)) s := by
  rw [call_of (d := c_determinant_of) rfl rfl]
  have m0 := run_minor (W := W) (n := n) (s := s) t [[a, b], [c, d]] 0 0 (by simp) (by simp)
  have m1 := run_minor (W := W) (n := n) (s := s) t [[a, b], [c, d]] 0 1 (by simp) (by simp)
  have d0 := run_det1 (W := W) (n := n) (s := s) false d
  have d1 := run_det1 (W := W) (n := n) (s := s) false c
  have hb' : (-b).natAbs < 2 ^ 64 := by omega
  simp [gmD] at m0 m1 d0 d1
  simp [c_determinant_of, gmD, enumD, forR, roundK, mul1, muln1, m0, m1, d0, d1, mul_ok s (Or.inl (show a.natAbs < 2 ^ 64 by omega)), mul_ok s (Or.inl hb')]
  rw [Int.neg_mul]; omega
theorem run_det3 (t : Bool) (a b c d e f g h i : Int) (H : Ent64 [[a, b, c], [d, e, f], [g, h, i]]) : run Pd W (n + 3) 36 [gmD t [[a, b, c], [d, e, f], [g, h, i]]] s = .ok (.int (a * (e * i - f * h) - b * (d * i - f * g) + c * (d * h - e * g))) s := by
  have H1 := H [a, b, c] (by simp)
  have H2 := H [d, e, f] (by simp)
  have ha := H1 a (by simp)
  have hb := H1 b (by simp)
  have hc := H1 c (by simp)
  have hd := H2 d (by simp)
  have he := H2 e (by simp)
  have hf := H2 f (by simp)
  rw [call_of (d := c_determinant_of) rfl rfl]
  have m0 := run_minor (W := W) (n := n + 1) (s := s) t [[a, b, c], [d, e, f], [g, h, i]] 0 0 (by simp) (by simp)
  have m1 := run_minor (W := W) (n := n + 1) (s := s) t [[a, b, c], [d, e, f], [g, h, i]] 0 1 (by simp) (by simp)
  have m2 := run_minor (W := W) (n := n + 1) (s := s) t [[a, b, c], [d, e, f], [g, h, i]] 0 2 (by simp) (by simp)
  have d0 := run_det2 (W := W) (n := n) (s := s) false e f h i he hf
  have d1 := run_det2 (W := W) (n := n) (s := s) false d f g i hd hf
  have d2 := run_det2 (W := W) (n := n) (s := s) false d e g h hd he
  have hb' : (-b).natAbs < 2 ^ 64 := by omega
  simp [gmD] at m0 m1 m2 d0 d1 d2
  simp [c_determinant_of, gmD, enumD, forR, roundK, mul1, muln1, m0, m1, m2, d0, d1, d2, mul_ok s (Or.inl (show a.natAbs < 2 ^ 64 by omega)), mul_ok s (Or.inl hb'), mul_ok s (Or.inl (show c.natAbs < 2 ^ 64 by omega))]
  rw [Int.neg_mul]; omega
/-- a square of at most three rows -/
structure SqM (m : List (List Int)) : Prop where
  hi : m.length ≤ 3
  sq : ∀ r ∈ m, r.length = m.length
theorem sq_cases {m : List (List Int)} (h : SqM m) : m = [] ∨ (∃ a, m = [[a]]) ∨ (∃ a b c d, m = [[a, b], [c, d]]) ∨ ∃ a b c d e f g h i, m = [[a, b, c], [d, e, f], [g, h, i]] := by
  have hi := h.hi
  have sq := h.sq
  match m, hi, sq with
  | [], _, _ => exact .inl rfl
  | [r], _, sq =>
    have := sq r (by simp)
    match r, this with
    | [a], _ => exact .inr (.inl ⟨a, rfl⟩)
  | [r, q], _, sq =>
    have h1 := sq r (by simp)
    have h2 := sq q (by simp)
    match r, h1, q, h2 with
    | [a, b], _, [c, d], _ => exact .inr (.inr (.inl ⟨a, b, c, d, rfl⟩))
  | [r, q, z], _, sq =>
    have h1 := sq r (by simp)
    have h2 := sq q (by simp)
    have h3 := sq z (by simp)
    match r, h1, q, h2, z, h3 with
    | [a, b, c], _, [d, e, f], _, [g, h, i], _ => exact .inr (.inr (.inr ⟨a, b, c, d, e, f, g, h, i, rfl⟩))
  | _ :: _ :: _ :: _ :: _, h, _ => simp at h
theorem run_det (b : Bool) (m : List (List Int)) (h : SqM m) (H : Ent64 m) : run Pd W (n + 3) 36 [gmD b m] s = .ok (.int (detM m)) s := by
  rcases sq_cases h with rfl | ⟨a, rfl⟩ | ⟨a, b, c, d, rfl⟩ | ⟨a, b, c, d, e, f, g, h', i, rfl⟩
  · rw [call_of (d := c_determinant_of) rfl rfl]
    simp [c_determinant_of, gmD, detM]
  · exact run_det1 b a
  · exact run_det2 _ a b c d (H [a, b] (by simp) a (by simp)) (H [a, b] (by simp) b (by simp))
  · exact run_det3 _ a b c d e f g h' i H
end Rt
set_option maxHeartbeats 1000000
namespace Rt
open PySem
variable {W n : Nat} {s : Sto}
def BdT (t : Tab) : Prop := ∀ row ∈ t, ∀ p ∈ row, Bd p
theorem TabOk.bdT {t : Tab} (h : TabOk t) : BdT t := fun _ hr _ hp => h.bd hr hp
theorem corner_sq {t : Tab} (ht : Shp t) {c : List (List Int)} (h : c ∈ cornersL t) : SqM c := by
  have h1 := corners_mem.mp h
  have hl := h1.length
  have h2 := All2.mem_left (S := fun bs r => r.length = t.length) h1 fun bs hb r hr => by rw [hr.length]; exact ht.sq bs hb
  exact ⟨by rw [hl]; exact ht.hi, fun r hr => by rw [hl]; exact All2.right (fun y => y.length = t.length) (fun x y r => r) h2 r hr⟩
theorem corner_64 {t : Tab} (hb : BdT t) {c : List (List Int)} (h : c ∈ cornersL t) : Ent64 c := by
  have h1 := corners_mem.mp h
  have h2 := All2.mem_left (S := fun bs r => ∀ x ∈ r, x.natAbs < 2 ^ 63) h1 fun bs hbs r hr => by
    have h3 := All2.mem_left (S := fun b x => x.natAbs < 2 ^ 63) hr fun b hbb x hx => by
      have := hb bs hbs b hbb
      have h4 := this.a1; have h5 := this.a2; have h6 := this.b1; have h7 := this.b2
      rcases hx with rfl | rfl <;> omega
    exact All2.right (fun y : Int => y.natAbs < 2 ^ 63) (fun x y r => r) h3
  exact All2.right (fun y : List Int => ∀ x ∈ y, x.natAbs < 2 ^ 63) (fun x y r => r) h2
theorem ends_row : ∀ r : List (Int × Int), All2 IsEnd r (r.map fun p => p.1)
  | [] => .nil
  | p :: r => .cons (.inl rfl) (ends_row r)
theorem ends_tab : ∀ t : Tab, All2 (All2 IsEnd) t (t.map fun r => r.map fun p => p.1)
  | [] => .nil
  | r :: t => .cons (ends_row r) (ends_tab t)
theorem corners_ne (t : Tab) : cornersL t ≠ [] := by
  intro h
  have := corners_mem.mpr (ends_tab t)
  rw [h] at this
  cases this
theorem corners_small {t : Tab} (ht : Shp t) : (cornersL t).length ≤ 512 := by
  have := foldT_take t t.length ht
  rw [List.take_length] at this
  exact this
def valD (c : List (List Int)) : D := .tup [.int (detM c), matD c]
theorem run_with_values (t : Tab) (ht : Shp t) (hb : BdT t) : run Pd W (n + 4) 37 [tabD t] s = .ok (.lst ((cornersL t).map valD)) s := by
  rw [call_of (d := c_with_values) rfl rfl]
  have hsz : (cornersL t).length ≤ 1000000 := by have := corners_small ht; omega
  have e1 := mapR_all (f := itemK (run Pd W (n + 3)) (.name 1) .none (.tup (.cons (.call 36 (.cons (.var 1) .nil)) (.cons (.var 1) .nil))) [.val (tabD t), .no]) (φ := matD) valD (s := s) (l := cornersL t) fun c hc => by
    have := run_det (W := W) (n := n) (s := s) true c (corner_sq ht hc) (corner_64 hb hc)
    rw [gm_tup] at this
    simp [itemK, this, valD]
  simp [c_with_values, run_corners_of t ht, e1, hsz]
def minV : List Int → Int
  | [] => 0
  | x :: r => minL x r
def maxV : List Int → Int
  | [] => 0
  | x :: r => maxL x r
def vals (t : Tab) : List Int := (cornersL t).map detM
/-- least and greatest of ints, as data -/
theorem bi_minV (s : Sto) {a : Type} (f : a → Int) {l : List a} (h : l ≠ []) : biD s .min1 [.lst (l.map fun x => .int (f x))] = .ok (.int (minV (l.map f))) s := by
  rw [bi_min1, intsD_map, ofI_some]
  cases l with
  | nil => exact absurd rfl h
  | cons x r => rfl
theorem bi_maxV (s : Sto) {a : Type} (f : a → Int) {l : List a} (h : l ≠ []) : biD s .max1 [.lst (l.map fun x => .int (f x))] = .ok (.int (maxV (l.map f))) s := by
  rw [bi_max1, intsD_map, ofI_some]
  cases l with
  | nil => exact absurd rfl h
  | cons x r => rfl
theorem run_ends_of (t : Tab) (ht : Shp t) (hb : BdT t) : run Pd W (n + 5) 38 [tabD t] s = .ok (.tup [.int (minV (vals t)), .int (maxV (vals t))]) s := by
  rw [call_of (d := c_ends_of) rfl rfl]
  have hsz : (cornersL t).length ≤ 1000000 := by have := corners_small ht; omega
  have e1 := mapR_all (f := itemK (run Pd W (n + 4)) (.tup2 (.name 2) (.name 3)) .none (.var 2) [.val (tabD t), .no, .no, .no]) (φ := valD) (fun c => .int (detM c)) (s := s) (l := cornersL t) fun c hc => by
    simp [itemK, valD]
  have b1 := bi_minV s detM (corners_ne t)
  have b2 := bi_maxV s detM (corners_ne t)
  simp only [bi_min1] at b1
  simp only [bi_max1] at b2
  simp [c_ends_of, run_with_values t ht hb, e1, hsz, b1, b2, vals]
theorem run_are_invertible (t : Tab) (ht : Shp t) (hb : BdT t) : run Pd W (n + 6) 56 [tabD t] s = .ok (.bl (decide (0 < minV (vals t)) || decide (maxV (vals t) < 0))) s := by
  rw [call_of (d := c_are_invertible) rfl rfl]
  by_cases z : 0 < minV (vals t) <;> simp [c_are_invertible, run_ends_of t ht hb, z]
end Rt
set_option maxHeartbeats 2000000
namespace Rt
open PySem
def d3 (a b c d e f g h i : Int) : Int := a * (e * i - f * h) - b * (d * i - f * g) + c * (d * h - e * g)
end Rt
set_option maxHeartbeats 2000000
set_option maxHeartbeats 2000000
set_option maxHeartbeats 2000000
set_option maxHeartbeats 2000000
set_option maxHeartbeats 2000000
namespace Rt
open PySem
variable {W n : Nat} {s : Sto}
def invB (t : Tab) : Bool := decide (0 < minV (vals t)) || decide (maxV (vals t) < 0)
theorem run_inv (t : Tab) (ht : Shp t) (hb : BdT t) : run Pd W (n + 6) 56 [tabD t] s = .ok (.bl (invB t)) s := run_are_invertible t ht hb
end Rt
set_option maxHeartbeats 1000000
namespace Rt
open PySem
variable {W n : Nat} {s : Sto}
theorem cut_take (xs : List D) (j : Nat) : cutD xs none (some (j : Int)) = xs.take j := by
  unfold cutD partD
  have : ¬ (j : Int) < 0 := by omega
  simp only [if_neg this, List.drop_zero, Int.toNat_natCast, Nat.sub_zero]
  rw [List.take_eq_take_iff]
  omega
theorem cut_drop (xs : List D) (j : Nat) : cutD xs (some ((j : Int) + 1)) none = xs.drop (j + 1) := by
  unfold cutD partD
  have h1 : ¬ ((j : Int) + 1) < 0 := by omega
  have h2 : ((j : Int) + 1).toNat = j + 1 := by omega
  simp only [if_neg h1, h2]
  by_cases z : j + 1 ≤ xs.length
  · rw [Nat.min_eq_left z, List.take_of_length_le (by simp)]
  · rw [Nat.min_eq_right (by omega), List.drop_of_length_le (by omega), List.drop_of_length_le (by omega)]
    simp
theorem set_parts {a : Type} (l : List a) (j : Nat) (y : a) (h : j < l.length) : l.take j ++ (y :: l.drop (j + 1)) = l.set j y := by
  rw [List.set_eq_take_append_cons_drop, if_pos h]
theorem MemOk.set {t m : Tab} (h : MemOk t m) (i j : Nat) (p : Int × Int) (hp : Fr p) (row : List (Int × Int)) (hr : row ∈ m) : MemOk t (m.set i (row.set j p)) := by
  refine ⟨by rw [List.length_set]; exact h.len, fun r hr' => ?_, fun r hr' q hq => ?_⟩
  · rcases List.mem_or_eq_of_mem_set hr' with z | z
    · exact h.row r z
    · rw [z, List.length_set]; exact h.row row hr
  · rcases List.mem_or_eq_of_mem_set hr' with z | z
    · exact h.fr r z q hq
    · rw [z] at hq
      rcases List.mem_or_eq_of_mem_set hq with y | y
      · exact h.fr row hr q y
      · rw [y]; exact hp
theorem at_tab (s : Sto) {t : Tab} {k : Nat} {row : List (Int × Int)} (h : t[k]? = some row) : subD s (tabD t) (.int k) = .ok (rowD row) s := by
  unfold tabD
  rw [sub_tup]
  exact at_nat s (by rw [List.getElem?_map, h]; rfl)
theorem put3 (s : Sto) (xs : List D) (b : Nat) (y : D) (hb : b < xs.length) (h : xs.length ≤ 1000) : binD s .add (.tup (cutD xs none (some (b : Int)))) (.tup [y]) = .ok (.tup (xs.take b ++ [y])) s ∧
    binD s .add (.tup (xs.take b ++ [y])) (.tup (cutD xs (some ((b : Int) + 1)) none)) = .ok (.tup (xs.set b y)) s := by
  constructor
  · rw [bin_addT, cut_take, if_pos]
    simp; omega
  · rw [bin_addT, cut_drop, if_pos, List.append_assoc, List.singleton_append, set_parts _ _ _ hb]
    simp; omega
end Rt
set_option maxHeartbeats 1000000
namespace Rt
open PySem
section
variable {F : Nat → List D → Sto → Res D} {W : Nat} {r : Env} {s : Sto}
/-- what is done behind a statement -/
def seqE (F : Nat → List D → Sto → Res D) (W : Nat) (b : Ss) (Q : Flow → Sto → Prop) (fl : Flow) (s : Sto) : Prop := match fl with
  | .next r => Wp (execs F W b r s) Q
  | .ret d => Q (.ret d) s
@[simp] theorem seqE_next (b : Ss) (Q : Flow → Sto → Prop) : seqE F W b Q (.next r) s = Wp (execs F W b r s) Q := rfl
@[simp] theorem seqE_ret (b : Ss) (Q : Flow → Sto → Prop) (d : D) : seqE F W b Q (.ret d) s = Q (.ret d) s := rfl
@[simp ↓] theorem wp_execs_cons (a : S) (b : Ss) (Q : Flow → Sto → Prop) : Wp (execs F W (.cons a b) r s) Q = Wp (exec F W a r s) (seqE F W b Q) := by
  rw [execs_cons, wp_seq]
  congr 1
@[simp ↓] theorem wp_outE (x : Res Flow) (Q : D → Sto → Prop) : Wp (outK x) Q = Wp x (outP Q) := wp_out x Q
def roundP (F : Nat → List D → Sto → Res D) (W : Nat) (b : Ss) (Q : Flow → Sto → Prop) (s : Sto) (o : Option Env) : Prop := match o with
  | some r => Wp (execs F W b r s) Q
  | none => False
@[simp] theorem roundP_some (b : Ss) (Q : Flow → Sto → Prop) : roundP F W b Q s (some r) = Wp (execs F W b r s) Q := rfl
@[simp ↓] theorem wp_roundK (tg : Tg) (b : Ss) (d : D) (Q : Flow → Sto → Prop) : Wp (roundK F W tg b d r s) Q = roundP F W b Q s (bindT tg d r) := by
  unfold roundK roundP
  cases bindT tg d r <;> rfl
/-- a test -/
def tstP (Q : Bool → Sto → Prop) (d : D) (s : Sto) : Prop := match d with
  | .bl b => Q b s
  | .int i => Q (i != 0) s
  | _ => False
@[simp] theorem tstP_bl (Q : Bool → Sto → Prop) (b : Bool) : tstP Q (.bl b) s = Q b s := rfl
@[simp] theorem tstP_int (Q : Bool → Sto → Prop) (b : Int) : tstP Q (.int b) s = Q (b != 0) s := rfl
theorem wp_tst (x : Res D) (Q : Bool → Sto → Prop) : Wp (tst x) Q = Wp x (tstP Q) := by
  cases x with
  | ok d s => cases d <;> rfl
  | exc c s => rfl
  | bad => rfl
def ifE (F : Nat → List D → Sto → Res D) (W : Nat) (a b : Ss) (r : Env) (Q : Flow → Sto → Prop) (k : Bool) (s : Sto) : Prop := if k then Wp (execs F W a r s) Q else Wp (execs F W b r s) Q
@[simp] theorem ifE_true (a b : Ss) (Q : Flow → Sto → Prop) : ifE F W a b r Q true s = Wp (execs F W a r s) Q := rfl
@[simp] theorem ifE_false (a b : Ss) (Q : Flow → Sto → Prop) : ifE F W a b r Q false s = Wp (execs F W b r s) Q := rfl
@[simp ↓] theorem wp_ifs (c : E) (a b : Ss) (Q : Flow → Sto → Prop) : Wp (exec F W (.ifs c a b) r s) Q = Wp (ev F c r s) (tstP (ifE F W a b r Q)) := by
  rw [exec_ifs, wp_bind, wp_tst]
  congr 1
  funext d s
  cases d <;> first | rfl | (simp only [tstP, ifE]; split <;> rfl)
def forE (F : Nat → List D → Sto → Res D) (W : Nat) (tg : Tg) (b : Ss) (r : Env) (Q : Flow → Sto → Prop) (ds : List D) (s : Sto) : Prop := Wp (forR (roundK F W tg b) ds r s) Q
@[simp ↓] theorem wp_fors (tg : Tg) (it : It) (b : Ss) (Q : Flow → Sto → Prop) : Wp (exec F W (.fors tg it b) r s) Q = Wp (evi F it r s) (forE F W tg b r Q) := by
  rw [exec_fors, wp_bind]
  rfl
/-- as for_of, over data that come of a list -/
theorem for_map {a : Type} {φ : a → D} {l : List a} {tg : Tg} {b : Ss} {Q : Flow → Sto → Prop} (I : Nat → Env → Sto → Prop) (h0 : I 0 r s)
    (st : ∀ k x, l[k]? = some x → ∀ r s, I k r s → Wp (roundK F W tg b (φ x) r s) (loopP (I (k + 1)) Q)) (fin : ∀ r s, I l.length r s → Q (.next r) s) : forE F W tg b r Q (l.map φ) s :=
  wp_for I h0 (fun k d hd r s hI => by obtain ⟨x, hx, rfl⟩ := map_get hd; exact st k x hx r s hI) (fun r s h => fin r s (by rw [List.length_map] at h; exact h))
@[simp] theorem forE_nil (tg : Tg) (b : Ss) (Q : Flow → Sto → Prop) : forE F W tg b r Q [] s = Q (.next r) s := rfl
/-- on, round by round -/
def forP (F : Nat → List D → Sto → Res D) (W : Nat) (tg : Tg) (b : Ss) (Q : Flow → Sto → Prop) (ds : List D) (fl : Flow) (s : Sto) : Prop := match fl with
  | .next r => forE F W tg b r Q ds s
  | .ret d => Q (.ret d) s
@[simp] theorem forP_next (tg : Tg) (b : Ss) (Q : Flow → Sto → Prop) (ds : List D) : forP F W tg b Q ds (.next r) s = forE F W tg b r Q ds s := rfl
@[simp] theorem forP_ret (tg : Tg) (b : Ss) (Q : Flow → Sto → Prop) (ds : List D) (d : D) : forP F W tg b Q ds (.ret d) s = Q (.ret d) s := rfl
@[simp] theorem wp_bad {a : Type} (Q : a → Sto → Prop) : Wp (.bad : Res a) Q = False := rfl
@[simp] theorem wp_exc {a : Type} (c : Nat) (Q : a → Sto → Prop) : Wp (.exc c s : Res a) Q = False := rfl
@[simp] theorem wp_itep {a : Type} (p : Prop) [Decidable p] (x y : Res a) (Q : a → Sto → Prop) : Wp (if p then x else y) Q = if p then Wp x Q else Wp y Q := by split <;> rfl
def negK (x : D) (s : Sto) : Res D := match x with | .int i => .ok (.int (-i)) s | _ => .bad
@[simp] theorem negK_int (i : Int) : negK (.int i) s = .ok (.int (-i)) s := rfl
@[simp high] theorem ev_negK (a : E) : ev F (.neg a) r s = (ev F a r s).bind negK := ev_neg F r s a
def notK (x : D) (s : Sto) : Res D := match x with | .bl b => .ok (.bl (!b)) s | _ => .bad
@[simp] theorem notK_bl (b : Bool) : notK (.bl b) s = .ok (.bl (!b)) s := rfl
@[simp high] theorem ev_notK (a : E) : ev F (.not a) r s = (ev F a r s).bind notK := ev_not F r s a
@[simp] theorem cmp_isn (x : D) : cmpD s .isn x .non = .ok (.bl (isNon x)) s := rfl
@[simp] theorem cmp_notn (x : D) : cmpD s .notn x .non = .ok (.bl (!isNon x)) s := rfl
@[simp] theorem isNon_non : isNon .non = true := rfl
@[simp] theorem isNon_int (i : Int) : isNon (.int i) = false := rfl
@[simp] theorem isNon_tup (i : List D) : isNon (.tup i) = false := rfl
end
@[simp] theorem eqv_bl (a b : Bool) : eqv (.bl a) (.bl b) = (a == b) := by rw [eqv]
@[simp] theorem eqv_non : eqv .non .non = true := by rw [eqv]
@[simp] theorem eqv_str (a b : Str) : eqv (.str a) (.str b) = (a == b) := by rw [eqv]
@[simp] theorem eqv_tup (a b : List D) : eqv (.tup a) (.tup b) = eqvAll a b := by rw [eqv]
@[simp] theorem eqv_lst (a b : List D) : eqv (.lst a) (.lst b) = eqvAll a b := by rw [eqv]
@[simp] theorem eqvAll_nil : eqvAll [] [] = true := by rw [eqvAll]
@[simp] theorem eqvAll_cons (x y : D) (a b : List D) : eqvAll (x :: a) (y :: b) = (eqv x y && eqvAll a b) := by rw [eqvAll]
@[simp] theorem eqvAll_nc (y : D) (b : List D) : eqvAll [] (y :: b) = false := by rw [eqvAll] <;> simp
@[simp] theorem eqvAll_cn (y : D) (b : List D) : eqvAll (y :: b) [] = false := by rw [eqvAll] <;> simp
@[simp] theorem eqv_non_tup (a : List D) : eqv .non (.tup a) = false := by rw [eqv] <;> simp
@[simp] theorem eqv_tup_non (a : List D) : eqv (.tup a) .non = false := by rw [eqv] <;> simp
@[simp] theorem eqv_int_tup (i : Int) (a : List D) : eqv (.int i) (.tup a) = false := by rw [eqv] <;> simp
@[simp] theorem eqv_tup_int (i : Int) (a : List D) : eqv (.tup a) (.int i) = false := by rw [eqv] <;> simp
@[simp] theorem eqv_str_tup (i : Str) (a : List D) : eqv (.str i) (.tup a) = false := by rw [eqv] <;> simp
@[simp] theorem eqv_tup_str (i : Str) (a : List D) : eqv (.tup a) (.str i) = false := by rw [eqv] <;> simp
@[simp] theorem eqv_str_int (i : Str) (a : Int) : eqv (.str i) (.int a) = false := by rw [eqv] <;> simp
@[simp] theorem eqv_int_str (i : Str) (a : Int) : eqv (.int a) (.str i) = false := by rw [eqv] <;> simp
@[simp] theorem eqv_non_int (a : Int) : eqv .non (.int a) = false := by rw [eqv] <;> simp
@[simp] theorem eqv_int_non (a : Int) : eqv (.int a) .non = false := by rw [eqv] <;> simp
@[simp] theorem eqv_lst_tup (i a : List D) : eqv (.lst i) (.tup a) = false := by rw [eqv] <;> simp
@[simp] theorem eqv_tup_lst (i a : List D) : eqv (.tup a) (.lst i) = false := by rw [eqv] <;> simp
@[simp] theorem shp_tup (k : Nat) (xs : List D) : shp (k + 1) (.tup xs) = xs.all (shp k) := rfl
@[simp] theorem shp_lst (k : Nat) (xs : List D) : shp (k + 1) (.lst xs) = xs.all (shp k) := rfl
/-- parts of a body -/
def dropS : Nat → Ss → Ss
  | 0, b => b
  | n + 1, .cons _ b => dropS n b
  | _ + 1, .nil => .nil
def takeS : Nat → Ss → Ss
  | 0, _ => .nil
  | n + 1, .cons a b => .cons a (takeS n b)
  | _ + 1, .nil => .nil
theorem len_tab (s : Sto) (t : Tab) : biD s .len [tabD t] = .ok (.int t.length) s := by simp [tabD]
theorem small_nat {k : Nat} (h : k ≤ 1000) : small (k : Int) = true := by unfold small; simp; omega
end Rt
set_option maxHeartbeats 1000000
namespace Rt
open PySem
variable {W n : Nat} {s : Sto}
/-- lowest terms, the divisor above 0 -/
structure Lt (p : Int × Int) : Prop where
  pos : 0 < p.2
  co : Nat.gcd p.2.natAbs p.1.natAbs = 1
theorem Fr.lt {p : Int × Int} (h : Fr p) : Lt p := ⟨h.pos, h.co⟩
theorem Lt.uniq {p q : Int × Int} (hp : Lt p) (hq : Lt q) (e : p.1 * q.2 = q.1 * p.2) : p = q := by
  have h1 := hp.pos; have h2 := hq.pos
  have e' : p.1.natAbs * q.2.natAbs = q.1.natAbs * p.2.natAbs := by rw [← Int.natAbs_mul, ← Int.natAbs_mul, e]
  have d1 : p.2.natAbs ∣ q.2.natAbs := by
    have : p.2.natAbs ∣ p.1.natAbs * q.2.natAbs := by rw [e']; exact Nat.dvd_mul_left _ _
    exact Nat.Coprime.dvd_of_dvd_mul_left hp.co this
  have d2 : q.2.natAbs ∣ p.2.natAbs := by
    have : q.2.natAbs ∣ q.1.natAbs * p.2.natAbs := by rw [← e']; exact Nat.dvd_mul_left _ _
    exact Nat.Coprime.dvd_of_dvd_mul_left hq.co this
  have e2 : p.2.natAbs = q.2.natAbs := Nat.dvd_antisymm d1 d2
  have e3 : p.2 = q.2 := by omega
  rw [e3] at e
  have e4 : p.1 = q.1 := Int.eq_of_mul_eq_mul_right (by omega) e
  exact Prod.ext e4 e3
def gcdN (t u : Int) : Int := if 0 < u then (Nat.gcd u.natAbs t.natAbs : Int) else -(Nat.gcd u.natAbs t.natAbs : Int)
def lowN (t u : Int) : Int × Int := (t / gcdN t u, u / gcdN t u)
end Rt
set_option maxHeartbeats 2000000
namespace Rt
open PySem
def Aff (f : List Int → Int) : Prop := ∀ (l : List Int) (k : Nat), ∃ a b, ∀ x, f (l.set k x) = a * x + b
theorem Aff.neg {f : List Int → Int} (h : Aff f) : Aff fun l => - f l := fun l k => by
  obtain ⟨a, b, e⟩ := h l k
  exact ⟨-a, -b, fun x => by show - f (l.set k x) = _; rw [e x]; grind⟩
theorem All2.get {a b : Type} {R : a → b → Prop} : ∀ {l : List a} {m : List b}, All2 R l m → ∀ {k : Nat} {x : a} {y : b}, l[k]? = some x → m[k]? = some y → R x y
  | _, _, .nil, k, x, y, h, _ => by simp at h
  | _, _, .cons r t, 0, x, y, h1, h2 => by simp at h1 h2; subst h1 h2; exact r
  | _, _, .cons r t, k + 1, x, y, h1, h2 => All2.get t (by simpa using h1) (by simpa using h2)
theorem All2.set {a b : Type} {R : a → b → Prop} : ∀ {l : List a} {m : List b}, All2 R l m → ∀ {k : Nat} {x : a} {y : b}, l[k]? = some x → R x y → All2 R l (m.set k y)
  | _, _, .nil, k, x, y, h, _ => by simp at h
  | _, _, .cons r t, 0, x, y, h1, h2 => by simp at h1; subst h1; exact .cons h2 t
  | _, _, .cons r t, k + 1, x, y, h1, h2 => .cons r (All2.set t (by simpa using h1) h2)
theorem All2.app {a b : Type} {R : a → b → Prop} : ∀ {l l' : List a} {m m' : List b}, All2 R l m → All2 R l' m' → All2 R (l ++ l') (m ++ m')
  | _, _, _, _, .nil, h => h
  | _, _, _, _, .cons r t, h => .cons r (All2.app t h)
/-- a column replaced by a side -/
def repl (c : List (List Int)) (i : Nat) (sd : List Int) : List (List Int) := (c.zip sd).map fun z => z.1.set i z.2
def rpd (c : List (List Int)) (i : Nat) (sd : List Int) : Int := detM (repl c i sd)
end Rt
set_option maxHeartbeats 4000000
set_option maxHeartbeats 1000000
namespace Rt
open PySem
variable {W n : Nat} {s : Sto}
/-- short shares -/
structure Ve (p : Int × Int) : Prop where
  pos : 0 < p.2
  sm : p.2 ≤ 5
  t1 : -6 ≤ p.1
  t2 : p.1 ≤ 6
  co : Nat.gcd p.2.natAbs p.1.natAbs = 1
theorem Ve.fr {p : Int × Int} (h : Ve p) : Fr p := ⟨h.pos, by have := h.sm; omega, by have := h.t1; omega, by have := h.t2; omega, h.co⟩
end Rt
set_option maxHeartbeats 1000000
namespace Rt
open PySem
variable {W n : Nat} {s : Sto}
theorem mapR_enumZ {a b : Type} {f : D → Sto → Res (Option D)} {φ : a → D} (g : a → b → D) (full : List b) : ∀ (l : List a) (rs : List b) (k : Nat), full.drop k = rs → l.length = rs.length → (∀ (j : Nat) x y, x ∈ l → full[j]? = some y → f (.tup [.int j, φ x]) s = .ok (some (g x y)) s) →
    mapR f (enumD k (l.map φ)) s = .ok ((l.zip rs).map fun z => g z.1 z.2) s
  | [], rs, k, _, _, _ => rfl
  | x :: l, [], k, _, h, _ => by simp at h
  | x :: l, y :: rs, k, e, h, hf => by
    have h0 : full[k]? = some y := by
      have := congrArg (fun l => l[0]?) e
      simpa using this
    have h1 : full.drop (k + 1) = rs := by
      have := congrArg (fun l => l.drop 1) e
      simpa [Nat.add_comm] using this
    simp only [List.map_cons, enumD, mapR_cns, hf k x y (by simp) h0, Res.bindN_ok, mapR_enumZ g full l rs (k + 1) h1 (by simpa using h) (fun j x y hx => hf j x y (by simp [hx])), List.zip_cons_cons, Option.toList, List.cons_append, List.nil_append]
theorem zip_mapG {a b : Type} (φ : a → D) (ψ : b → D) : ∀ (m : List a) (t : List b), zipD (m.map φ) (t.map ψ) = (m.zip t).map fun q => .tup [φ q.1, ψ q.2]
  | [], _ => rfl
  | _ :: _, [] => rfl
  | x :: m, y :: t => by simp [zipD, zip_mapG φ ψ m t]
structure RowOk (k : Nat) (r : List (Int × Int)) : Prop where
  len : r.length = k
  rg : ∀ p ∈ r, -9 ≤ p.1 ∧ p.1 ≤ p.2 ∧ p.2 ≤ 9
theorem run_need_right (t : Tab) (h3 : t.length ≤ 3) (r : List (Int × Int)) (hr : RowOk t.length r) : run Pd W (n + 5) 84 [tabD t, rowD r] s = .ok .non s := by
  have h := run_is_row (W := W) (n := n) (s := s) r t.length (by rw [hr.len]) (by rw [hr.len]; omega) hr.rg
  rw [call_of (d := c_need_right) rfl rfl]
  simp [c_need_right, len_tab, h]
end Rt
set_option maxHeartbeats 2000000
namespace Rt
open PySem
variable {W n : Nat} {s : Sto}
def minorM (m : List (List Int)) (i j : Nat) : List (List Int) := (m.eraseIdx i).map fun r => r.eraseIdx j
def sgn (m : List (List Int)) (i j : Nat) : Int := if (i + j) % 2 = 0 then detM (minorM m i j) else - detM (minorM m i j)
end Rt
set_option maxHeartbeats 1000000
set_option maxHeartbeats 2000000
namespace Rt
open PySem
variable {W n : Nat} {s : Sto}
/-- all unknowns of corners with sides of ends -/
def unk (c : List (List Int)) (i : Nat) (d : List Int) : Int × Int := lowN (rpd c i d) (detM c)
theorem run_need_place (t : Tab) (i : Nat) (hi : i < t.length) : run Pd W (n + 3) 69 [tabD t, .int i] s = .ok .non s := by
  have h := run_is_whole (W := W) (n := n) (s := s) i 0 ((t.length : Int) - 1)
  have h1 : (0 : Int) ≤ (i : Int) := by omega
  have h2 : (i : Int) ≤ (t.length : Int) - 1 := by omega
  rw [call_of (d := c_need_place) rfl rfl]
  simp [c_need_place, len_tab, h, h1, h2]
def pick (x : Int) (p : Int × Int) : Int := if 0 < x then p.2 else p.1
def bestS (c : List (List Int)) (right : List (Int × Int)) (i : Nat) (sg : Int) : List Int := (right.zip (List.range right.length)).map fun z => pick (sgn c z.2 i * detM c * sg) z.1
def ext (c : List (List Int)) (right : List (Int × Int)) (i : Nat) (sg : Int) : Int × Int := unk c i (bestS c right i sg)
end Rt
set_option maxHeartbeats 2000000
namespace Rt
open PySem
variable {W n : Nat} {s : Sto}
theorem All2.comp {a b c : Type} {R : a → b → Prop} {S : a → c → Prop} {T : b → c → Prop} (h : ∀ x y z, R x y → S x z → T y z) : ∀ {l : List a} {m : List b} {k : List c}, All2 R l m → All2 S l k → All2 T m k
  | _, _, _, .nil, .nil => .nil
  | _, _, _, .cons r t, .cons r' t' => .cons (h _ _ _ r r') (All2.comp h t t')
theorem All2.mono {a b : Type} {R S : a → b → Prop} (h : ∀ x y, R x y → S x y) : ∀ {l : List a} {m : List b}, All2 R l m → All2 S l m
  | _, _, .nil => .nil
  | _, _, .cons r t => .cons (h _ _ r) (All2.mono h t)
end Rt
set_option maxHeartbeats 2000000
namespace Rt
open PySem
variable {W n : Nat} {s : Sto}
theorem run_need_alike (one other : Tab) (h : one.length = other.length) : run Pd W (n + 1) 7 [tabD one, tabD other] s = .ok .non s := by
  rw [call_of (d := c_need_alike) rfl rfl]
  have : (one.length : Int) = (other.length : Int) := by omega
  simp [c_need_alike, len_tab, this]
end Rt
set_option maxHeartbeats 1000000
set_option maxHeartbeats 2000000
namespace Rt
open PySem
variable {W n : Nat} {s : Sto}
def rowAt (m : Tab) (i : Nat) : List (Int × Int) := m.getD i []
def entAt (row : List (Int × Int)) (j : Nat) : Int × Int := row.getD j (0, 0)
def ent (m : Tab) (i j : Nat) : Int × Int := entAt (rowAt m i) j
def peq (p q : Int × Int) : Bool := p.1 == q.1 && p.2 == q.2
def mirB (n : Nat) (m : Tab) : Bool := (List.range n).all fun i => (List.range n).all fun j => peq (ent m i j) (ent m j i)
structure Sq (k : Nat) (m : Tab) : Prop where
  len : m.length = k
  row : ∀ r ∈ m, r.length = k
theorem getD_mem {a : Type} {l : List a} {i : Nat} {d : a} (h : i < l.length) : l.getD i d ∈ l := by
  rw [List.getD_eq_getElem?_getD, List.getElem?_eq_getElem h]
  exact List.getElem_mem h
theorem getD_some {a : Type} {l : List a} {i : Nat} {d : a} (h : i < l.length) : l[i]? = some (l.getD i d) := by
  rw [List.getD_eq_getElem?_getD, List.getElem?_eq_getElem h]; rfl
theorem sub_row' (s : Sto) {row : List (Int × Int)} {j : Nat} (h : j < row.length) : subD s (rowD row) (.int j) = .ok (pD (entAt row j)) s := by
  rw [rowD, sub_tup]
  exact at_nat s (by rw [List.getElem?_map, getD_some (d := (0, 0)) h]; rfl)
theorem sub_tab' (s : Sto) {m : Tab} {i : Nat} (h : i < m.length) : subD s (tabD m) (.int i) = .ok (rowD (rowAt m i)) s := at_tab s (getD_some h)
theorem Sq.rl {k : Nat} {m : Tab} (h : Sq k m) {i : Nat} (hi : i < k) : (rowAt m i).length = k := h.row _ (getD_mem (by rw [h.len]; exact hi))
theorem run_is_mirrored {k : Nat} (m : Tab) (h : Sq k m) (hk : k ≤ 3) : run Pd W (n + 1) 112 [tabD m] s = .ok (.bl (mirB k m)) s := by
  have hl := h.len
  rw [call_of (d := c_is_mirrored) rfl rfl]
  have e := mapR_all (f := itemK (run Pd W n) (.name 2) .none (.bi .all (.cons (.comp (.name 3) (.rng1 (.var 1)) .none (.cmp .eq (.sub (.sub (.var 0) (.var 2)) (.var 3)) (.sub (.sub (.var 0) (.var 3)) (.var 2))) [3]) .nil)) [.val (tabD m), .val (.int k), .no, .no]) (φ := fun i : Nat => D.int i) (fun i => D.bl ((List.range k).all fun j => peq (ent m i j) (ent m j i))) (s := s) (l := List.range k) fun i hi => by
    have hi' := List.mem_range.mp hi
    have e1 := mapR_all (f := itemK (run Pd W n) (.name 3) .none (.cmp .eq (.sub (.sub (.var 0) (.var 2)) (.var 3)) (.sub (.sub (.var 0) (.var 3)) (.var 2))) [.val (tabD m), .val (.int k), .val (.int i), .no]) (φ := fun i : Nat => D.int i) (fun j => D.bl (peq (ent m i j) (ent m j i))) (s := s) (l := List.range k) fun j hj => by
      have hj' := List.mem_range.mp hj
      have r1 := h.rl hi'
      have r2 := h.rl hj'
      simp [itemK, sub_tab' s (show i < m.length by omega), sub_tab' s (show j < m.length by omega), sub_row' s (show j < (rowAt m i).length by omega), sub_row' s (show i < (rowAt m j).length by omega), peq, ent]
    have a := biD_all (fun j : Nat => peq (ent m i j) (ent m j i)) (List.range k) s
    have hz : k ≤ 1000000 := by omega
    simp only [bz_all] at a
    simp [itemK, small_nat (show k ≤ 1000 by omega), rngD_map, e1, hz, a]
  have a := biD_all (fun i : Nat => (List.range k).all fun j => peq (ent m i j) (ent m j i)) (List.range k) s
  have hz : k ≤ 1000000 := by omega
  simp only [bz_all] at a
  have hlt : biD s .len [tabD m] = .ok (.int k) s := by rw [len_tab, hl]
  simp [c_is_mirrored, hlt, small_nat (show k ≤ 1000 by omega), rngD_map, e, hz, a, mirB]
end Rt
set_option maxHeartbeats 2000000
namespace Rt
open PySem
variable {W n : Nat} {s : Sto}
theorem MemOk.sq {t m : Tab} (h : MemOk t m) : Sq t.length m := ⟨h.len, h.row⟩
end Rt
set_option maxHeartbeats 2000000
namespace Rt
open PySem
variable {W n : Nat} {s : Sto}
@[simp] theorem mapR2_nil (f : D → Sto → Res (List D)) (s : Sto) : mapR2 f [] s = .ok [] s := rfl
@[simp] theorem mapR2_cns (f : D → Sto → Res (List D)) (x : D) (xs : List D) (s : Sto) : mapR2 f (x :: xs) s = (f x s).bindN fun o s => (mapR2 f xs s).bindN fun ys s => .ok (o ++ ys) s := rfl
end Rt
set_option maxHeartbeats 2000000
namespace Rt
open PySem
variable {W n : Nat} {s : Sto}
/-- ints of moderate size -/
structure Jb (B k : Nat) (v : List Int) : Prop where
  len : v.length = k
  sm : ∀ x ∈ v, x.natAbs ≤ B
theorem Jb.mono {B B' k : Nat} {v : List Int} (h : Jb B k v) (hb : B ≤ B') : Jb B' k v := ⟨h.len, fun x hx => by have := h.sm x hx; omega⟩
end Rt
set_option maxHeartbeats 2000000
namespace Rt
open PySem
variable {W n : Nat} {s : Sto}
def rng3K (x y z : D) (s : Sto) : Res (List D) := match x, y, z with
    | .int i, .int j, .int (-1) => if small i && small j then .ok (rngD i (i - j).toNat (-1)) s else .bad
    | _, _, _ => .bad
@[simp] theorem rng3K_int (i j : Int) : rng3K (.int i) (.int j) (.int (-1)) s = if small i && small j then .ok (rngD i (i - j).toNat (-1)) s else .bad := rfl
@[simp] theorem evi_rng3 (F : Nat → List D → Sto → Res D) (r : Env) (a b c : E) : evi F (.rng3 a b c) r s = (ev F a r s).bind fun x s => (ev F b r s).bind fun y s => (ev F c r s).bind fun z s => rng3K x y z s := by rw [evi] <;> rfl
end Rt
set_option maxHeartbeats 2000000
namespace Rt
open PySem
variable {W n : Nat} {s : Sto}
theorem str_exc (k c : Nat) : shp k (.str (excName c)) = true := by
  have h : PyData.strOk (excName c) = true := by
    unfold excName
    split <;> decide +kernel
  cases k <;> exact h
@[simp] theorem str_err (k : Nat) : shp k (.str "error") = true := by
  have h : PyData.strOk ("error" : Str) = true := by decide +kernel
  cases k <;> exact h
@[simp] theorem exc_nm0 : excName 0 = "InvalidTable" := rfl
@[simp] theorem exc_sh0 (k : Nat) : shp k (.str "InvalidTable") = true := str_exc k 0
@[simp] theorem exc_nm1 : excName 1 = "InvalidRight" := rfl
@[simp] theorem exc_sh1 (k : Nat) : shp k (.str "InvalidRight") = true := str_exc k 1
@[simp] theorem exc_nm2 : excName 2 = "InvalidVector" := rfl
@[simp] theorem exc_sh2 (k : Nat) : shp k (.str "InvalidVector") = true := str_exc k 2
@[simp] theorem exc_nm3 : excName 3 = "InvalidPlace" := rfl
@[simp] theorem exc_sh3 (k : Nat) : shp k (.str "InvalidPlace") = true := str_exc k 3
@[simp] theorem exc_nm4 : excName 4 = "InvalidNumber" := rfl
@[simp] theorem exc_sh4 (k : Nat) : shp k (.str "InvalidNumber") = true := str_exc k 4
@[simp] theorem exc_nm5 : excName 5 = "InvalidRange" := rfl
@[simp] theorem exc_sh5 (k : Nat) : shp k (.str "InvalidRange") = true := str_exc k 5
@[simp] theorem exc_nm6 : excName 6 = "InvalidText" := rfl
@[simp] theorem exc_sh6 (k : Nat) : shp k (.str "InvalidText") = true := str_exc k 6
@[simp] theorem exc_nm7 : excName 7 = "Singular" := rfl
@[simp] theorem exc_sh7 (k : Nat) : shp k (.str "Singular") = true := str_exc k 7
@[simp] theorem exc_nm8 : excName 8 = "NotSymmetric" := rfl
@[simp] theorem exc_sh8 (k : Nat) : shp k (.str "NotSymmetric") = true := str_exc k 8
@[simp] theorem exc_nm9 : excName 9 = "Unlike" := rfl
@[simp] theorem exc_sh9 (k : Nat) : shp k (.str "Unlike") = true := str_exc k 9
@[simp] theorem exc_nm10 : excName 10 = "TooLarge" := rfl
@[simp] theorem exc_sh10 (k : Nat) : shp k (.str "TooLarge") = true := str_exc k 10
@[simp] theorem exc_nm11 : excName 11 = "NothingToUndo" := rfl
@[simp] theorem exc_sh11 (k : Nat) : shp k (.str "NothingToUndo") = true := str_exc k 11
theorem run_inv_bad (t : Tab) (ht : TabOk t) (inv : invB t = false) : run Pd W (n + 7) 70 [tabD t] s = .exc 7 s := by
  have h := run_inv (W := W) (n := n) (s := s) t ht.shp ht.bdT
  rw [call_of (d := c_need_invertible) rfl rfl]
  simp [c_need_invertible, h, inv]
theorem need_inverse_sing (t : Tab) (ht : TabOk t) (inv : invB t = false) (i j : Nat) (hi : i < t.length) (hj : j < t.length) : run Pd W (n + 8) 74 [tabD t, .int i, .int j] s = .exc 7 s := by
  rw [call_of (d := c_need_inverse) rfl rfl]
  simp [c_need_inverse, run_need_table t ht, run_need_place t i hi, run_need_place t j hj, run_inv_bad t ht inv]
theorem range_exc (t i j : D) (c : Nat) (h : run Pd W (n + 8) 74 [t, i, j] s = .exc c s) : run Pd W (n + 9) 75 [t, i, j] s = .exc c s := by
  rw [call_of (d := c_inverse_range) rfl rfl]
  simp [c_inverse_range, h]
theorem corner_exc (t i j : D) (c : Nat) (h : run Pd W (n + 8) 74 [t, i, j] s = .exc c s) : run Pd W (n + 9) 76 [t, i, j] s = .exc c s := by
  rw [call_of (d := c_inverse_corner) rfl rfl]
  simp [c_inverse_corner, h]
end Rt
set_option maxHeartbeats 2000000
set_option maxHeartbeats 2000000
namespace Rt
open PySem
variable {W n : Nat} {s : Sto}
theorem row_gen (l : List (D × Bool)) (k : Int) (hk : (l.length : Int) = k) (hs : l.length ≤ 1000) (h : ∀ q ∈ l, run Pd W (n + 3) 3 [q.1] s = .ok (.bl q.2) s) : run Pd W (n + 4) 4 [.tup (l.map (·.1)), .int k] s = .ok (.bl (l.all (·.2))) s := by
  rw [call_of (d := c_is_row) rfl rfl]
  have e := mapR_all (f := itemK (run Pd W (n + 3)) (.name 2) .none (.call 3 (.cons (.var 2) .nil)) [.val (.tup (l.map (·.1))), .val (.int k), .no]) (φ := fun q : D × Bool => q.1) (fun q => D.bl q.2) (s := s) (l := l) fun p hp => by
    simp [itemK, h p hp]
  have a := biD_all (fun q : D × Bool => q.2) l s
  simp only [bz_all] at a
  have hl : l.length ≤ 1000000 := by omega
  simp [c_is_row, hk, e, hl, a]
theorem row_len (xs : List D) (k : Int) (h : (xs.length : Int) ≠ k) : run Pd W (n + 4) 4 [.tup xs, .int k] s = .ok (.bl false) s := by
  rw [call_of (d := c_is_row) rfl rfl]
  simp [c_is_row, h]
theorem tab_gen (l : List (D × Bool)) (h1 : 1 ≤ l.length) (h3 : l.length ≤ 3) (h : ∀ q ∈ l, run Pd W (n + 4) 4 [q.1, .int l.length] s = .ok (.bl q.2) s) : run Pd W (n + 5) 5 [.tup (l.map (·.1))] s = .ok (.bl (l.all (·.2))) s := by
  rw [call_of (d := c_is_table) rfl rfl]
  have e := mapR_all (f := itemK (run Pd W (n + 4)) (.name 1) .none (.call 4 (.cons (.var 1) (.cons (.bi .len (.cons (.var 0) .nil)) .nil))) [.val (.tup (l.map (·.1))), .no]) (φ := fun q : D × Bool => q.1) (fun q => D.bl q.2) (s := s) (l := l) fun p hp => by
    simp [itemK, h p hp]
  have a := biD_all (fun q : D × Bool => q.2) l s
  simp only [bz_all] at a
  have hl : l.length ≤ 1000000 := by omega
  have k1 : 1 ≤ (l.length : Int) := by omega
  have k2 : (l.length : Int) ≤ 3 := by omega
  simp [c_is_table, k1, k2, e, hl, a]
theorem tab_len (xs : List D) (h : xs.length = 0 ∨ 3 < xs.length) : run Pd W (n + 5) 5 [.tup xs] s = .ok (.bl false) s := by
  rw [call_of (d := c_is_table) rfl rfl]
  rcases h with h | h
  · simp [c_is_table, h]
  · have k1 : 1 ≤ (xs.length : Int) := by omega
    have k2 : ¬ (xs.length : Int) ≤ 3 := by omega
    simp [c_is_table, k1, k2]
theorem range_bad (p : Int × Int) (h : ¬ (-9 ≤ p.1 ∧ p.1 ≤ p.2 ∧ p.2 ≤ 9)) : run Pd W (n + 3) 3 [pD p] s = .ok (.bl false) s := by
  rw [call_of (d := c_is_range) rfl rfl]
  simp only [c_is_range]
  by_cases h1 : -9 ≤ p.1 <;> by_cases h2 : p.1 ≤ 9 <;> by_cases h3 : -9 ≤ p.2 <;> by_cases h4 : p.2 ≤ 9 <;> by_cases h5 : p.1 ≤ p.2 <;> first | omega | simp [pD, itemK, run_is_whole, h1, h2, h3, h4, h5]
theorem need_no (d : D) (h : run Pd W (n + 5) 5 [d] s = .ok (.bl false) s) : run Pd W (n + 6) 6 [d] s = .exc 0 s := by
  rw [call_of (d := c_need_table) rfl rfl]
  simp [c_need_table, h]
end Rt
set_option maxHeartbeats 1000000
namespace Rt
open PySem
variable {W n : Nat} {s : Sto}
theorem seqR_assoc (x : Res Flow) (f g : Env → Sto → Res Flow) : seqR (seqR x f) g = seqR x fun r s => seqR (f r s) g := by
  cases x with
  | ok fl s => cases fl <;> rfl
  | exc c s => rfl
  | bad => rfl
theorem execs_split {F : Nat → List D → Sto → Res D} {W : Nat} : ∀ (k : Nat) (b : Ss) (r : Env) (s : Sto), execs F W b r s = seqR (execs F W (takeS k b) r s) fun r s => execs F W (dropS k b) r s
  | 0, b, r, s => by rw [takeS, execs_nil, seqR_next]; rfl
  | k + 1, .nil, r, s => by rw [takeS, execs_nil, seqR_next, dropS, execs_nil]
  | k + 1, .cons a b, r, s => by
    rw [takeS, execs_cons, execs_cons, seqR_assoc]
    congr 1
    funext r s
    rw [execs_split k b r s]
    rfl
def rangeB (p : Int × Int) : Bool := decide (-9 ≤ p.1 ∧ p.1 ≤ p.2 ∧ p.2 ≤ 9)
theorem run_rangeB (p : Int × Int) : run Pd W (n + 3) 3 [pD p] s = .ok (.bl (rangeB p)) s := by
  by_cases h : -9 ≤ p.1 ∧ p.1 ≤ p.2 ∧ p.2 ≤ 9
  · rw [run_is_range p h]; simp [rangeB, h]
  · rw [range_bad p h]; simp only [rangeB, h, decide_false]
/-- square, of any bounds -/
structure Sqr (T : Tab) : Prop where
  lo : 1 ≤ T.length
  hi : T.length ≤ 3
  sq : ∀ r ∈ T, r.length = T.length
def tableB (T : Tab) : Bool := T.all fun r => r.all rangeB
theorem run_tableB (T : Tab) (h : Sqr T) : run Pd W (n + 5) 5 [tabD T] s = .ok (.bl (tableB T)) s := by
  have h3 := h.hi
  have := tab_gen (W := W) (n := n) (s := s) (T.map fun r => (rowD r, r.all rangeB)) (by simpa using h.lo) (by simpa using h.hi) (fun q hq => by
    obtain ⟨r, hr, rfl⟩ := List.mem_map.mp hq
    have hl := h.sq r hr
    have := row_gen (W := W) (n := n) (s := s) (r.map fun p => (pD p, rangeB p)) (T.length : Int) (by simp [hl]) (by simp; omega) (fun q hq => by
      obtain ⟨p, hp, rfl⟩ := List.mem_map.mp hq
      exact run_rangeB p)
    have e1 : ((r.map fun p => (pD p, rangeB p)).map (·.1)) = r.map pD := by simp [Function.comp_def]
    have e2 : ((r.map fun p => (pD p, rangeB p)).all (·.2)) = r.all rangeB := by simp [List.all_map, Function.comp_def]
    rw [e1, e2] at this
    simp only [List.length_map]
    exact this)
  have e1 : ((T.map fun r => (rowD r, r.all rangeB)).map (·.1)) = T.map rowD := by simp [Function.comp_def]
  have e2 : ((T.map fun r => (rowD r, r.all rangeB)).all (·.2)) = tableB T := by simp [tableB, List.all_map, Function.comp_def]
  rw [e1, e2] at this
  exact this
theorem run_checked (T : Tab) (h : Sqr T) : run Pd W (n + 6) 129 [tabD T] s = if tableB T then .ok (tabD T) s else .exc 10 s := by
  have e := run_tableB (W := W) (n := n) (s := s) T h
  rw [call_of (d := c_checked) rfl rfl]
  cases hB : tableB T with
  | true => simp [c_checked, e, hB]
  | false => simp [c_checked, e, hB]
def plusP (y : (Int × Int) × (Int × Int)) : Int × Int := (y.1.1 + y.2.1, y.1.2 + y.2.2)
def plusR (z : List (Int × Int) × List (Int × Int)) : List (Int × Int) := (z.1.zip z.2).map plusP
def sumT (t o : Tab) : Tab := (t.zip o).map plusR
theorem sumT_sqr {t o : Tab} (ht : TabOk t) (ho : TabOk o) (hl : o.length = t.length) : Sqr (sumT t o) := by
  have e : (sumT t o).length = t.length := by simp [sumT, hl]
  refine ⟨by rw [e]; exact ht.lo, by rw [e]; exact ht.hi, fun r hr => ?_⟩
  obtain ⟨z, hz, rfl⟩ := List.mem_map.mp hr
  obtain ⟨z1, z2⟩ := List.of_mem_zip hz
  rw [e]
  simp [plusR, ht.sq _ z1, ho.sq _ z2, hl]
def plI (s0 : Sto) (t o : Tab) (k : Nat) (r : Env) (s : Sto) : Prop := ∃ x3 x4 x5 x6 x7, r = [.val (tabD t), .val (tabD o), .own ((((t.zip o).take k).map plusR).map rowD), x3, x4, x5, x6, x7] ∧ s = s0
theorem run_plus (t o : Tab) (ht : TabOk t) (ho : TabOk o) (hl : o.length = t.length) : run Pd W (n + 7) 130 [tabD t, tabD o] s = if tableB (sumT t o) then .ok (tabD (sumT t o)) s else .exc 10 s := by
  have h3 := ht.hi
  have body : ∃ r, execs (run Pd W (n + 6)) W (takeS 5 c_plus.body) ([.val (tabD t), .val (tabD o)] ++ List.replicate 6 .no) s = .ok (.next r) s ∧ r[2]? = some (.own ((sumT t o).map rowD)) ∧ r.length = 8 := by
    have key : Wp (execs (run Pd W (n + 6)) W (takeS 5 c_plus.body) ([.val (tabD t), .val (tabD o)] ++ List.replicate 6 .no) s) (fun fl s' => s' = s ∧ ∃ r, fl = .next r ∧ r[2]? = some (.own ((sumT t o).map rowD)) ∧ r.length = 8) := by
      simp only [c_plus, takeS]
      have hzz : ∀ s, zipK (tabD t) (tabD o) s = .ok ((t.zip o).map fun q => .tup [rowD q.1, rowD q.2]) s := fun s => by
        rw [show zipK (tabD t) (tabD o) s = .ok (zipD (t.map rowD) (o.map rowD)) s from rfl, zip_mapG]
      simp [run_need_table t ht, run_need_table o ho, run_need_alike t o hl.symm, hzz]
      refine for_map (plI s t o) ⟨_, _, _, _, _, by simp; exact ⟨rfl, rfl, rfl, rfl, rfl⟩, rfl⟩ (fun k z hz r s' hI => ?_) (fun r s' hI => ?_)
      · obtain ⟨x3, x4, x5, x6, x7, rfl, rfl⟩ := hI
        obtain ⟨row, more⟩ := z
        have hm := List.mem_of_getElem? hz
        have hrl := ht.sq row (List.of_mem_zip hm).1
        have hml := ho.sq more (List.of_mem_zip hm).2
        have e := mapR_enumZ (s := s') (f := itemK (run Pd W (n + 6)) (.tup2 (.name 5) (.tup2 (.name 6) (.name 7))) .none (.tup (.cons (.bin .add (.var 6) (.sub (.sub (.var 4) (.var 5)) (.int 0))) (.cons (.bin .add (.var 7) (.sub (.sub (.var 4) (.var 5)) (.int 1))) .nil))) [.val (tabD t), .val (tabD o), .own ((((t.zip o).take k).map plusR).map rowD), .val (rowD row), .val (rowD more), .no, .no, .no]) (φ := pD) (fun x y => pD (plusP (x, y))) more row more 0 rfl (by omega) (fun j x y hx hy => by
          have hsub : subD s' (rowD more) (.int j) = .ok (pD y) s' := by rw [rowD, sub_tup, at_nat s' (d := pD y) (by rw [List.getElem?_map, hy]; rfl)]
          rw [show pD x = .tup [.int x.1, .int x.2] from rfl]
          simp [itemK, hsub, plusP, pD])
        have hlen : ((((t.zip o).take k).map plusR).map rowD).length < 1000000 := by
          simp only [List.length_map, List.length_take, List.length_zip]; omega
        have hen : enumK (rowD row) s' = .ok (enumD 0 (row.map pD)) s' := rfl
        simp at e hlen
        simp [hen, e, show min row.length more.length ≤ 1000000 by omega]
        refine ⟨by omega, ?_⟩
        rw [plI, take_get hz, List.map_append, List.map_append]
        exact ⟨_, _, _, _, _, by simp [plusR, rowD]; exact ⟨rfl, rfl, rfl, rfl, rfl⟩, rfl⟩
      · obtain ⟨x3, x4, x5, x6, x7, rfl, rfl⟩ := hI
        rw [List.take_of_length_le (Nat.le_refl _)]
        simp [sumT]
    obtain ⟨v, s', e, rfl, r, rfl, h1, h2⟩ := wp_iff.mp key
    exact ⟨r, e, h1, h2⟩
  obtain ⟨r, e, h1, h2⟩ := body
  have hck := run_checked (W := W) (n := n) (s := s) (sumT t o) (sumT_sqr ht ho hl)
  rw [call_of (d := c_plus) rfl rfl, execs_split 5]
  have e' : execs (run Pd W (n + 6)) W (takeS 5 c_plus.body) (List.map Slot.val [tabD t, tabD o] ++ List.replicate (c_plus.nn - c_plus.np) Slot.no) s = .ok (.next r) s := e
  rw [e', seqR_next]
  match r, h2, h1 with
  | [y0, y1, y2, y3, y4, y5, y6, y7], _, h1 =>
    simp at h1
    subst h1
    have hT : D.tup ((sumT t o).map rowD) = tabD (sumT t o) := rfl
    simp only [c_plus, dropS]
    simp [hT, hck]
    cases tableB (sumT t o) <;> simp
end Rt
set_option maxHeartbeats 1000000
namespace Rt
open PySem
variable {W n : Nat} {s : Sto}
theorem plus_unlike (t o : Tab) (ht : TabOk t) (ho : TabOk o) (hl : t.length ≠ o.length) : run Pd W (n + 7) 130 [tabD t, tabD o] s = .exc 9 s := by
  have e : run Pd W (n + 6) 7 [tabD t, tabD o] s = .exc 9 s := by
    have hl2 : ¬ (t.length : Int) = (o.length : Int) := by omega
    rw [call_of (d := c_need_alike) rfl rfl]
    simp [c_need_alike, len_tab, hl2]
  rw [call_of (d := c_plus) rfl rfl]
  simp [c_plus, run_need_table t ht, run_need_table o ho, e]
end Rt
set_option maxHeartbeats 1000000
namespace Rt
open PySem
variable {W n : Nat} {s : Sto}
theorem need_right_bad (t : Tab) (d : D) (h : run Pd W (n + 4) 4 [d, .int t.length] s = .ok (.bl false) s) : run Pd W (n + 5) 84 [tabD t, d] s = .exc 1 s := by
  rw [call_of (d := c_need_right) rfl rfl]
  simp [c_need_right, len_tab, h]
theorem system_right (t : Tab) (ht : TabOk t) (d i : D) (h : run Pd W (n + 6) 4 [d, .int t.length] s = .ok (.bl false) s) : run Pd W (n + 8) 88 [tabD t, d, i] s = .exc 1 s := by
  have e := need_right_bad (W := W) (n := n + 2) (s := s) t d h
  rw [call_of (d := c_need_system) rfl rfl]
  simp [c_need_system, run_need_table t ht, e]
theorem range_exc9 (t r i : D) (c : Nat) (h : run Pd W (n + 8) 88 [t, r, i] s = .exc c s) : run Pd W (n + 9) 89 [t, r, i] s = .exc c s := by
  rw [call_of (d := c_solution_range) rfl rfl]
  simp [c_solution_range, h]
end Rt
set_option maxHeartbeats 1000000
set_option maxHeartbeats 1000000
set_option maxHeartbeats 1000000
namespace Rt
open PySem
variable {W n : Nat} {s : Sto}
theorem all_positive_no (t : Tab) (ht : TabOk t) (sy : mirB t.length t = false) : run Pd W (n + 8) 119 [tabD t] s = .exc 8 s := by
  have h := run_is_mirrored (W := W) (n := n + 5) (s := s) t (k := t.length) ⟨rfl, ht.sq⟩ ht.hi
  have e : run Pd W (n + 7) 113 [tabD t] s = .exc 8 s := by
    rw [call_of (W := W) (n := n + 6) (d := c_need_mirrored) (f := 113) (ds := [tabD t]) (s := s) rfl rfl]
    simp [c_need_mirrored, run_need_table t ht, h, sy]
  rw [call_of (W := W) (n := n + 7) (d := c_all_positive) (f := 119) (ds := [tabD t]) (s := s) rfl rfl]
  simp [c_all_positive, e]
end Rt
set_option maxHeartbeats 1000000
set_option maxHeartbeats 1000000
namespace Rt
open PySem
variable {W n : Nat} {s : Sto}
def setD (rows : List (List D)) (i j : Nat) (d : D) : List (List D) := rows.set i ((rows.getD i []).set j d)
theorem run_put (rows : List (List D)) (i j : Nat) (d : D) (hi : i < rows.length) (hl : rows.length ≤ 1000) (hj : j < (rows.getD i []).length) (hr : (rows.getD i []).length ≤ 1000) : run Pd W (n + 1) 51 [.tup (rows.map D.tup), .int i, .int j, d] s = .ok (.tup ((setD rows i j d).map D.tup)) s := by
  rw [call_of (W := W) (n := n) (d := c_put) (f := 51) (ds := [.tup (rows.map D.tup), .int i, .int j, d]) (s := s) rfl rfl]
  have hget : (rows.map D.tup)[i]? = some (.tup (rows.getD i [])) := by
    rw [List.getElem?_map, getD_some (d := []) hi]; rfl
  have hat : atD s (rows.map D.tup) (i : Int) = .ok (.tup (rows.getD i [])) s := at_nat s hget
  obtain ⟨a1, a2⟩ := put3 s (rows.getD i []) j d hj hr
  obtain ⟨b1, b2⟩ := put3 s (rows.map D.tup) i (.tup ((rows.getD i []).set j d)) (by simpa using hi) (by simpa using hl)
  have e : D.tup ((rows.map D.tup).set i (.tup ((rows.getD i []).set j d))) = .tup ((setD rows i j d).map D.tup) := by rw [setD, List.map_set]
  generalize rows.getD i [] = row at *
  simp only [c_put]
  simp -implicitDefEqProofs [hat, a1, a2, b1, b2, e]
def putT (m : Tab) (i j : Nat) (p : Int × Int) : Tab := m.set i ((rowAt m i).set j p)
theorem map_getD {a b : Type} (f : List a → List b) (hf : f [] = []) (l : List (List a)) (i : Nat) : (l.map f).getD i [] = f (l.getD i []) := by
  rw [List.getD_eq_getElem?_getD, List.getD_eq_getElem?_getD, List.getElem?_map]
  cases l[i]? with
  | none => simp [hf]
  | some x => rfl
theorem run_putT (m : Tab) (i j : Nat) (p : Int × Int) {k : Nat} (h : Sq k m) (h3 : k ≤ 3) (hi : i < k) (hj : j < k) : run Pd W (n + 1) 51 [tabD m, .int i, .int j, pD p] s = .ok (tabD (putT m i j p)) s := by
  have hl := h.len
  have hrow : (rowAt m i).length = k := h.rl hi
  have hrow' : (m.getD i []).length = k := hrow
  have e := run_put (W := W) (n := n) (s := s) (m.map fun r => r.map pD) i j (pD p) (by rw [List.length_map]; omega) (by rw [List.length_map]; omega) (by rw [map_getD _ rfl, List.length_map]; omega) (by rw [map_getD _ rfl, List.length_map]; omega)
  have e1 : D.tup ((m.map fun r => r.map pD).map D.tup) = tabD m := by rw [List.map_map]; rfl
  have e2 : D.tup ((setD (m.map fun r => r.map pD) i j (pD p)).map D.tup) = tabD (putT m i j p) := by
    rw [setD, map_getD _ rfl, tabD, putT, List.map_set, List.map_set, rowD, List.map_set, List.map_map]; rfl
  rw [e1, e2] at e
  exact e
end Rt
set_option maxHeartbeats 1000000
namespace Rt
open PySem
variable {W n : Nat} {s : Sto}
theorem All2.at {a b : Type} {R : a → b → Prop} : ∀ {l : List a} {m : List b}, All2 R l m → ∀ {k : Nat} {x : a} {y : b}, l[k]? = some x → m[k]? = some y → R x y
  | _, _, .nil, k, x, y, h, _ => by simp at h
  | _, _, .cons r t, 0, x, y, h1, h2 => by
    simp at h1 h2
    subst h1 h2
    exact r
  | _, _, .cons r t, k + 1, x, y, h1, h2 => All2.at t (by simpa using h1) (by simpa using h2)
end Rt
set_option maxHeartbeats 1000000
set_option maxHeartbeats 2000000
set_option maxHeartbeats 2000000
namespace Rt
open PySem
variable {W n : Nat} {s : Sto}
theorem short_no (d : D) (h : run Pd W (n + 2) 21 [d] s = .ok (.bl false) s) : run Pd W (n + 3) 49 [d] s = .ok (.bl false) s := by
  rw [call_of (d := c_is_short) rfl rfl]
  simp [c_is_short, h]
theorem frac_zero (v : Int) : run Pd W (n + 2) 21 [.tup [.int v, .int 0]] s = .ok (.bl false) s := by
  rw [call_of (d := c_is_fraction) rfl rfl]
  simp [c_is_fraction, itemK, num_int]
theorem need_vec_rep (t : Tab) (h1 : 1 ≤ t.length) (h3 : t.length ≤ 3) (d : D) (h : run Pd W (n + 3) 49 [d] s = .ok (.bl false) s) : run Pd W (n + 4) 94 [tabD t, .tup (List.replicate t.length d)] s = .exc 2 s := by
  have e := mapR_all (f := itemK (run Pd W (n + 3)) (.name 2) .none (.call 49 (.cons (.var 2) .nil)) [.val (tabD t), .val (.tup (List.replicate t.length d)), .no]) (φ := fun _ : Unit => d) (fun _ => D.bl false) (s := s) (l := List.replicate t.length ()) fun p hp => by
    simp [itemK, h]
  have a := biD_all (fun _ : Unit => false) (List.replicate t.length ()) s
  have a2 : ((List.replicate t.length ()).all fun _ => false) = false := by
    cases hz : t.length with
    | zero => omega
    | succ m => simp [List.replicate_succ]
  rw [a2] at a
  simp at e a
  have hl : t.length ≤ 1000000 := by omega
  rw [call_of (d := c_need_vector) rfl rfl]
  simp [c_need_vector, len_tab, e, hl, a]
theorem solved_exc (t : Tab) (ht : TabOk t) (r : List (Int × Int)) (hr : RowOk t.length r) (d : D) (h : run Pd W (n + 6) 94 [tabD t, d] s = .exc 2 s) : run Pd W (n + 8) 103 [tabD t, rowD r, d] s = .exc 2 s := by
  have e : run Pd W (n + 7) 98 [tabD t, rowD r, d] s = .exc 2 s := by
    rw [call_of (d := c_need_all) rfl rfl]
    simp [c_need_all, run_need_table t ht, run_need_right t ht.hi r hr, h]
  rw [call_of (d := c_solved_by) rfl rfl]
  simp [c_solved_by, e]
end Rt
set_option maxHeartbeats 1000000
namespace Rt
open PySem TL
variable {W n : Nat} {s : Sto}
theorem joinL_cons (S p : List Nat) (q : List (List Nat)) (h : q ≠ []) : joinL S (p :: q) = p ++ (S ++ joinL S q) := by
  cases q with
  | nil => exact absurd rfl h
  | cons a r => rfl
theorem spl_ne (S : List Nat) : ∀ (k : Nat) (acc l : List Nat), spl S k acc l ≠ []
  | _, acc, [] => by rw [spl_nil]; simp
  | 0, acc, c :: r => by
    rw [spl]
    split
    · simp
    · exact spl_ne S 0 _ r
  | k + 1, acc, c :: r => by rw [spl]; exact spl_ne S k acc r
theorem join_spl {S : List Nat} (hS : S ≠ []) : ∀ (m : Nat) (l acc : List Nat), l.length ≤ m → joinL S (spl S 0 acc l) = acc ++ l
  | _, [], acc, _ => by rw [spl_nil]; simp [joinL]
  | 0, c :: r, acc, h => by simp at h
  | m + 1, c :: r, acc, h => by
    cases hp : pre S (c :: r) with
    | true =>
      rw [spl_hit hp, spl_pass, joinL_cons _ _ _ (spl_ne S 0 _ _), join_spl hS m (r.drop (S.length - 1)) [] (by simp at h ⊢; omega)]
      have hl : 1 ≤ S.length := by
        cases S with
        | nil => exact absurd rfl hS
        | cons a b => simp
      have e1 : (c :: r).take S.length = S := by
        unfold pre at hp
        exact eq_of_beq hp
      have e2 : (c :: r).drop S.length = r.drop (S.length - 1) := by
        rw [show S.length = (S.length - 1) + 1 by omega]
        simp
      have e3 := List.take_append_drop S.length (c :: r)
      rw [e1, e2] at e3
      rw [List.nil_append, e3]
    | false =>
      rw [spl_miss hp, join_spl hS m r (acc ++ [c]) (by simp at h; omega)]
      simp
/-- a separator -/
structure Sep (y : Str) : Prop where
  ne : tl y ≠ []
  sm : y.cps.all (· < 256) = true
theorem mem_joinL (S : List Nat) : ∀ (ps : List (List Nat)) (p : List Nat), p ∈ ps → (∀ c ∈ p, c ∈ joinL S ps) ∧ p.length ≤ (joinL S ps).length
  | [], p, h => by cases h
  | [q], p, h => by
    have : p = q := by simpa using h
    subst this
    exact ⟨fun c hc => hc, Nat.le_refl _⟩
  | q :: r :: ps, p, h => by
    rw [joinL_cons _ _ _ (by simp)]
    rcases List.mem_cons.mp h with z | z
    · subst z
      exact ⟨fun c hc => List.mem_append_left _ hc, by rw [List.length_append]; omega⟩
    · obtain ⟨a, b⟩ := mem_joinL S (r :: ps) p z
      exact ⟨fun c hc => List.mem_append_right _ (List.mem_append_right _ (a c hc)), by rw [List.length_append, List.length_append]; omega⟩
theorem len_joinL (S : List Nat) : ∀ (ps : List (List Nat)), S ≠ [] → ps.length ≤ (joinL S ps).length + 1
  | [], _ => by simp
  | [q], _ => by simp
  | q :: r :: ps, h => by
    rw [joinL_cons _ _ _ (by simp)]
    have := len_joinL S (r :: ps) h
    have : 1 ≤ S.length := by
      cases S with
      | nil => exact absurd rfl h
      | cons a b => simp
    simp at *
    omega
/-- texts that are asked -/
structure Tx (x : Str) : Prop where
  len : x.length ≤ 1000
  ok : ∀ c ∈ tl x, c < 0x110000
theorem split_tx {x y : Str} (h : Sep y) (hx : Tx x) : (∀ p ∈ Txt.split x y, Tx p) ∧ (Txt.split x y).length ≤ 1001 := by
  have e : joinL (tl y) ((Txt.split x y).map tl) = tl x := by
    rw [split_spl x y h.ne (kind_ok h.sm), join_spl h.ne _ _ _ (Nat.le_refl _), List.nil_append]
  have hl := hx.len
  rw [len_tl] at hl
  refine ⟨fun p hp => ?_, ?_⟩
  · obtain ⟨a, b⟩ := mem_joinL (tl y) _ (tl p) (List.mem_map.mpr ⟨p, hp, rfl⟩)
    rw [e] at a b
    exact ⟨by rw [len_tl]; omega, fun c hc => hx.ok c (a c hc)⟩
  · have := len_joinL (tl y) ((Txt.split x y).map tl) h.ne
    rw [e, List.length_map] at this
    omega
theorem Tx.shp {x : Str} (h : Tx x) (k : Nat) : shp k (.str x) = true := by
  have : PyData.strOk x = true := by
    unfold PyData.strOk
    rw [Array.all_eq_true']
    intro c hc
    have := h.ok c (by simpa using hc)
    simp
    omega
  cases k <;> exact this
def numS (v : Int) : Str := toString v
def numP (w : Str) : Option Int := match tl w with
  | [c] => if 48 ≤ c ∧ c ≤ 57 then some ((c : Int) - 48) else none
  | [45, c] => if 49 ≤ c ∧ c ≤ 57 then some (48 - (c : Int)) else none
  | _ => none
theorem num_facts : ∀ k : Nat, k < 19 → tl (numS ((k : Int) - 9)) = (if k < 9 then [45, 57 - k] else [39 + k]) ∧ intText? (numS ((k : Int) - 9)) = some ((k : Int) - 9) := by decide +kernel
theorem numS_tl {v : Int} (h1 : -9 ≤ v) (h2 : v ≤ 9) : tl (numS v) = (if v < 0 then [45, (48 - v).toNat] else [(48 + v).toNat]) ∧ intText? (numS v) = some v := by
  have := num_facts (v + 9).toNat (by omega)
  rw [show (((v + 9).toNat : Nat) : Int) - 9 = v by omega] at this
  refine ⟨?_, this.2⟩
  rw [this.1]
  by_cases h : v < 0
  · rw [if_pos h, if_pos (by omega)]
    congr 2
    omega
  · rw [if_neg h, if_neg (by omega)]
    congr 1
    omega
theorem numP_iff {w : Str} {v : Int} : numP w = some v ↔ (-9 ≤ v ∧ v ≤ 9 ∧ w = numS v) := by
  constructor
  · intro h
    unfold numP at h
    split at h
    · next c hc =>
      split at h
      · next hr =>
        cases h
        refine ⟨by omega, by omega, ext_tl ?_⟩
        rw [hc, (numS_tl (by omega) (by omega)).1, if_neg (by omega)]
        congr 1
        omega
      · cases h
    · next c hc =>
      split at h
      · next hr =>
        cases h
        refine ⟨by omega, by omega, ext_tl ?_⟩
        rw [hc, (numS_tl (by omega) (by omega)).1, if_pos (by omega)]
        congr 2
        omega
      · cases h
    · cases h
  · rintro ⟨h1, h2, rfl⟩
    have := (numS_tl h1 h2).1
    unfold numP
    rw [this]
    by_cases h : v < 0
    · rw [if_pos h]
      simp only
      rw [if_pos (by omega)]
      congr 1
      omega
    · rw [if_neg h]
      simp only
      rw [if_pos (by omega)]
      congr 1
      omega
end Rt
set_option maxHeartbeats 1000000
namespace Rt
open PySem TL
variable {W n : Nat} {s : Sto}
theorem beq_tl (x y : Str) : (x == y) = decide (tl x = tl y) := by
  by_cases h : tl x = tl y
  · rw [ext_tl h]; simp
  · have : x ≠ y := fun e => h (by rw [e])
    simp [h, this]
theorem eqv_strT (x y : Str) : eqv (.str x) (.str y) = decide (tl x = tl y) := by rw [eqv, beq_tl]
theorem cmp_neI (i j : Int) : cmpD s .ne (.int i) (.int j) = .ok (.bl (!decide (i = j))) s := by
  rw [cmp_ne, shp_int, shp_int, eqv_int]
  by_cases h : i = j <;> simp [h]
theorem cmp_eqS {a b : Str} (ha : Tx a) (hb : Tx b) : cmpD s .eq (.str a) (.str b) = .ok (.bl (decide (tl a = tl b))) s := by
  rw [cmp_eq, ha.shp, hb.shp, eqv_strT]; rfl
theorem tx_minus : Tx "-" := ⟨by decide, by decide⟩
theorem tx_m0 : Tx "-0" := ⟨by decide, by decide⟩
theorem tl_cut (z : Str) (lo hi : Option Int) : tl (L2.cutS z lo hi) = ((tl z).drop (HT.sIx z.length 0 lo)).take (HT.sIx z.length z.length hi - HT.sIx z.length 0 lo) := rfl
theorem cut_tx {z : Str} (h : Tx z) (lo hi : Option Int) : Tx (L2.cutS z lo hi) := by
  refine ⟨Nat.le_trans (L2.cutS_length z lo hi) h.len, fun c hc => ?_⟩
  rw [tl_cut] at hc
  exact h.ok c (List.mem_of_mem_drop (List.mem_of_mem_take hc))
theorem cut_head (z : Str) : tl (L2.cutS z none (some 1)) = (tl z).take 1 := by
  rw [tl_cut]
  have h1 : HT.sIx z.length 0 none = 0 := rfl
  have h2 : HT.sIx z.length z.length (some 1) = min 1 z.length := rfl
  rw [h1, h2, len_tl, List.drop_zero, Nat.sub_zero]
  cases tl z <;> simp
theorem cut_tail (z : Str) : tl (L2.cutS z (some 1) none) = (tl z).drop 1 := by
  rw [tl_cut]
  have h1 : HT.sIx z.length 0 (some 1) = min 1 z.length := rfl
  have h2 : HT.sIx z.length z.length none = z.length := rfl
  rw [h1, h2, len_tl]
  cases tl z with
  | nil => simp
  | cons a r =>
    simp
theorem slice_tx {z : Str} (h : Tx z) (l u : Option Int) : sliceD s (.str z) l u = .ok (.str (L2.cutS z l u)) s := by
  rw [slice_str, if_pos (by have := h.len; rw [sizeN_eq]; omega)]
theorem len_tx {z : Str} (h : Tx z) : biD s .len [.str z] = .ok (.int (tl z).length) s := by
  rw [bi_len_str, if_pos (by have := h.len; rw [sizeN_eq]; omega), len_tl]
theorem digit_iff (c : Nat) : c ∈ tl ("0123456789" : Str) ↔ 48 ≤ c ∧ c ≤ 57 := by
  have : tl ("0123456789" : Str) = [48, 49, 50, 51, 52, 53, 54, 55, 56, 57] := by decide +kernel
  rw [this]
  simp
  omega
theorem int_tx {w : Str} {v : Int} (h : numP w = some v) : biD s .int [.str w] = .ok (.int v) s := by
  obtain ⟨h1, h2, rfl⟩ := numP_iff.mp h
  have e := (numS_tl h1 h2)
  have hl : (numS v).length ≤ 640 := by
    rw [len_tl, e.1]
    split <;> simp
  show (match intText? (numS v) with | some n => if (numS v).length ≤ 640 then Res.ok (D.int n) s else .bad | none => .bad) = _
  rw [e.2]
  simp only
  rw [if_pos hl]
theorem run_number_of {w : Str} (h : Tx w) : run Pd W (n + 1) 146 [.str w] s = orExc D.int 6 s (numP w) := by
  rw [call_of (d := c_number_of) rfl rfl]
  have e1 := cmp_eqS (s := s) (cut_tx h none (some 1)) tx_minus
  have e2 := cmp_eqS (s := s) h tx_m0
  have m1 : tl ("-" : Str) = [45] := by decide +kernel
  have m2 : tl ("-0" : Str) = [45, 48] := by decide +kernel
  rw [cut_head, m1] at e1
  rw [m2] at e2
  have l1 := len_tx (s := s) h
  have l2 := len_tx (s := s) (cut_tx h (some 1) none)
  rw [cut_tail] at l2
  have nn : ∀ (z : Str), cmpD s .nin (.str z) (.str "0123456789") = (match tl z with | [c] => .ok (.bl (!decide (48 ≤ c ∧ c ≤ 57))) s | _ => .bad) := fun z => by
    show (match tl z with | [c] => Res.ok (D.bl (!decide (c ∈ tl ("0123456789" : Str)))) s | _ => .bad) = _
    split
    · rw [decide_eq_decide.mpr (digit_iff _)]
    · rfl
  have n1 := nn w
  have n2 := nn (L2.cutS w (some 1) none)
  rw [cut_tail] at n2
  have key : ∀ v, numP w = some v → biD s .int [.str w] = .ok (.int v) s := fun v hv => int_tx hv
  simp only [c_number_of]
  unfold numP at key ⊢
  generalize tl w = l at *
  match l with
  | [] =>
    simp [-cmp_eq, -cmp_ne, -bi_len_str, cmp_neI, slice_tx h, e1, l1, orExc]
  | [c] =>
    by_cases hc : c = 45
    · subst hc
      simp [-cmp_eq, -cmp_ne, -bi_len_str, cmp_neI, slice_tx h, e1, l2, orExc]
    · by_cases hd : 48 ≤ c ∧ c ≤ 57
      · have k := key ((c : Int) - 48) (by simp [hd])
        simp [-cmp_eq, -cmp_ne, -bi_len_str, cmp_neI, slice_tx h, e1, hc, l1, n1, hd, e2, k, orExc]
      · simp [-cmp_eq, -cmp_ne, -bi_len_str, cmp_neI, slice_tx h, e1, hc, l1, n1, hd, orExc]
  | [a, b] =>
    by_cases ha : a = 45
    · subst ha
      by_cases hd : 48 ≤ b ∧ b ≤ 57
      · by_cases h0 : b = 48
        · subst h0
          simp [-cmp_eq, -cmp_ne, -bi_len_str, cmp_neI, slice_tx h, e1, l2, n2, e2, orExc]
        · have hd2 : 49 ≤ b ∧ b ≤ 57 := by omega
          have k := key (48 - (b : Int)) (by simp [hd2])
          simp [-cmp_eq, -cmp_ne, -bi_len_str, cmp_neI, slice_tx h, e1, l2, n2, hd, hd2, e2, h0, k, orExc]
      · have hd2 : ¬ (49 ≤ b ∧ b ≤ 57) := by omega
        simp [-cmp_eq, -cmp_ne, -bi_len_str, cmp_neI, slice_tx h, e1, l2, n2, hd, hd2, orExc]
    · simp [-cmp_eq, -cmp_ne, -bi_len_str, cmp_neI, slice_tx h, e1, ha, l1, orExc]
  | a :: b :: c :: r =>
    by_cases ha : a = 45
    · subst ha
      have : ¬ ((r.length : Int) + 1 + 1 = 1) := by omega
      simp [-cmp_eq, -cmp_ne, -bi_len_str, cmp_neI, slice_tx h, e1, l2, orExc, this]
    · have : ¬ ((r.length : Int) + 1 + 1 + 1 = 1) := by omega
      simp [-cmp_eq, -cmp_ne, -bi_len_str, cmp_neI, slice_tx h, e1, ha, l1, orExc, this]
end Rt
set_option maxHeartbeats 1000000
namespace Rt
open PySem TL
variable {W n : Nat} {s : Sto}
theorem sep_dd : Sep ".." := ⟨by decide +kernel, by decide +kernel⟩
theorem sep_sp : Sep " " := ⟨by decide +kernel, by decide +kernel⟩
theorem sep_sc : Sep "; " := ⟨by decide +kernel, by decide +kernel⟩
def rngP (w : Str) : Option (Int × Int) := match mapO numP (Txt.split w "..") with
  | some [a] => some (a, a)
  | some [a, b] => if a = b then none else some (a, b)
  | _ => none
def rowP (w : Str) : Option (List (Int × Int)) := mapO rngP (Txt.split w " ")
def rowsP (w : Str) : Option Tab := mapO rowP (Txt.split w "; ")
def okR (p : Int × Int) : Bool := decide (-9 ≤ p.1 ∧ p.1 ≤ p.2 ∧ p.2 ≤ 9)
def rowOkB (k : Nat) (r : List (Int × Int)) : Bool := decide (r.length = k) && r.all okR
def tabB (t : Tab) : Bool := decide (1 ≤ t.length) && (decide (t.length ≤ 3) && t.all (rowOkB t.length))
def tabP (w : Str) : Option Tab := (rowsP w).bind fun t => if tabB t = true then some t else none
theorem split_run {x y : Str} (hx : Tx x) (hy : (y.length == 0) = false) : m1D s .split (.str x) (.str y) = .ok (.lst ((Txt.split x y).map D.str)) s := by
  rw [m1_split, if_pos ⟨hy, by have := hx.len; rw [sizeN_eq]; omega⟩]
theorem run_range_of {w : Str} (h : Tx w) : run Pd W (n + 2) 147 [.str w] s = orExc pD 6 s (rngP w) := by
  rw [call_of (d := c_range_of) rfl rfl]
  obtain ⟨h1, h2⟩ := split_tx sep_dd h
  have e := compK_of (f := itemX (run Pd W (n + 1)) (.name 2) (.call 146 (.cons (.var 2) .nil)) [.val (.str w), .no, .no]) (φ := D.str) numP D.int 6 (s := s) (l := Txt.split w "..") (by omega) fun x hx => by
    simp [itemX, run_number_of (h1 x hx)]
  have sr := split_run (s := s) h (show ((".." : Str).length == 0) = false by decide +kernel)
  simp only [c_range_of]
  unfold rngP
  simp [sr, e]
  cases hm : mapO numP (Txt.split w "..") with
  | none => simp [orExc]
  | some ys =>
    match ys with
    | [] => simp [orExc]
    | [a] => simp [orExc, pD]
    | [a, b] =>
      by_cases hab : a = b <;> simp [orExc, hab, pD]
    | a :: b :: c :: r =>
      have z1 : ¬ ((r.length : Int) + 1 + 1 + 1 = 1) := by omega
      have z2 : ¬ ((r.length : Int) + 1 + 1 + 1 = 2) := by omega
      simp [orExc, z1, z2]
theorem run_row_any (r : List (Int × Int)) (k : Nat) (hk : k ≤ 3) : run Pd W (n + 4) 4 [rowD r, .int k] s = .ok (.bl (rowOkB k r)) s := by
  unfold rowOkB
  by_cases h : r.length = k
  · have := row_gen (W := W) (n := n) (s := s) (r.map fun p => (pD p, okR p)) k (by simp [h]) (by simp; omega) (fun q hq => by
      obtain ⟨p, _, rfl⟩ := List.mem_map.mp hq
      unfold okR
      by_cases z : -9 ≤ p.1 ∧ p.1 ≤ p.2 ∧ p.2 ≤ 9
      · simp only [z]
        exact run_is_range p z
      · simp only [z]
        exact range_bad p z)
    have e1 : (r.map fun p => (pD p, okR p)).map (·.1) = r.map pD := by simp [Function.comp_def]
    have e2 : (r.map fun p => (pD p, okR p)).all (·.2) = r.all okR := by simp [List.all_map, Function.comp_def]
    rw [e1, e2] at this
    rw [decide_eq_true h]
    exact this
  · rw [decide_eq_false h]
    exact row_len _ _ (by simp; omega)
theorem run_table_any (t : Tab) : run Pd W (n + 5) 5 [tabD t] s = .ok (.bl (tabB t)) s := by
  unfold tabB
  by_cases h1 : 1 ≤ t.length
  · by_cases h3 : t.length ≤ 3
    · have := tab_gen (W := W) (n := n) (s := s) (t.map fun r => (rowD r, rowOkB t.length r)) (by simpa using h1) (by simpa using h3) (fun q hq => by
        obtain ⟨r, _, rfl⟩ := List.mem_map.mp hq
        simp only [List.length_map]
        exact run_row_any r t.length h3)
      have e1 : (t.map fun r => (rowD r, rowOkB t.length r)).map (·.1) = t.map rowD := by simp [Function.comp_def]
      have e2 : (t.map fun r => (rowD r, rowOkB t.length r)).all (·.2) = t.all (rowOkB t.length) := by simp [List.all_map, Function.comp_def]
      rw [e1, e2] at this
      rw [decide_eq_true h1, decide_eq_true h3]
      exact this
    · rw [decide_eq_true h1, decide_eq_false h3]
      exact tab_len _ (by simp; omega)
  · rw [decide_eq_false h1]
    exact tab_len _ (.inl (by simp only [List.length_map]; omega))
theorem run_parse {x : Str} (h : Tx x) : run Pd W (n + 6) 148 [.str x] s = orExc tabD 6 s (tabP x) := by
  rw [call_of (d := c_parse_table) rfl rfl]
  obtain ⟨h1, h2⟩ := split_tx sep_sc h
  have e := compK_of (f := itemX (run Pd W (n + 5)) (.name 2) (.bi .tuple (.cons (.compX (.name 3) (.val (.m1 .split (.var 2) (.str " "))) (.call 147 (.cons (.var 3) .nil)) [3]) .nil)) [.val (.str x), .no, .no, .no]) (φ := D.str) rowP rowD 6 (s := s) (l := Txt.split x "; ") (by omega) fun w hw => by
    have hw' := h1 w hw
    obtain ⟨g1, g2⟩ := split_tx sep_sp hw'
    have e2 := compK_of (f := itemX (run Pd W (n + 5)) (.name 3) (.call 147 (.cons (.var 3) .nil)) [.val (.str x), .no, .val (.str w), .no]) (φ := D.str) rngP pD 6 (s := s) (l := Txt.split w " ") (by omega) fun y hy => by
      have := run_range_of (W := W) (n := n + 3) (s := s) (g1 y hy)
      simp [itemX, this]
    have sr := split_run (s := s) hw' (show ((" " : Str).length == 0) = false by decide +kernel)
    simp [itemX, sr, e2]
    unfold rowP
    cases mapO rngP (Txt.split w " ") with
    | none => simp [orExc]
    | some ys => simp [orExc, rowD]
  have sr := split_run (s := s) h (show (("; " : Str).length == 0) = false by decide +kernel)
  have hty : isTy .str (.str x) = some true := rfl
  simp only [c_parse_table]
  unfold tabP rowsP
  simp [hty, sr, e]
  cases hm : mapO rowP (Txt.split x "; ") with
  | none => simp [orExc]
  | some t =>
    have rt := run_table_any (W := W) (n := n) (s := s) t
    rw [tabD] at rt
    cases hB : tabB t with
    | false =>
      rw [hB] at rt
      simp [orExc, hB, rt]
    | true =>
      rw [hB] at rt
      simp [orExc, hB, rt, tabD]
end Rt
set_option maxHeartbeats 1000000
namespace Rt
open PySem
variable {W n : Nat} {s : Sto}
abbrev Hist := List (Str × Tab)
def hD (p : Str × Tab) : D := .tup [.str p.1, tabD p.2]
def deskD (t : Tab) (hs us : Hist) : List D := [.ob, tabD t, .lst (hs.map hD), .lst (us.map hD)]
theorem ob_desk {c : Nat} {t : Tab} {hs us : Hist} (h : s[c]? = some (deskD t hs us)) : obOf s (.cell c) = some (c, [tabD t, .lst (hs.map hD), .lst (us.map hD)]) := by
  unfold obOf
  simp only [h, deskD]
theorem fld0 {c : Nat} {t : Tab} {hs us : Hist} (h : s[c]? = some (deskD t hs us)) : fldD s (.cell c) 0 = .ok (tabD t) s := by unfold fldD; rw [ob_desk h]; rfl
theorem fld1 {c : Nat} {t : Tab} {hs us : Hist} (h : s[c]? = some (deskD t hs us)) : fldD s (.cell c) 1 = .ok (.lst (hs.map hD)) s := by unfold fldD; rw [ob_desk h]; rfl
theorem fld2 {c : Nat} {t : Tab} {hs us : Hist} (h : s[c]? = some (deskD t hs us)) : fldD s (.cell c) 2 = .ok (.lst (us.map hD)) s := by unfold fldD; rw [ob_desk h]; rfl
theorem put0 {c : Nat} {t t' : Tab} {hs us : Hist} {r : Env} (h : s[c]? = some (deskD t hs us)) : fldSK r s 0 (.cell c) (tabD t') = .ok (.next r) (s.set c (deskD t' hs us)) := by unfold fldSK; rw [ob_desk h]; rfl
theorem put1 {c : Nat} {t : Tab} {hs hs' us : Hist} {r : Env} (h : s[c]? = some (deskD t hs us)) : fldSK r s 1 (.cell c) (.lst (hs'.map hD)) = .ok (.next r) (s.set c (deskD t hs' us)) := by unfold fldSK; rw [ob_desk h]; rfl
theorem put2 {c : Nat} {t : Tab} {hs us us' : Hist} {r : Env} (h : s[c]? = some (deskD t hs us)) : fldSK r s 2 (.cell c) (.lst (us'.map hD)) = .ok (.next r) (s.set c (deskD t hs us')) := by unfold fldSK; rw [ob_desk h]; rfl
theorem put2n {c : Nat} {t : Tab} {hs us : Hist} {r : Env} (h : s[c]? = some (deskD t hs us)) : fldSK r s 2 (.cell c) (.lst []) = .ok (.next r) (s.set c (deskD t hs [])) := put2 (us' := []) h
theorem set_desk {c : Nat} {d d' : List D} (h : s[c]? = some d) : (s.set c d')[c]? = some d' := List.getElem?_set_self (List.getElem?_eq_some_iff.mp h).1
theorem set_set {c : Nat} {d d' : List D} : (s.set c d).set c d' = s.set c d' := by rw [List.set_set]
theorem run_init (t : Tab) (ht : TabOk t) (b : Sto) : run Pd W (n + 7) 200 [.cell b.length, tabD t] (b ++ [[.ob]]) = .ok .non (b ++ [deskD t [] []]) := by
  rw [call_of (d := m_init) rfl rfl]
  have e := run_need_table (W := W) (n := n) (s := b ++ [[.ob]]) t ht
  simp [m_init, e, fldSK, obOf, putFl, deskD]
theorem run_redo0 {c : Nat} {t : Tab} {hs : Hist} (h : s[c]? = some (deskD t hs [])) : run Pd W (n + 1) 208 [.cell c] s = .exc 11 s := by
  rw [call_of (d := m_redo) rfl rfl]
  simp [m_redo, fld2 h, shp, eqv, eqvAll]
theorem add_hist {hs : Hist} (p : Str × Tab) (hl : hs.length < 1000) : binD s .add (.lst (hs.map hD)) (.lst [hD p]) = .ok (.lst ((hs ++ [p]).map hD)) s := by
  rw [bin_addL, if_pos (by simp [sizeN]; omega), List.map_append]
  rfl
/-- a range of two ints -/
def okRO (a b : Int) : Bool := decide (-9 ≤ a) && (decide (a ≤ 9) && (decide (-9 ≤ b) && (decide (b ≤ 9) && decide (a ≤ b))))
theorem run_rangeI (a b : Int) : run Pd W (n + 3) 3 [.tup [.int a, .int b]] s = .ok (.bl (okRO a b)) s := by
  rw [call_of (d := c_is_range) rfl rfl]
  unfold okRO
  by_cases h1 : -9 ≤ a <;> by_cases h2 : a ≤ 9 <;> by_cases h3 : -9 ≤ b <;> by_cases h4 : b ≤ 9 <;> simp [c_is_range, itemK, run_is_whole, h1, h2, h3, h4]
theorem run_range_at {c : Nat} {t : Tab} {hs us : Hist} (h : s[c]? = some (deskD t hs us)) (ht : TabOk t) (i j : Nat) (hi : i < t.length) (hj : j < t.length) (x y : D) (b : Bool) (hr : run Pd W (n + 3) 3 [.tup [x, y]] s = .ok (.bl b) s) :
    run Pd W (n + 4) 202 [.cell c, .int i, .int j, x, y] s = if b then .ok (pD (ent t i j)) s else .exc 5 s := by
  rw [call_of (d := m_range_at) rfl rfl]
  have e1 := run_need_place (W := W) (n := n) (s := s) t i hi
  have e2 := run_need_place (W := W) (n := n) (s := s) t j hj
  have f0 := fld0 h
  have hrow : t[i]? = some (rowAt t i) := by unfold rowAt; rw [List.getD_eq_getElem?_getD, List.getElem?_eq_getElem hi]; rfl
  have hrl : (rowAt t i).length = t.length := ht.sq _ (List.mem_of_getElem? hrow)
  have hent : (rowAt t i)[j]? = some (ent t i j) := by unfold ent entAt; rw [List.getD_eq_getElem?_getD, List.getElem?_eq_getElem (by omega)]; rfl
  have e3 : subD s (tabD t) (.int i) = .ok (rowD (rowAt t i)) s := at_tab s hrow
  have e4 : subD s (rowD (rowAt t i)) (.int j) = .ok (pD (ent t i j)) s := by
    unfold rowD
    rw [sub_tup]
    exact at_nat s (by rw [List.getElem?_map, hent]; rfl)
  cases b <;> simp [m_range_at, f0, e1, e2, hr, e3, e4]
end Rt
set_option maxHeartbeats 1000000
namespace Rt
open PySem
variable {W n : Nat} {s : Sto}
theorem row_at {t : Tab} {i : Nat} (hi : i < t.length) : t[i]? = some (rowAt t i) := by unfold rowAt; rw [List.getD_eq_getElem?_getD, List.getElem?_eq_getElem hi]; rfl
theorem row_mem {t : Tab} {i : Nat} (hi : i < t.length) : rowAt t i ∈ t := List.mem_of_getElem? (row_at hi)
theorem okRO_iff {a b : Int} : okRO a b = true ↔ -9 ≤ a ∧ a ≤ b ∧ b ≤ 9 := by
  unfold okRO
  simp only [Bool.and_eq_true, decide_eq_true_eq]
  omega
theorem sq_of {t : Tab} (ht : TabOk t) : Sq t.length t := ⟨rfl, fun r hr => ht.sq r hr⟩
theorem putT_len (t : Tab) (i j : Nat) (p : Int × Int) : (putT t i j p).length = t.length := by simp [putT]
theorem putT_ok {t : Tab} (ht : TabOk t) {i j : Nat} (hi : i < t.length) {p : Int × Int} (hp : -9 ≤ p.1 ∧ p.1 ≤ p.2 ∧ p.2 ≤ 9) : TabOk (putT t i j p) := by
  have hl := putT_len t i j p
  refine ⟨by rw [hl]; exact ht.lo, by rw [hl]; exact ht.hi, fun row hr => ?_, fun row hr q hq => ?_⟩
  · rw [hl]
    rcases List.mem_or_eq_of_mem_set hr with z | z
    · exact ht.sq row z
    · rw [z, List.length_set]; exact ht.sq _ (row_mem hi)
  · rcases List.mem_or_eq_of_mem_set hr with z | z
    · exact ht.rg row z q hq
    · rw [z] at hq
      rcases List.mem_or_eq_of_mem_set hq with z2 | z2
      · exact ht.rg _ (row_mem hi) q z2
      · rw [z2]; exact hp
def endsD (t : Tab) : D := .tup [.int (minV (vals t)), .int (maxV (vals t))]
theorem run_perform {c : Nat} {t : Tab} {hs us : Hist} (h : s[c]? = some (deskD t hs us)) (ht : TabOk t) (nm : Str) (i j : Nat) (hi : i < t.length) (hj : j < t.length) (p : Int × Int) (hp : -9 ≤ p.1 ∧ p.1 ≤ p.2 ∧ p.2 ≤ 9) (hl : hs.length < 1000) :
    run Pd W (n + 6) 201 [.cell c, .str nm, .int i, .int j, pD p] s = .ok (endsD (putT t i j p)) (s.set c (deskD (putT t i j p) (hs ++ [(nm, t)]) [])) := by
  rw [call_of (d := m_perform) rfl rfl]
  have h1 := set_desk (d' := deskD t (hs ++ [(nm, t)]) us) h
  have h2 := set_desk (d' := deskD t (hs ++ [(nm, t)]) []) h1
  have h3 := set_desk (d' := deskD (putT t i j p) (hs ++ [(nm, t)]) []) h2
  simp only [List.set_set] at h2 h3
  have f1 := fld1 h
  have f0 := fld0 h
  have f0b := fld0 h2
  have f0c := fld0 h3
  have e7 : D.tup [.str nm, tabD t] = hD (nm, t) := rfl
  have e6 := add_hist (s := s) (hs := hs) (nm, t) hl
  have ok := putT_ok ht (j := j) hi hp
  have e1 := run_putT (W := W) (n := n + 4) (s := s.set c (deskD t (hs ++ [(nm, t)]) [])) t i j p (sq_of ht) ht.hi hi hj
  have e2 := run_ends_of (W := W) (n := n) (s := s.set c (deskD (putT t i j p) (hs ++ [(nm, t)]) [])) (putT t i j p) ok.shp ok.bdT
  have p1 := put1 (hs' := hs ++ [(nm, t)]) (r := [.val (.cell c), .val (.str nm), .val (.int i), .val (.int j), .val (pD p)]) h
  have p2 := put2n (r := [.val (.cell c), .val (.str nm), .val (.int i), .val (.int j), .val (pD p)]) h1
  have p0 := put0 (t' := putT t i j p) (r := [.val (.cell c), .val (.str nm), .val (.int i), .val (.int j), .val (pD p)]) h2
  simp only [List.set_set] at p2 p0
  simp [-List.map_append, m_perform, f1, f0, e7, e6, p1, p2, f0b, e1, p0, f0c, e2, endsD]
theorem some_desk {c : Nat} {t : Tab} {hs us : Hist} (h : s[c]? = some (deskD t hs us)) : (obOf s (.cell c)).isSome = true := by rw [ob_desk h]; rfl
theorem run_narrow {c : Nat} {t : Tab} {hs us : Hist} (h : s[c]? = some (deskD t hs us)) (ht : TabOk t) (i j : Nat) (hi : i < t.length) (hj : j < t.length) (a b : Int) (hl : hs.length < 1000) :
    run Pd W (n + 7) 203 [.cell c, .int i, .int j, .int a, .int b] s = if okRO a b && (decide ((ent t i j).1 ≤ a) && decide (b ≤ (ent t i j).2)) then .ok (endsD (putT t i j (a, b))) (s.set c (deskD (putT t i j (a, b)) (hs ++ [(("narrow" : Str), t)]) [])) else .exc 5 s := by
  rw [call_of (d := m_narrow) rfl rfl]
  have e1 := run_range_at (W := W) (n := n + 2) h ht i j hi hj (.int a) (.int b) (okRO a b) (run_rangeI a b)
  have so := some_desk h
  cases ho : okRO a b with
  | false =>
    rw [ho] at e1
    simp [m_narrow, so, e1]
  | true =>
    rw [ho] at e1
    have hp := okRO_iff.mp ho
    have e2 := run_perform (W := W) (n := n) h ht "narrow" i j hi hj (a, b) hp hl
    have e3 : pD (a, b) = .tup [.int a, .int b] := rfl
    rw [e3] at e2
    have e4 : pD (ent t i j) = .tup [.int (ent t i j).1, .int (ent t i j).2] := rfl
    rw [e4] at e1
    by_cases h1 : a < (ent t i j).1
    · simp [m_narrow, so, e1, h1, show ¬ (ent t i j).1 ≤ a by omega]
    · by_cases h2 : (ent t i j).2 < b
      · simp [m_narrow, so, e1, h1, h2, show ¬ b ≤ (ent t i j).2 by omega]
      · simp [m_narrow, so, e1, h1, h2, e2, show (ent t i j).1 ≤ a by omega, show b ≤ (ent t i j).2 by omega]
end Rt
set_option maxHeartbeats 1000000
namespace Rt
open PySem TL
variable {W n : Nat} {s : Sto}
def oneT (b : Int) : Tab := [[(b, 9)]]
def twoT (b : Int) : Tab := [[(0, 1), (0, b)], [(0, 0), (1, 1)]]
theorem oneT_ok {b : Int} (h1 : 1 ≤ b) (h2 : b ≤ 8) : TabOk (oneT b) := by
  refine ⟨by simp [oneT], by simp [oneT], fun row hr => ?_, fun row hr p hp => ?_⟩
  · simp [oneT] at hr; subst hr; rfl
  · simp [oneT] at hr; subst hr
    simp at hp; subst hp
    exact ⟨by show -9 ≤ b; omega, by show b ≤ 9; omega, Int.le_refl _⟩
theorem twoT_ok {b : Int} (h1 : 1 ≤ b) (h2 : b ≤ 8) : TabOk (twoT b) := by
  refine ⟨by simp [twoT], by simp [twoT], fun row hr => ?_, fun row hr p hp => ?_⟩
  · simp [twoT] at hr
    rcases hr with z | z <;> subst z <;> rfl
  · simp [twoT] at hr
    rcases hr with z | z <;> subst z <;> simp at hp <;> rcases hp with z | z <;> subst z <;> refine ⟨?_, ?_, ?_⟩ <;> simp <;> omega
theorem zeroT_ok {b : Int} (h1 : 1 ≤ b) (h2 : b ≤ 8) : TabOk [[(0, b)]] := by
  refine ⟨by simp, by simp, fun row hr => ?_, fun row hr p hp => ?_⟩
  · simp at hr; subst hr; rfl
  · simp at hr; subst hr
    simp at hp; subst hp
    exact ⟨by show (-9 : Int) ≤ 0; decide, by show 0 ≤ b; omega, by show b ≤ 9; omega⟩
theorem x0 {m : Int} (h : 10 ≤ m) : run Pd W (n + 7) 81 [.tup [.tup [.tup [.int 0, .int m]]]] s = .exc 0 s := by
  have e : run Pd W (n + 5) 5 [tabD [[(0, m)]]] s = .ok (.bl false) s := by
    rw [run_table_any]
    have : tabB [[(0, m)]] = false := by
      simp [tabB, rowOkB, okR]
      omega
    rw [this]
  have e2 := need_no (W := W) (n := n) (s := s) _ e
  have e3 : tabD [[(0, m)]] = .tup [.tup [.tup [.int 0, .int m]]] := rfl
  rw [e3] at e2
  rw [call_of (d := c_margin) rfl rfl]
  simp [c_margin, e2]
theorem x1 {m b : Int} (h : 10 ≤ m) (h1 : 1 ≤ b) (h2 : b ≤ 8) : run Pd W (n + 9) 89 [tabD (oneT b), .tup [.tup [.int 0, .int m]], .int 0] s = .exc 1 s := by
  refine range_exc9 _ _ _ 1 (system_right _ (oneT_ok h1 h2) _ _ ?_)
  have e := run_row_any (W := W) (n := n + 2) (s := s) [(0, m)] 1 (by decide)
  have : rowOkB 1 [(0, m)] = false := by
    simp [rowOkB, okR]
    omega
  rw [this] at e
  exact e
theorem x2 {m b : Int} (h1 : 1 ≤ b) (h2 : b ≤ 8) : run Pd W (n + 8) 103 [tabD (oneT b), .tup [.tup [.int 0, .int 1]], .tup [.tup [.int m, .int 0]]] s = .exc 2 s := by
  refine solved_exc (oneT b) (oneT_ok h1 h2) [(0, 1)] ?_ _ ?_
  · refine ⟨rfl, fun p hp => ?_⟩
    simp at hp
    subst hp
    decide
  · exact need_vec_rep (W := W) (n := n + 2) (s := s) (oneT b) (Nat.le_refl 1) (by simp [oneT]) (.tup [.int m, .int 0]) (short_no _ (frac_zero m))
theorem place_big (t : Tab) {m : Int} (h : (t.length : Int) ≤ m) : run Pd W (n + 3) 69 [tabD t, .int m] s = .exc 3 s := by
  have e : run Pd W (n + 2) 2 [.int m, .int 0, .int ((t.length : Int) - 1)] s = .ok (.bl false) s := by
    rw [run_is_whole]
    have : (decide ((0 : Int) ≤ m) && decide (m ≤ (t.length : Int) - 1)) = false := by simp; omega
    rw [this]
  rw [call_of (d := c_need_place) rfl rfl]
  simp [c_need_place, len_tab, e]
theorem x3 {m b : Int} (h : 10 ≤ m) (h1 : 1 ≤ b) (h2 : b ≤ 8) : run Pd W (n + 9) 75 [tabD (oneT b), .int 0, .int m] s = .exc 3 s := by
  have ht := oneT_ok h1 h2
  refine range_exc _ _ _ 3 ?_
  have h0 : run Pd W (n + 7) 69 [tabD (oneT b), .int 0] s = .ok .non s := run_need_place (W := W) (n := n + 4) (s := s) (oneT b) 0 Nat.zero_lt_one
  have hm := place_big (W := W) (n := n + 4) (s := s) (oneT b) (m := m) (by simp [oneT]; omega)
  rw [call_of (d := c_need_inverse) rfl rfl]
  simp [c_need_inverse, run_need_table (oneT b) ht, h0, hm]
theorem x4 {m b : Int} (h : 10 ≤ m) (h1 : 1 ≤ b) (h2 : b ≤ 8) : run Pd W (n + 7) 132 [tabD (oneT b), .int m] s = .exc 4 s := by
  have e : run Pd W (n + 6) 2 [.int m, .int (-9), .int 9] s = .ok (.bl false) s := by
    rw [run_is_whole]
    have : (decide ((-9 : Int) ≤ m) && decide (m ≤ 9)) = false := by simp; omega
    rw [this]
  rw [call_of (d := c_times) rfl rfl]
  simp [c_times, run_need_table (oneT b) (oneT_ok h1 h2), e]
theorem x5 {b : Int} (h1 : 1 ≤ b) (h2 : b ≤ 8) {c : Nat} (h : s[c]? = some (deskD (oneT b) [] [])) : run Pd W (n + 7) 203 [.cell c, .int 0, .int 0, .int 0, .int b] s = .exc 5 s := by
  have e := run_narrow (W := W) (n := n) h (oneT_ok h1 h2) 0 0 Nat.zero_lt_one Nat.zero_lt_one 0 b (by decide)
  have e2 : (ent (oneT b) 0 0).1 = b := rfl
  rw [e2] at e
  have : (decide (b ≤ 0)) = false := by simp; omega
  rw [this] at e
  simpa using e
theorem mul_dots : ∀ k : Nat, k < 90 → tl (Txt.mul "." (10 + (k : Int))) = List.replicate (k + 10) 46 := by decide +kernel
theorem spl_dots {S : List Nat} (h : ∀ r, pre S (46 :: r) = false) : ∀ (k : Nat) (acc : List Nat), spl S 0 acc (List.replicate k 46) = [acc ++ List.replicate k 46]
  | 0, acc => by rw [List.replicate_zero, spl_nil, List.append_nil]
  | k + 1, acc => by
    rw [List.replicate_succ, spl_miss (h _), spl_dots h k, List.append_assoc]
    rfl
theorem split_one {w y : Str} {k : Nat} (hw : tl w = List.replicate k 46) (hy : Sep y) (h : ∀ r, pre (tl y) (46 :: r) = false) : Txt.split w y = [w] := by
  have e := split_spl w y hy.ne (kind_ok hy.sm)
  rw [hw, spl_dots h, List.nil_append, ← hw] at e
  match hz : Txt.split w y, e with
  | [z], e =>
    have : tl z = tl w := by simpa using e
    rw [ext_tl this]
  | z :: z2 :: r, e => exact absurd (congrArg List.length e) (by simp)
  | [], e => cases e
theorem no_dots {w : Str} {k : Nat} (hw : tl w = List.replicate (k + 2) 46) : tabP w = none := by
  have e1 := split_one hw sep_sc (fun r => by rw [show tl ("; " : Str) = [59, 32] by decide +kernel]; rfl)
  have e2 := split_one hw sep_sp (fun r => by rw [show tl (" " : Str) = [32] by decide +kernel]; rfl)
  have e3 := split_spl w ".." sep_dd.ne (kind_ok sep_dd.sm)
  have hp : pre (tl (".." : Str)) (46 :: 46 :: List.replicate k 46) = true := by
    rw [show tl (".." : Str) = [46, 46] by decide +kernel]; rfl
  rw [hw, List.replicate_succ, List.replicate_succ, spl_hit hp] at e3
  have e4 : mapO numP (Txt.split w "..") = none := by
    match hz : Txt.split w "..", e3 with
    | z :: r, e3 =>
      have : tl z = [] := by
        rw [List.map_cons] at e3
        exact (List.cons.inj e3).1
      have e5 : numP z = none := by unfold numP; rw [this]
      simp [mapO, e5]
    | [], e3 => cases e3
  unfold tabP rowsP
  rw [e1]
  simp [mapO, rowP, e2, rngP, e4]
theorem x6 {m : Int} (h : 10 ≤ m) (h3 : m ≤ 99) : run Pd W (n + 6) 148 [.str (Txt.mul "." m)] s = .exc 6 s := by
  obtain ⟨k, hk⟩ : ∃ k : Nat, m = 10 + (k : Int) := ⟨(m - 10).toNat, by omega⟩
  subst hk
  have e := mul_dots k (by omega)
  rw [run_parse ⟨by rw [len_tl, e, List.length_replicate]; omega, fun c hc => ?_⟩, no_dots (k := k + 8) e]
  · rfl
  · rw [e] at hc
    rw [List.eq_of_mem_replicate hc]
    decide
theorem x7 {b : Int} (h1 : 1 ≤ b) (h2 : b ≤ 8) : run Pd W (n + 9) 76 [.tup [.tup [.tup [.int 0, .int b]]], .int 0, .int 0] s = .exc 7 s := by
  have h : b = 1 ∨ b = 2 ∨ b = 3 ∨ b = 4 ∨ b = 5 ∨ b = 6 ∨ b = 7 ∨ b = 8 := by omega
  have inv : invB [[(0, b)]] = false := by
    rcases h with z | z | z | z | z | z | z | z <;> subst z <;> decide +kernel
  exact corner_exc _ _ _ 7 (need_inverse_sing [[(0, b)]] (zeroT_ok h1 h2) inv 0 0 Nat.zero_lt_one Nat.zero_lt_one)
theorem x8 {b : Int} (h1 : 1 ≤ b) (h2 : b ≤ 8) : run Pd W (n + 8) 119 [tabD (twoT b)] s = .exc 8 s := by
  have h : b = 1 ∨ b = 2 ∨ b = 3 ∨ b = 4 ∨ b = 5 ∨ b = 6 ∨ b = 7 ∨ b = 8 := by omega
  refine all_positive_no (twoT b) (twoT_ok h1 h2) ?_
  rcases h with z | z | z | z | z | z | z | z <;> subst z <;> decide +kernel
theorem x9 {b : Int} (h1 : 1 ≤ b) (h2 : b ≤ 8) : run Pd W (n + 7) 130 [tabD (oneT b), tabD (twoT b)] s = .exc 9 s :=
  plus_unlike (oneT b) (twoT b) (oneT_ok h1 h2) (twoT_ok h1 h2) (by simp [oneT, twoT])
theorem x10 {b : Int} (h1 : 1 ≤ b) (h2 : b ≤ 8) : run Pd W (n + 7) 130 [tabD (oneT b), tabD (oneT b)] s = .exc 10 s := by
  have h : b = 1 ∨ b = 2 ∨ b = 3 ∨ b = 4 ∨ b = 5 ∨ b = 6 ∨ b = 7 ∨ b = 8 := by omega
  have e := run_plus (W := W) (n := n) (s := s) (oneT b) (oneT b) (oneT_ok h1 h2) (oneT_ok h1 h2) rfl
  have e2 : tableB (sumT (oneT b) (oneT b)) = false := by
    rcases h with z | z | z | z | z | z | z | z <;> subst z <;> decide +kernel
  rw [e2] at e
  simpa using e
theorem x11 {b : Int} {c : Nat} (h : s[c]? = some (deskD (oneT b) [] [])) : run Pd W (n + 1) 208 [.cell c] s = .exc 11 s := run_redo0 h
end Rt
set_option maxHeartbeats 1000000
namespace Rt
open PySem
variable {W n : Nat} {s : Sto}
theorem ev_metX (F : Nat → List D → Sto → Res D) (r : Env) (e : E) : ev F (.met e) r s = metD (ev F e r s) := by rw [ev]
theorem metD_exc {c : Nat} (h : c < 12) : metD (.exc c s) = .ok (.exc c) s := if_pos h
theorem alone {c : Nat} (h : c < 12) : run Pd W (n + 1) 154 [.exc c, .int c] s = .ok (.bl true) s := by
  have : c = 0 ∨ c = 1 ∨ c = 2 ∨ c = 3 ∨ c = 4 ∨ c = 5 ∨ c = 6 ∨ c = 7 ∨ c = 8 ∨ c = 9 ∨ c = 10 ∨ c = 11 := by omega
  rcases this with z | z | z | z | z | z | z | z | z | z | z | z <;> subst z <;> rfl
/-- the twelve, met -/
def metL : List D := (List.range 12).map D.exc
theorem all_alone (F : Nat → List D → Sto → Res D) (r : Env) (hr : 8 < r.length) (h : ∀ c, c < 12 → F 154 [.exc c, .int c] s = .ok (.bl true) s) :
    mapR (itemK F (.tup2 (.name 7) (.name 8)) .none (.call 154 (.cons (.var 8) (.cons (.var 7) .nil))) r) (enumD 0 metL) s = .ok ((List.range 12).map fun _ => D.bl true) s := by
  have e : enumD 0 metL = (List.range 12).map fun (i : Nat) => D.tup [.int i, .exc i] := by rfl
  rw [e]
  refine mapR_all (φ := fun (i : Nat) => D.tup [.int i, .exc i]) (fun _ => D.bl true) fun c hc => ?_
  have hc := h c (List.mem_range.mp hc)
  have g7 : getV ((r.set 7 (.val (.int c))).set 8 (.val (.exc c))) 7 = some (.int c) := by
    unfold getV
    rw [List.getElem?_set_ne (by decide), List.getElem?_set_self (by omega)]
  have g8 : getV ((r.set 7 (.val (.int c))).set 8 (.val (.exc c))) 8 = some (.exc c) := by
    unfold getV
    rw [List.getElem?_set_self (by rw [List.length_set]; omega)]
  simp [itemK, bindT, g7, g8, hc]
/-- the law's parts -/
def q0 : E := (.call 81 (.cons (.tup (.cons (.tup (.cons (.tup (.cons (.int 0) (.cons (.var 2) .nil))) .nil)) .nil)) .nil))
def q1 : E := (.call 89 (.cons (.var 4) (.cons (.tup (.cons (.tup (.cons (.int 0) (.cons (.var 2) .nil))) .nil)) (.cons (.int 0) .nil))))
def q2 : E := (.call 103 (.cons (.var 4) (.cons (.tup (.cons (.tup (.cons (.int 0) (.cons (.int 1) .nil))) .nil)) (.cons (.tup (.cons (.tup (.cons (.var 2) (.cons (.int 0) .nil))) .nil)) .nil))))
def q3 : E := (.call 75 (.cons (.var 4) (.cons (.int 0) (.cons (.var 2) .nil))))
def q4 : E := (.call 132 (.cons (.var 4) (.cons (.var 2) .nil)))
def q5 : E := (.meth 203 (.make 200 (.cons (.var 4) .nil)) (.cons (.int 0) (.cons (.int 0) (.cons (.int 0) (.cons (.var 3) .nil)))))
def q6 : E := (.call 148 (.cons (.bin .mul (.str ".") (.var 2)) .nil))
def q7 : E := (.call 76 (.cons (.tup (.cons (.tup (.cons (.tup (.cons (.int 0) (.cons (.var 3) .nil))) .nil)) .nil)) (.cons (.int 0) (.cons (.int 0) .nil))))
def q8 : E := (.call 119 (.cons (.var 5) .nil))
def q9 : E := (.call 130 (.cons (.var 4) (.cons (.var 5) .nil)))
def q10 : E := (.call 130 (.cons (.var 4) (.cons (.var 4) .nil)))
def q11 : E := (.meth 208 (.make 200 (.cons (.var 4) .nil)) .nil)
def tail21 : Ss := (.cons (.frz 6) (.cons (.ifs (.not (.bi .all (.cons (.comp (.tup2 (.name 7) (.name 8)) (.enum (.var 6)) .none (.call 154 (.cons (.var 8) (.cons (.var 7) .nil))) [7, 8]) .nil))) (.cons (.ret (.bl false)) .nil) .nil) .nil))
def rest21 : Ss := (.cons (.asgL 6 (.cons (.met q0) .nil)) (.cons (.app 6 (.met q1)) (.cons (.app 6 (.met q2)) (.cons (.app 6 (.met q3)) (.cons (.app 6 (.met q4)) (.cons (.app 6 (.met q5)) (.cons (.app 6 (.met q6)) (.cons (.app 6 (.met q7)) (.cons (.app 6 (.met q8)) (.cons (.app 6 (.met q9)) (.cons (.app 6 (.met q10)) (.cons (.app 6 (.met q11)) tail21))))))))))))
theorem law21 : c_law_155 = ⟨1, 9, (.cons (.fors (.name 1) (.val (.call 13 (.cons (.var 0) (.cons (.int 4) .nil)))) (.cons (.unp (.tup2 (.name 2) (.name 3)) (.tup (.cons (.bin .add (.int 10) (.call 12 (.cons (.var 1) (.cons (.int 90) .nil)))) (.cons (.bin .add (.int 1) (.call 12 (.cons (.var 1) (.cons (.int 8) .nil)))) .nil)))) (.cons (.unp (.tup2 (.name 4) (.name 5)) (.tup (.cons (.tup (.cons (.tup (.cons (.tup (.cons (.var 3) (.cons (.int 9) .nil))) .nil)) .nil)) (.cons (.tup (.cons (.tup (.cons (.tup (.cons (.int 0) (.cons (.int 1) .nil))) (.cons (.tup (.cons (.int 0) (.cons (.var 3) .nil))) .nil))) (.cons (.tup (.cons (.tup (.cons (.int 0) (.cons (.int 0) .nil))) (.cons (.tup (.cons (.int 1) (.cons (.int 1) .nil))) .nil))) .nil))) .nil)))) rest21))) (.cons (.ret (.bl true)) .nil))⟩ := rfl
section
variable (ns : D) (i : Nat) (m b : Int) (x7 x8 : Slot)
abbrev env21 (x6 : Slot) : Env := [.val ns, .val (.cell i), .val (.int m), .val (.int b), .val (tabD (oneT b)), .val (tabD (twoT b)), x6, x7, x8]
theorem app_met {F : Nat → List D → Sto → Res D} {e : E} {rest : Ss} {ds : List D} {c : Nat} {s' : Sto} (h : ev F e (env21 ns i m b x7 x8 (.own ds)) s = .exc c s') (hc : c < 12) (hl : ds.length < 20) :
    execs F W (.cons (.app 6 (.met e)) rest) (env21 ns i m b x7 x8 (.own ds)) s = execs F W rest (env21 ns i m b x7 x8 (.own (ds ++ [.exc c]))) s' := by
  have hz : ds.length < sizeN := by rw [show sizeN = 1000000 from rfl]; omega
  have e2 : exec F W (.app 6 (.met e)) (env21 ns i m b x7 x8 (.own ds)) s = .ok (.next (env21 ns i m b x7 x8 (.own (ds ++ [.exc c])))) s' := by
    rw [exec]
    show (Res.bind (ev F (.met e) (env21 ns i m b x7 x8 (.own ds)) s) fun x s => if ds.length < sizeN then Res.ok (Flow.next (env21 ns i m b x7 x8 (.own (ds ++ [x])))) s else Res.bad) = _
    rw [ev_metX, h, metD_exc hc, Res.bind_ok, if_pos hz]
  rw [execs, e2]
  rfl
theorem first_met {F : Nat → List D → Sto → Res D} {e : E} {rest : Ss} {x6 : Slot} {c : Nat} {s' : Sto} (h : ev F e (env21 ns i m b x7 x8 x6) s = .exc c s') (hc : c < 12) :
    execs F W (.cons (.asgL 6 (.cons (.met e) .nil)) rest) (env21 ns i m b x7 x8 x6) s = execs F W rest (env21 ns i m b x7 x8 (.own [.exc c])) s' := by
  have e2 : exec F W (.asgL 6 (.cons (.met e) .nil)) (env21 ns i m b x7 x8 x6) s = .ok (.next (env21 ns i m b x7 x8 (.own [.exc c]))) s' := by
    rw [exec, evs, ev_metX, h, metD_exc hc, Res.bind_ok, evs]
    rfl
  rw [execs, e2]
  rfl
end
end Rt
set_option maxHeartbeats 1000000
namespace Rt
open PySem
variable {W n : Nat} {s : Sto}
section
variable {ns : D} {i : Nat} {m b : Int} {x6 x7 x8 : Slot}
theorem q0_is (h : 10 ≤ m) : ev (run Pd W (n + 9)) q0 (env21 ns i m b x7 x8 x6) s = .exc 0 s := by
  have e := x0 (W := W) (n := n + 2) (s := s) h
  simp [q0, e]
theorem q1_is (h : 10 ≤ m) (h1 : 1 ≤ b) (h2 : b ≤ 8) : ev (run Pd W (n + 9)) q1 (env21 ns i m b x7 x8 x6) s = .exc 1 s := by
  have e := x1 (W := W) (n := n) (s := s) h h1 h2
  simp [q1, e]
theorem q2_is (h1 : 1 ≤ b) (h2 : b ≤ 8) : ev (run Pd W (n + 9)) q2 (env21 ns i m b x7 x8 x6) s = .exc 2 s := by
  have e := x2 (W := W) (n := n + 1) (s := s) (m := m) h1 h2
  simp [q2, e]
theorem q3_is (h : 10 ≤ m) (h1 : 1 ≤ b) (h2 : b ≤ 8) : ev (run Pd W (n + 9)) q3 (env21 ns i m b x7 x8 x6) s = .exc 3 s := by
  have e := x3 (W := W) (n := n) (s := s) h h1 h2
  simp [q3, e]
theorem q4_is (h : 10 ≤ m) (h1 : 1 ≤ b) (h2 : b ≤ 8) : ev (run Pd W (n + 9)) q4 (env21 ns i m b x7 x8 x6) s = .exc 4 s := by
  have e := x4 (W := W) (n := n + 2) (s := s) h h1 h2
  simp [q4, e]
theorem new_desk : (s ++ [deskD (oneT b) [] []])[s.length]? = some (deskD (oneT b) [] []) := by simp
theorem q5_is (h1 : 1 ≤ b) (h2 : b ≤ 8) : ev (run Pd W (n + 9)) q5 (env21 ns i m b x7 x8 x6) s = .exc 5 (s ++ [deskD (oneT b) [] []]) := by
  have e1 := run_init (W := W) (n := n + 2) (oneT b) (oneT_ok h1 h2) s
  have hd := new_desk (s := s) (b := b)
  have so := some_desk hd
  have e := x5 (W := W) (n := n + 2) h1 h2 hd
  simp [q5, e1, makeK, isNon, so, e]
theorem q6_is (h : 10 ≤ m) (h3 : m ≤ 99) : ev (run Pd W (n + 9)) q6 (env21 ns i m b x7 x8 x6) s = .exc 6 s := by
  have e := Rt.x6 (W := W) (n := n + 3) (s := s) h h3
  have e2 : binD s .mul (.str ".") (.int m) = .ok (.str (Txt.mul "." m)) s := if_pos ⟨by omega, by omega, by decide +kernel⟩
  simp [q6, e, e2]
theorem q7_is (h1 : 1 ≤ b) (h2 : b ≤ 8) : ev (run Pd W (n + 9)) q7 (env21 ns i m b x7 x8 x6) s = .exc 7 s := by
  have e := Rt.x7 (W := W) (n := n) (s := s) h1 h2
  simp [q7, e]
theorem q8_is (h1 : 1 ≤ b) (h2 : b ≤ 8) : ev (run Pd W (n + 9)) q8 (env21 ns i m b x7 x8 x6) s = .exc 8 s := by
  have e := Rt.x8 (W := W) (n := n + 1) (s := s) h1 h2
  simp [q8, e]
theorem q9_is (h1 : 1 ≤ b) (h2 : b ≤ 8) : ev (run Pd W (n + 9)) q9 (env21 ns i m b x7 x8 x6) s = .exc 9 s := by
  have e := x9 (W := W) (n := n + 2) (s := s) h1 h2
  simp [q9, e]
theorem q10_is (h1 : 1 ≤ b) (h2 : b ≤ 8) : ev (run Pd W (n + 9)) q10 (env21 ns i m b x7 x8 x6) s = .exc 10 s := by
  have e := x10 (W := W) (n := n + 2) (s := s) h1 h2
  simp [q10, e]
theorem q11_is (h1 : 1 ≤ b) (h2 : b ≤ 8) : ev (run Pd W (n + 9)) q11 (env21 ns i m b x7 x8 x6) s = .exc 11 (s ++ [deskD (oneT b) [] []]) := by
  have e1 := run_init (W := W) (n := n + 2) (oneT b) (oneT_ok h1 h2) s
  have hd := new_desk (s := s) (b := b)
  have so := some_desk hd
  have e := x11 (W := W) (n := n + 8) hd
  simp [q11, e1, makeK, isNon, so, e]
theorem tail_is : execs (run Pd W (n + 9)) W tail21 (env21 ns i m b x7 x8 (.own metL)) s = .ok (.next (env21 ns i m b x7 x8 (.val (.lst metL)))) s := by
  have e := all_alone (s := s) (run Pd W (n + 9)) (wipeE (env21 ns i m b x7 x8 (.val (.lst metL))) [7, 8]) (by simp [wipeE]) fun c hc => alone (W := W) (n := n + 8) (s := s) hc
  have e2 : boolsD ((List.range 12).map fun _ => D.bl true) = some ((List.range 12).map fun _ => true) := rfl
  have e3 : ((List.range 12).map fun _ => true).all id = true := rfl
  have e4 : (List.range 12).length ≤ sizeN := by rw [show sizeN = 1000000 from rfl]; decide
  simp only [tail21]
  simp [wipeE] at e ⊢
  simp [e]
  rw [e2]
  rfl
theorem rest_is (h : 10 ≤ m) (h3 : m ≤ 99) (h1 : 1 ≤ b) (h2 : b ≤ 8) : execs (run Pd W (n + 9)) W rest21 (env21 ns i m b x7 x8 x6) s = .ok (.next (env21 ns i m b x7 x8 (.val (.lst metL)))) (s ++ [deskD (oneT b) [] []] ++ [deskD (oneT b) [] []]) := by
  unfold rest21
  rw [first_met ns i m b x7 x8 (q0_is h) (by decide),
    app_met ns i m b x7 x8 (q1_is h h1 h2) (by decide) (by decide),
    app_met ns i m b x7 x8 (q2_is h1 h2) (by decide) (by decide),
    app_met ns i m b x7 x8 (q3_is h h1 h2) (by decide) (by decide),
    app_met ns i m b x7 x8 (q4_is h h1 h2) (by decide) (by decide),
    app_met ns i m b x7 x8 (q5_is h1 h2) (by decide) (by decide),
    app_met ns i m b x7 x8 (q6_is h h3) (by decide) (by decide),
    app_met ns i m b x7 x8 (q7_is h1 h2) (by decide) (by decide),
    app_met ns i m b x7 x8 (q8_is h1 h2) (by decide) (by decide),
    app_met ns i m b x7 x8 (q9_is h1 h2) (by decide) (by decide),
    app_met ns i m b x7 x8 (q10_is h1 h2) (by decide) (by decide),
    app_met ns i m b x7 x8 (q11_is h1 h2) (by decide) (by decide)]
  exact tail_is
end
def law21I (L : Nat) (ns : List Int) (k : Nat) (r : Env) (s : Sto) : Prop := ∃ (b : Sto) (x1 x2 x3 x4 x5 x6 x7 x8 : Slot), r = [.val (.lst (ns.map D.int)), x1, x2, x3, x4, x5, x6, x7, x8] ∧ DiceB b L s
theorem k21_run (hW : Big W) (ns : List Int) (hl : ns.length ≤ 63) : ∃ st, run Pd W (n + 10) 155 [.lst (ns.map D.int)] [] = .ok (.bl true) st := by
  have key : Wp (run Pd W (n + 10) 155 [.lst (ns.map D.int)] []) (fun v _ => v = .bl true) := by
    rw [call_of (d := c_law_155) rfl rfl]
    obtain ⟨L, s1, e1, d1, _⟩ := run_rounds (W := W) (n := n + 7) ns 4 (by omega) (by omega) (by omega)
    rw [law21]
    simp [e1]
    refine wp_for (law21I L ns) ⟨[], _, _, _, _, _, _, _, _, rfl, DiceB.of d1⟩ (fun k d hd r s hI => ?_) (fun r s hI => ?_)
    · obtain ⟨b, x1, x2, x3, x4, x5, x6, x7, x8, rfl, hs⟩ := hI
      obtain ⟨i, hi, rfl⟩ := map_get hd
      have hiL : i < L := by have := List.mem_of_getElem? hi; simpa using this
      simp [roundK]
      refine wp_rollO hs hiL 90 (by omega) (by omega) fun a s2 h2 a0 a1 => ?_
      simp
      refine wp_rollO h2 hiL 8 (by omega) (by omega) fun o s3 h3 o0 o1 => ?_
      have e := rest_is (W := W) (n := n) (s := s3) (ns := .lst (ns.map D.int)) (i := i) (m := 10 + a) (b := 1 + o) (x6 := x6) (x7 := x7) (x8 := x8) (by omega) (by omega) (by omega) (by omega)
      have fin : law21I L ns (k + 1) (env21 (.lst (ns.map D.int)) i (10 + a) (1 + o) x7 x8 (.val (.lst metL))) (s3 ++ [deskD (oneT (1 + o)) [] []] ++ [deskD (oneT (1 + o)) [] []]) :=
        ⟨_, _, _, _, _, _, _, _, _, rfl, (h3.add _).add _⟩
      generalize hS : s3 ++ [deskD (oneT (1 + o)) [] []] ++ [deskD (oneT (1 + o)) [] []] = s4 at e fin
      simp
      show Wp (execs (run Pd W (n + 9)) W rest21 (env21 (.lst (ns.map D.int)) i (10 + a) (1 + o) x7 x8 x6) s3) _
      rw [e]
      exact fin
    · obtain ⟨b, x1, x2, x3, x4, x5, x6, x7, x8, rfl, hs⟩ := hI
      simp
  obtain ⟨v, s', e, rfl⟩ := wp_iff.mp key
  exact ⟨s', e⟩
end Rt
set_option maxHeartbeats 0
namespace Rt
open PySem PySem.Spec PyProof.Rows L2
def cs : List Nat := all12
theorem ck : ents.all (ckEnt ents (exnOf cs)) = true := by decide +kernel
theorem ok0 : EntOk Pd ⟨152, "_wall", ["k"], ["k"], c_wall, topS 0, false, "_wall", ("_wall", none)⟩ := ⟨rfl, fun _ _ _ _ _ _ us hl => match us, hl with | [_], _ => rfl⟩
theorem ok16 : EntOk Pd ⟨1, "is_number", ["value"], ["value"], c_is_number, topS 16, false, "is_number", ("is_number", none)⟩ := ⟨rfl, fun _ _ _ _ _ _ us hl => match us, hl with | [_], _ => rfl⟩
theorem ok17 : EntOk Pd ⟨2, "is_whole", ["value", "low", "high"], ["value", "low", "high"], c_is_whole, topS 17, false, "is_whole", ("is_whole", none)⟩ := ⟨rfl, fun _ _ _ _ _ _ us hl => match us, hl with | [_, _, _], _ => rfl⟩
theorem ok18 : EntOk Pd ⟨20, "divisor", ["one", "other"], ["one", "other"], c_divisor, topS 18, false, "divisor", ("divisor", none)⟩ := ⟨rfl, fun _ _ _ _ _ _ us hl => match us, hl with | [_, _], _ => rfl⟩
theorem ok19 : EntOk Pd ⟨48, "lowest", ["top", "under"], ["top", "under", "common"], c_lowest, topS 19, false, "lowest", ("lowest", none)⟩ := ⟨rfl, fun _ _ _ _ _ _ us hl => match us, hl with | [_, _], _ => rfl⟩
theorem ok20 : EntOk Pd ⟨21, "is_fraction", ["value"], ["value", "one"], c_is_fraction, topS 20, false, "is_fraction", ("is_fraction", none)⟩ := ⟨rfl, fun _ _ _ _ _ _ us hl => match us, hl with | [_], _ => rfl⟩
theorem ok21 : EntOk Pd ⟨49, "is_short", ["value"], ["value"], c_is_short, topS 21, false, "is_short", ("is_short", none)⟩ := ⟨rfl, fun _ _ _ _ _ _ us hl => match us, hl with | [_], _ => rfl⟩
theorem ok22 : EntOk Pd ⟨3, "is_range", ["value"], ["value", "one"], c_is_range, topS 22, false, "is_range", ("is_range", none)⟩ := ⟨rfl, fun _ _ _ _ _ _ us hl => match us, hl with | [_], _ => rfl⟩
theorem ok23 : EntOk Pd ⟨4, "is_row", ["value", "many"], ["value", "many", "one"], c_is_row, topS 23, false, "is_row", ("is_row", none)⟩ := ⟨rfl, fun _ _ _ _ _ _ us hl => match us, hl with | [_, _], _ => rfl⟩
theorem ok24 : EntOk Pd ⟨5, "is_table", ["value"], ["value", "row"], c_is_table, topS 24, false, "is_table", ("is_table", none)⟩ := ⟨rfl, fun _ _ _ _ _ _ us hl => match us, hl with | [_], _ => rfl⟩
theorem ok25 : EntOk Pd ⟨6, "need_table", ["table"], ["table"], c_need_table, topS 25, false, "need_table", ("need_table", none)⟩ := ⟨rfl, fun _ _ _ _ _ _ us hl => match us, hl with | [_], _ => rfl⟩
theorem ok26 : EntOk Pd ⟨69, "need_place", ["table", "place"], ["table", "place"], c_need_place, topS 26, false, "need_place", ("need_place", none)⟩ := ⟨rfl, fun _ _ _ _ _ _ us hl => match us, hl with | [_, _], _ => rfl⟩
theorem ok27 : EntOk Pd ⟨7, "need_alike", ["one", "other"], ["one", "other"], c_need_alike, topS 27, false, "need_alike", ("need_alike", none)⟩ := ⟨rfl, fun _ _ _ _ _ _ us hl => match us, hl with | [_, _], _ => rfl⟩
theorem ok28 : EntOk Pd ⟨33, "rows_of", ["bounds"], ["bounds", "found", "low", "high", "longer", "some"], c_rows_of, topS 28, false, "rows_of", ("rows_of", none)⟩ := ⟨rfl, fun _ _ _ _ _ _ us hl => match us, hl with | [_], _ => rfl⟩
theorem ok29 : EntOk Pd ⟨34, "corners_of", ["table"], ["table", "found", "bounds", "longer", "some", "row"], c_corners_of, topS 29, false, "corners_of", ("corners_of", none)⟩ := ⟨rfl, fun _ _ _ _ _ _ us hl => match us, hl with | [_], _ => rfl⟩
theorem ok30 : EntOk Pd ⟨50, "as_member", ["rows"], ["rows", "row", "one"], c_as_member, topS 30, false, "as_member", ("as_member", none)⟩ := ⟨rfl, fun _ _ _ _ _ _ us hl => match us, hl with | [_], _ => rfl⟩
theorem ok32 : EntOk Pd ⟨129, "checked", ["table"], ["table"], c_checked, topS 32, false, "checked", ("checked", none)⟩ := ⟨rfl, fun _ _ _ _ _ _ us hl => match us, hl with | [_], _ => rfl⟩
theorem ok33 : EntOk Pd ⟨130, "plus", ["one", "other"], ["one", "other", "rows", "row", "more", "at", "low", "high"], c_plus, topS 33, false, "plus", ("plus", none)⟩ := ⟨rfl, fun _ _ _ _ _ _ us hl => match us, hl with | [_, _], _ => rfl⟩
theorem ok34 : EntOk Pd ⟨131, "ordered", ["one", "last"], ["one", "last"], c_ordered, topS 34, false, "ordered", ("ordered", none)⟩ := ⟨rfl, fun _ _ _ _ _ _ us hl => match us, hl with | [_, _], _ => rfl⟩
theorem ok35 : EntOk Pd ⟨132, "times", ["table", "factor"], ["table", "factor", "row", "low", "high"], c_times, topS 35, false, "times", ("times", none)⟩ := ⟨rfl, fun _ _ _ _ _ _ us hl => match us, hl with | [_, _], _ => rfl⟩
theorem ok37 : EntOk Pd ⟨35, "minor", ["rows", "i", "j"], ["rows", "i", "j", "number", "row", "at", "one"], c_minor, topS 37, false, "minor", ("minor", none)⟩ := ⟨rfl, fun _ _ _ _ _ _ us hl => match us, hl with | [_, _, _], _ => rfl⟩
theorem ok38 : EntOk Pd ⟨36, "determinant_of", ["rows"], ["rows", "found", "place", "one"], c_determinant_of, topS 38, false, "determinant_of", ("determinant_of", none)⟩ := ⟨rfl, fun _ _ _ _ _ _ us hl => match us, hl with | [_], _ => rfl⟩
theorem ok39 : EntOk Pd ⟨55, "signed", ["rows", "i", "j"], ["rows", "i", "j", "own"], c_signed, topS 39, false, "signed", ("signed", none)⟩ := ⟨rfl, fun _ _ _ _ _ _ us hl => match us, hl with | [_, _, _], _ => rfl⟩
theorem ok40 : EntOk Pd ⟨37, "with_values", ["table"], ["table", "rows"], c_with_values, topS 40, false, "with_values", ("with_values", none)⟩ := ⟨rfl, fun _ _ _ _ _ _ us hl => match us, hl with | [_], _ => rfl⟩
theorem ok41 : EntOk Pd ⟨38, "ends_of", ["table"], ["table", "values", "value", "rows"], c_ends_of, topS 41, false, "ends_of", ("ends_of", none)⟩ := ⟨rfl, fun _ _ _ _ _ _ us hl => match us, hl with | [_], _ => rfl⟩
theorem ok42 : EntOk Pd ⟨51, "put", ["rows", "i", "j", "value"], ["rows", "i", "j", "value", "row"], c_put, topS 42, false, "put", ("put", none)⟩ := ⟨rfl, fun _ _ _ _ _ _ us hl => match us, hl with | [_, _, _, _], _ => rfl⟩
theorem ok46 : EntOk Pd ⟨56, "are_invertible", ["table"], ["table", "low", "high"], c_are_invertible, topS 46, false, "are_invertible", ("are_invertible", none)⟩ := ⟨rfl, fun _ _ _ _ _ _ us hl => match us, hl with | [_], _ => rfl⟩
theorem ok47 : EntOk Pd ⟨70, "need_invertible", ["table"], ["table"], c_need_invertible, topS 47, false, "need_invertible", ("need_invertible", none)⟩ := ⟨rfl, fun _ _ _ _ _ _ us hl => match us, hl with | [_], _ => rfl⟩
theorem ok48 : EntOk Pd ⟨71, "inverse_values", ["table", "i", "j"], ["table", "i", "j", "value", "rows"], c_inverse_values, topS 48, false, "inverse_values", ("inverse_values", none)⟩ := ⟨rfl, fun _ _ _ _ _ _ us hl => match us, hl with | [_, _, _], _ => rfl⟩
theorem ok49 : EntOk Pd ⟨72, "is_less", ["one", "other"], ["one", "other"], c_is_less, topS 49, false, "is_less", ("is_less", none)⟩ := ⟨rfl, fun _ _ _ _ _ _ us hl => match us, hl with | [_, _], _ => rfl⟩
theorem ok50 : EntOk Pd ⟨73, "best_pair", ["pairs", "sign"], ["pairs", "sign", "best", "pair"], c_best_pair, topS 50, false, "best_pair", ("best_pair", none)⟩ := ⟨rfl, fun _ _ _ _ _ _ us hl => match us, hl with | [_, _], _ => rfl⟩
theorem ok51 : EntOk Pd ⟨74, "need_inverse", ["table", "i", "j"], ["table", "i", "j"], c_need_inverse, topS 51, false, "need_inverse", ("need_inverse", none)⟩ := ⟨rfl, fun _ _ _ _ _ _ us hl => match us, hl with | [_, _, _], _ => rfl⟩
theorem ok52 : EntOk Pd ⟨75, "inverse_range", ["table", "i", "j"], ["table", "i", "j", "pairs"], c_inverse_range, topS 52, false, "inverse_range", ("inverse_range", none)⟩ := ⟨rfl, fun _ _ _ _ _ _ us hl => match us, hl with | [_, _, _], _ => rfl⟩
theorem ok53 : EntOk Pd ⟨76, "inverse_corner", ["table", "i", "j"], ["table", "i", "j"], c_inverse_corner, topS 53, false, "inverse_corner", ("inverse_corner", none)⟩ := ⟨rfl, fun _ _ _ _ _ _ us hl => match us, hl with | [_, _, _], _ => rfl⟩
theorem ok54 : EntOk Pd ⟨80, "widened", ["table", "by"], ["table", "by", "row", "low", "high"], c_widened, topS 54, false, "widened", ("widened", none)⟩ := ⟨rfl, fun _ _ _ _ _ _ us hl => match us, hl with | [_, _], _ => rfl⟩
theorem ok55 : EntOk Pd ⟨81, "margin", ["table"], ["table", "found"], c_margin, topS 55, false, "margin", ("margin", none)⟩ := ⟨rfl, fun _ _ _ _ _ _ us hl => match us, hl with | [_], _ => rfl⟩
theorem ok57 : EntOk Pd ⟨112, "is_mirrored", ["rows"], ["rows", "many", "i", "j"], c_is_mirrored, topS 57, false, "is_mirrored", ("is_mirrored", none)⟩ := ⟨rfl, fun _ _ _ _ _ _ us hl => match us, hl with | [_], _ => rfl⟩
theorem ok58 : EntOk Pd ⟨113, "need_mirrored", ["table"], ["table"], c_need_mirrored, topS 58, false, "need_mirrored", ("need_mirrored", none)⟩ := ⟨rfl, fun _ _ _ _ _ _ us hl => match us, hl with | [_], _ => rfl⟩
theorem ok59 : EntOk Pd ⟨114, "signs_of", ["many"], ["many", "found", "turn", "some", "sign"], c_signs_of, topS 59, false, "signs_of", ("signs_of", none)⟩ := ⟨rfl, fun _ _ _ _ _ _ us hl => match us, hl with | [_], _ => rfl⟩
theorem ok60 : EntOk Pd ⟨115, "least_for", ["table", "signs"], ["table", "signs", "many", "rows", "i", "j"], c_least_for, topS 60, false, "least_for", ("least_for", none)⟩ := ⟨rfl, fun _ _ _ _ _ _ us hl => match us, hl with | [_, _], _ => rfl⟩
theorem ok61 : EntOk Pd ⟨116, "part", ["rows", "many"], ["rows", "many", "row"], c_part, topS 61, false, "part", ("part", none)⟩ := ⟨rfl, fun _ _ _ _ _ _ us hl => match us, hl with | [_, _], _ => rfl⟩
theorem ok62 : EntOk Pd ⟨117, "bad_vector", ["rows"], ["rows", "many", "size", "own", "found", "j"], c_bad_vector, topS 62, false, "bad_vector", ("bad_vector", none)⟩ := ⟨rfl, fun _ _ _ _ _ _ us hl => match us, hl with | [_], _ => rfl⟩
theorem ok63 : EntOk Pd ⟨118, "bad_pair", ["table"], ["table", "signs", "rows", "vector"], c_bad_pair, topS 63, false, "bad_pair", ("bad_pair", none)⟩ := ⟨rfl, fun _ _ _ _ _ _ us hl => match us, hl with | [_], _ => rfl⟩
theorem ok64 : EntOk Pd ⟨119, "all_positive", ["table"], ["table"], c_all_positive, topS 64, false, "all_positive", ("all_positive", none)⟩ := ⟨rfl, fun _ _ _ _ _ _ us hl => match us, hl with | [_], _ => rfl⟩
theorem ok66 : EntOk Pd ⟨84, "need_right", ["table", "right"], ["table", "right"], c_need_right, topS 66, false, "need_right", ("need_right", none)⟩ := ⟨rfl, fun _ _ _ _ _ _ us hl => match us, hl with | [_, _], _ => rfl⟩
theorem ok67 : EntOk Pd ⟨94, "need_vector", ["table", "vector"], ["table", "vector", "one"], c_need_vector, topS 67, false, "need_vector", ("need_vector", none)⟩ := ⟨rfl, fun _ _ _ _ _ _ us hl => match us, hl with | [_, _], _ => rfl⟩
theorem ok68 : EntOk Pd ⟨85, "unknown", ["rows", "value", "side", "i"], ["rows", "value", "side", "i", "number", "one"], c_unknown, topS 68, false, "unknown", ("unknown", none)⟩ := ⟨rfl, fun _ _ _ _ _ _ us hl => match us, hl with | [_, _, _, _], _ => rfl⟩
theorem ok69 : EntOk Pd ⟨86, "best_side", ["rows", "value", "right", "i", "sign"], ["rows", "value", "right", "i", "sign", "found", "number", "bounds", "own"], c_best_side, topS 69, false, "best_side", ("best_side", none)⟩ := ⟨rfl, fun _ _ _ _ _ _ us hl => match us, hl with | [_, _, _, _, _], _ => rfl⟩
theorem ok70 : EntOk Pd ⟨87, "extremes", ["table", "right", "i", "sign"], ["table", "right", "i", "sign", "found", "value", "rows"], c_extremes, topS 70, false, "extremes", ("extremes", none)⟩ := ⟨rfl, fun _ _ _ _ _ _ us hl => match us, hl with | [_, _, _, _], _ => rfl⟩
theorem ok71 : EntOk Pd ⟨88, "need_system", ["table", "right", "i"], ["table", "right", "i"], c_need_system, topS 71, false, "need_system", ("need_system", none)⟩ := ⟨rfl, fun _ _ _ _ _ _ us hl => match us, hl with | [_, _, _], _ => rfl⟩
theorem ok72 : EntOk Pd ⟨89, "solution_range", ["table", "right", "i"], ["table", "right", "i", "low"], c_solution_range, topS 72, false, "solution_range", ("solution_range", none)⟩ := ⟨rfl, fun _ _ _ _ _ _ us hl => match us, hl with | [_, _, _], _ => rfl⟩
theorem ok73 : EntOk Pd ⟨95, "sum_of", ["entries", "vector"], ["entries", "vector", "under", "one", "found", "place"], c_sum_of, topS 73, false, "sum_of", ("sum_of", none)⟩ := ⟨rfl, fun _ _ _ _ _ _ us hl => match us, hl with | [_, _], _ => rfl⟩
theorem ok74 : EntOk Pd ⟨96, "end_of", ["bounds", "vector", "high"], ["bounds", "vector", "high", "found", "place", "one", "is_high"], c_end_of, topS 74, false, "end_of", ("end_of", none)⟩ := ⟨rfl, fun _ _ _ _ _ _ us hl => match us, hl with | [_, _, _], _ => rfl⟩
theorem ok75 : EntOk Pd ⟨97, "meets", ["bounds", "vector", "side"], ["bounds", "vector", "side", "low", "high"], c_meets, topS 75, false, "meets", ("meets", none)⟩ := ⟨rfl, fun _ _ _ _ _ _ us hl => match us, hl with | [_, _, _], _ => rfl⟩
theorem ok76 : EntOk Pd ⟨98, "need_all", ["table", "right", "vector"], ["table", "right", "vector"], c_need_all, topS 76, false, "need_all", ("need_all", none)⟩ := ⟨rfl, fun _ _ _ _ _ _ us hl => match us, hl with | [_, _, _], _ => rfl⟩
theorem ok77 : EntOk Pd ⟨99, "excluding", ["table", "right", "vector"], ["table", "right", "vector", "number", "bounds"], c_excluding, topS 77, false, "excluding", ("excluding", none)⟩ := ⟨rfl, fun _ _ _ _ _ _ us hl => match us, hl with | [_, _, _], _ => rfl⟩
theorem ok78 : EntOk Pd ⟨101, "between", ["one", "other", "part"], ["one", "other", "part", "gap", "step"], c_between, topS 78, false, "between", ("between", none)⟩ := ⟨rfl, fun _ _ _ _ _ _ us hl => match us, hl with | [_, _, _], _ => rfl⟩
theorem ok79 : EntOk Pd ⟨102, "row_for", ["bounds", "vector", "side"], ["bounds", "vector", "side", "first", "last", "low", "high", "part", "place", "one"], c_row_for, topS 79, false, "row_for", ("row_for", none)⟩ := ⟨rfl, fun _ _ _ _ _ _ us hl => match us, hl with | [_, _, _], _ => rfl⟩
theorem ok80 : EntOk Pd ⟨103, "solved_by", ["table", "right", "vector"], ["table", "right", "vector", "number", "bounds"], c_solved_by, topS 80, false, "solved_by", ("solved_by", none)⟩ := ⟨rfl, fun _ _ _ _ _ _ us hl => match us, hl with | [_, _, _], _ => rfl⟩
theorem ok82 : EntOk Pd ⟨146, "number_of", ["word"], ["word", "digits"], c_number_of, topS 82, false, "number_of", ("number_of", none)⟩ := ⟨rfl, fun _ _ _ _ _ _ us hl => match us, hl with | [_], _ => rfl⟩
theorem ok83 : EntOk Pd ⟨147, "range_of", ["word"], ["word", "numbers", "one"], c_range_of, topS 83, false, "range_of", ("range_of", none)⟩ := ⟨rfl, fun _ _ _ _ _ _ us hl => match us, hl with | [_], _ => rfl⟩
theorem ok84 : EntOk Pd ⟨148, "parse_table", ["text"], ["text", "table", "row", "word"], c_parse_table, topS 84, false, "parse_table", ("parse_table", none)⟩ := ⟨rfl, fun _ _ _ _ _ _ us hl => match us, hl with | [_], _ => rfl⟩
theorem ok86 : EntOk Pd ⟨10, "_law_cell", ["script", "k"], ["script", "k"], c_law_cell, topS 86, false, "_law_cell", ("_law_cell", none)⟩ := ⟨rfl, fun _ _ _ _ _ _ us hl => match us, hl with | [_, _], _ => rfl⟩
theorem ok87 : EntOk Pd ⟨11, "_law_drawn", ["cell", "k"], ["cell", "k", "more"], c_law_drawn, topS 87, false, "_law_drawn", ("_law_drawn", none)⟩ := ⟨rfl, fun _ _ _ _ _ _ us hl => match us, hl with | [_, _], _ => rfl⟩
theorem ok88 : EntOk Pd ⟨12, "_law_roll", ["dice", "many"], ["dice", "many", "told"], c_law_roll, topS 88, false, "_law_roll", ("_law_roll", none)⟩ := ⟨rfl, fun _ _ _ _ _ _ us hl => match us, hl with | [_, _], _ => rfl⟩
theorem ok89 : EntOk Pd ⟨13, "_law_rounds", ["script", "most"], ["script", "most", "k"], c_law_rounds, topS 89, false, "_law_rounds", ("_law_rounds", none)⟩ := ⟨rfl, fun _ _ _ _ _ _ us hl => match us, hl with | [_, _], _ => rfl⟩
theorem ok91 : EntOk Pd ⟨154, "_law_alone", ["e", "own"], ["e", "own", "some", "at"], c_law_alone, topS 91, false, "_law_alone", ("_law_alone", none)⟩ := ⟨rfl, fun _ _ _ _ _ _ us hl => match us, hl with | [_, _], _ => rfl⟩
theorem ok92 : EntOk Pd ⟨155, "law", ["script"], ["script", "dice", "more", "own", "one", "two", "made", "at", "e"], c_law_155, topS 92, true, "law", ("law", none)⟩ := ⟨rfl, fun _ _ _ _ _ _ us hl => match us, hl with | [_], _ => rfl⟩
theorem ok44_0 : EntOk Pd ⟨200, "__init__", ["self", "table"], ["self", "table"], m_init, clsS 44 0, false, "Desk.__init__", ("Desk", some "__init__")⟩ := ⟨rfl, fun _ _ _ _ _ _ us hl => match us, hl with | [_, _], _ => rfl⟩
theorem ok44_1 : EntOk Pd ⟨201, "perform", ["self", "name", "i", "j", "bounds"], ["self", "name", "i", "j", "bounds"], m_perform, clsS 44 1, false, "Desk.perform", ("Desk", some "perform")⟩ := ⟨rfl, fun _ _ _ _ _ _ us hl => match us, hl with | [_, _, _, _, _], _ => rfl⟩
theorem ok44_2 : EntOk Pd ⟨202, "range_at", ["self", "i", "j", "low", "high"], ["self", "i", "j", "low", "high"], m_range_at, clsS 44 2, false, "Desk.range_at", ("Desk", some "range_at")⟩ := ⟨rfl, fun _ _ _ _ _ _ us hl => match us, hl with | [_, _, _, _, _], _ => rfl⟩
theorem ok44_3 : EntOk Pd ⟨203, "narrow", ["self", "i", "j", "low", "high"], ["self", "i", "j", "low", "high", "own"], m_narrow, clsS 44 3, false, "Desk.narrow", ("Desk", some "narrow")⟩ := ⟨rfl, fun _ _ _ _ _ _ us hl => match us, hl with | [_, _, _, _, _], _ => rfl⟩
theorem ok44_5 : EntOk Pd ⟨205, "table", ["self"], ["self"], m_table, clsS 44 5, false, "Desk.table", ("Desk", some "table")⟩ := ⟨rfl, fun _ _ _ _ _ _ us hl => match us, hl with | [_], _ => rfl⟩
theorem ok44_7 : EntOk Pd ⟨207, "undo", ["self"], ["self", "name", "table"], m_undo, clsS 44 7, false, "Desk.undo", ("Desk", some "undo")⟩ := ⟨rfl, fun _ _ _ _ _ _ us hl => match us, hl with | [_], _ => rfl⟩
theorem ok44_8 : EntOk Pd ⟨208, "redo", ["self"], ["self", "name", "table"], m_redo, clsS 44 8, false, "Desk.redo", ("Desk", some "redo")⟩ := ⟨rfl, fun _ _ _ _ _ _ us hl => match us, hl with | [_], _ => rfl⟩
theorem ok44_9 : EntOk Pd ⟨209, "__len__", ["self"], ["self"], m_len, clsS 44 9, false, "Desk.__len__", ("Desk", some "__len__")⟩ := ⟨rfl, fun _ _ _ _ _ _ us hl => match us, hl with | [_], _ => rfl⟩
theorem allok : AllOk Pd ents := (.cons ok0 (.cons ok16 (.cons ok17 (.cons ok18 (.cons ok19 (.cons ok20 (.cons ok21 (.cons ok22 (.cons ok23 (.cons ok24 (.cons ok25 (.cons ok26 (.cons ok27 (.cons ok28 (.cons ok29 (.cons ok30 (.cons ok32 (.cons ok33 (.cons ok34 (.cons ok35 (.cons ok37 (.cons ok38 (.cons ok39 (.cons ok40 (.cons ok41 (.cons ok42 (.cons ok46 (.cons ok47 (.cons ok48 (.cons ok49 (.cons ok50 (.cons ok51 (.cons ok52 (.cons ok53 (.cons ok54 (.cons ok55 (.cons ok57 (.cons ok58 (.cons ok59 (.cons ok60 (.cons ok61 (.cons ok62 (.cons ok63 (.cons ok64 (.cons ok66 (.cons ok67 (.cons ok68 (.cons ok69 (.cons ok70 (.cons ok71 (.cons ok72 (.cons ok73 (.cons ok74 (.cons ok75 (.cons ok76 (.cons ok77 (.cons ok78 (.cons ok79 (.cons ok80 (.cons ok82 (.cons ok83 (.cons ok84 (.cons ok86 (.cons ok87 (.cons ok88 (.cons ok89 (.cons ok91 (.cons ok44_0 (.cons ok44_1 (.cons ok44_2 (.cons ok44_3 (.cons ok44_5 (.cons ok44_7 (.cons ok44_8 (.cons ok44_9 .nil)))))))))))))))))))))))))))))))))))))))))))))))))))))))))))))))))))))))))))
theorem ckL : ckEnt ents (exnOf cs) eLaw = true := by decide +kernel
theorem ckT2 : ckMets (topS 90) = true := by decide +kernel
theorem bT1 : Bind1 "_law_met" "deed" (topS 90) := fun _ _ _ _ _ _ us hl => match us, hl with | [_], _ => rfl
def lawW : Nat := 2 ^ 200
theorem lawW_big : Big lawW := by unfold Big lawW; decide
theorem law_run (ns : List Int) (h : ns.length ≤ 63) : ∃ st, run Pd lawW 12 155 [.lst (ns.map D.int)] [] = .ok (.bl true) st := k21_run lawW_big ns h
end Rt
open PySem PySem.W PySem.Calls PyProof.Rows
theorem PySem.Challenge.cw_rangetables_k21_errors_apart_holds : PySem.Challenge.rw_rangetables_k21_errors_apart.Holds := by
  w_on; o_law
  refine HandSHeadRun.head_any (r := (OpenLaw.row PySem.Challenge.rw_rangetables_k21_errors_apart)) (q := view (OpenLaw.row PySem.Challenge.rw_rangetables_k21_errors_apart).prog [92]) (H := Rt.hk) (ob := Rt.ob) (M := 6000)
    (loose := Rt.loose) (d := HandSHeadRun.topDef (OpenLaw.row PySem.Challenge.rw_rangetables_k21_errors_apart).prog 92) (kwd := []) Rt.ob_eq
    (by kernel_rfl) (fun s => by kernel_rfl) Rt.runs (by kernel_rfl)
    (by kernel_rfl) (by kernel_rfl) (by rfl) (by first | assumption | decide +kernel)
    (by decide +kernel) ⟨rfl, rfl, rfl, rfl, rfl, by decide +kernel⟩ ?hw ?hc
  case hw => w_witness2
  case hc =>
    exact Rt.law_ofT (W := Rt.lawW) (m := 63) (n := 11) (e := Rt.eLaw) rfl (by decide) (by kernel_rfl)
      ⟨rfl, by decide, by decide⟩ (by kernel_rfl) rfl rfl Rt.ck Rt.allok Rt.ckL Rt.ok92 Rt.ckT2 Rt.bT1 Rt.law_run
