import PyProof.Rows.All
import Wide.All
import OpenK.AllK
import Wide.FinOn
import KE.KStateDown
import HandS.ForMost
import HandS.ForExc
import HandS.Lambda
import HandS.IsInst
import HandS.TupAny
import HandS.TupMul
import HandS.Zip
import HandS.Wide
import KE.GoesNew
import HandS.ExcCtx
import HandS.HotCalls
import HandS.ExcIs
import KE.GoesMore
import KE.GoesZip
import HandS.ExcValue
import HandS.Defaults
import HandS.HeadHook1
import HandS.HeadHook2
import HandS.HeadHook4
import HandS.Head0
import HandS.Head1
import HandS.Head2
import HandS.HeadEnd
import HandS.HeadWalk
import PySem.Challenge.RW_rangetables_k20_whole_single
set_option Elab.async false
set_option linter.all false
set_option maxRecDepth 100000
set_option autoImplicit false
namespace Rt
open PySem
/-- data: cell n is the n-th list that may be changed (the dice) -/
inductive D where
  | non | bl (b : Bool) | int (i : Int) | str (x : Str) | tup (xs : List D) | lst (xs : List D) | cell (n : Nat)
abbrev Sto := List (List D)
inductive Res (a : Type) where
  | ok (x : a) (s : Sto) | exc (c : Nat) (s : Sto) | bad
namespace Res
variable {a b : Type}
def bind (r : Res a) (f : a → Sto → Res b) : Res b := match r with
  | .ok x s => f x s
  | .exc c s => .exc c s
  | .bad => .bad
/-- as bind, nothing may be raised -/
def bindN (r : Res a) (f : a → Sto → Res b) : Res b := match r with
  | .ok x s => f x s
  | _ => .bad
@[simp] theorem bind_ok (x : a) (s : Sto) (f : a → Sto → Res b) : (Res.ok x s).bind f = f x s := rfl
@[simp] theorem bind_exc (c : Nat) (s : Sto) (f : a → Sto → Res b) : (Res.exc c s : Res a).bind f = .exc c s := rfl
@[simp] theorem bind_bad (f : a → Sto → Res b) : (Res.bad : Res a).bind f = .bad := rfl
@[simp] theorem bindN_ok (x : a) (s : Sto) (f : a → Sto → Res b) : (Res.ok x s).bindN f = f x s := rfl
@[simp] theorem bindN_exc (c : Nat) (s : Sto) (f : a → Sto → Res b) : (Res.exc c s : Res a).bindN f = .bad := rfl
@[simp] theorem bindN_bad (f : a → Sto → Res b) : (Res.bad : Res a).bindN f = .bad := rfl
end Res
inductive Bop where | add | sub | mul | fdiv | mod | pow
  deriving DecidableEq
inductive Cop where | lt | le | gt | ge | eq | ne | isn | notn
  deriving DecidableEq
inductive Ty where | int | bool | tuple | str
  deriving DecidableEq
inductive Bi where | len | abs | min1 | max1 | min2 | max2 | sum | all | any | tuple | list | sorted | int | str | isi (t : Ty)
  deriving DecidableEq
/-- a target: a name's slot, or a tuple of targets -/
inductive Tg where | name (i : Nat) | tup2 (a b : Tg) | tup3 (a b c : Tg)
mutual
inductive E where
  | var (i : Nat)
  | int (i : Int) | bl (b : Bool) | non | str (x : Str)
  | tup (es : Es) | lst (es : Es) | cel (es : Es)
  | bin (op : Bop) (a b : E) | neg (a : E) | not (a : E)
  | cmp (op : Cop) (a b : E) | chain (o1 o2 : Cop) (a b c : E)
  | and (a b : E) | or (a b : E) | ite (c a b : E)
  | rep (es : Es) (k : E)
  | sub (a i : E) | subo (i : Nat) (x : E) | slice (a : E) (lo hi : Oe) | rev (a : E)
  | call (f : Nat) (es : Es) | bi (b : Bi) (es : Es)
  | comp (tg : Tg) (it : It) (cond : Oe) (elt : E) (own : List Nat)
  | comp2 (tg : Tg) (it : It) (tg2 : Tg) (it2 : It) (elt : E) (own own2 : List Nat)
  | told (e : E)
inductive Es where
  | nil | cons (e : E) (es : Es)
inductive Oe where
  | none | some (e : E)
inductive It where
  | val (e : E) | rng1 (a : E) | rng2 (a b : E) | rng3 (a b c : E) | enum (e : E) | zip (a b : E)
end
mutual
inductive S where
  | pass
  | frz (i : Nat)
  | asg (i : Nat) (e : E)
  | asgL (i : Nat) (es : Es)
  | asgC (i : Nat) (a b : E)
  | asgR (i : Nat) (es : Es) (k : E)
  | asgO (i : Nat) (e : E)
  | parA (i j : Nat) (e : E)
  | parB (i j : Nat) (e : E)
  | par (is : List Nat) (es : Es)
  | unp (tg : Tg) (e : E)
  | app (i : Nat) (e : E)
  | setI (i : Nat) (x e : E)
  | setI2 (i : Nat) (x y e f : E)
  | aug (i : Nat) (e : E)
  | ex (e : E)
  | ret (e : E)
  | ifs (c : E) (a b : Ss)
  | fors (tg : Tg) (it : It) (b : Ss)
  | whl (c : E) (b : Ss)
  | raise (c : Nat)
inductive Ss where
  | nil | cons (s : S) (r : Ss)
end
/-- a def: its parameters' number, the names' number, its body -/
structure Def where
  np : Nat
  nn : Nat
  body : Ss
mutual
def eqv : D → D → Bool
  | .non, .non => true
  | .bl a, .bl b => a == b
  | .bl a, .int j => (if a then 1 else 0) == j
  | .int i, .bl b => i == (if b then 1 else 0)
  | .int i, .int j => i == j
  | .str x, .str y => x == y
  | .lst xs, .lst ys => eqvAll xs ys
  | .tup xs, .tup ys => eqvAll xs ys
  | _, _ => false
def eqvAll : List D → List D → Bool
  | [], [] => true
  | x :: xs, y :: ys => eqv x y && eqvAll xs ys
  | _, _ => false
end
/-- no cell, strings of proper signs, not too deep -/
def shp : Nat → D → Bool
  | _, .non | _, .bl _ | _, .int _ => true
  | _, .str x => PyData.strOk x
  | 0, .tup _ | 0, .lst _ => false
  | n + 1, .tup xs => xs.all (shp n)
  | n + 1, .lst xs => xs.all (shp n)
  | _, .cell _ => false
def intsD : List D → Option (List Int)
  | [] => some []
  | .int i :: r => (intsD r).map (i :: ·)
  | _ => none
def boolsD : List D → Option (List Bool)
  | [] => some []
  | .bl i :: r => (boolsD r).map (i :: ·)
  | _ => none
def minL : Int → List Int → Int
  | m, [] => m
  | m, x :: r => minL (if x < m then x else m) r
def maxL : Int → List Int → Int
  | m, [] => m
  | m, x :: r => maxL (if x > m then x else m) r
/-- the bounds of what is multiplied, divided -/
def bigN : Nat := 2 ^ 100000
def divN : Nat := 2 ^ 9000
def mulOk (i j : Int) : Bool := decide (i.natAbs < 2 ^ 64) || decide (j.natAbs < 2 ^ 64) || (decide (i.natAbs < bigN) && decide (j.natAbs < bigN))
def divOk (j : Int) : Bool := decide (j ≠ 0) && decide (j.natAbs < divN)
def sizeN : Nat := 1000000
/-- the place of an index of any sign -/
def ixD (n : Nat) (i : Int) : Option Nat := if 0 ≤ i then (if i < n then some i.toNat else none) else if -(n : Int) ≤ i then some (i + n).toNat else none
/-- where a slice's part lies -/
def partD (n d : Nat) : Option Int → Nat
  | none => d
  | some v => if v < 0 then (v + n).toNat else min v.toNat n
def cutD (xs : List D) (lo hi : Option Int) : List D := (xs.drop (partD xs.length 0 lo)).take (partD xs.length xs.length hi - partD xs.length 0 lo)
section
variable (s : Sto)
def binD (op : Bop) (x y : D) : Res D := match op, x, y with
  | .add, .int i, .int j => .ok (.int (i + j)) s
  | .add, .tup a, .tup b => if a.length + b.length ≤ sizeN then .ok (.tup (a ++ b)) s else .bad
  | .add, .lst a, .lst b => if a.length + b.length ≤ sizeN then .ok (.lst (a ++ b)) s else .bad
  | .sub, .int i, .int j => .ok (.int (i - j)) s
  | .mul, .int i, .int j => if mulOk i j then .ok (.int (i * j)) s else .bad
  | .mul, .tup a, .int k => if k ≤ 1000 ∧ -1000 ≤ k ∧ a.length ≤ 1000 ∧ a.isEmpty = false then .ok (.tup (List.replicate k.toNat a).flatten) s else .bad
  | .fdiv, .int i, .int j => if divOk j then .ok (.int (i.fdiv j)) s else .bad
  | .mod, .int i, .int j => if j ≠ 0 then .ok (.int (i.fmod j)) s else .bad
  | .pow, .int i, .int j => if 0 ≤ j ∧ j ≤ 1000 ∧ i.natAbs < 2 ^ 64 then .ok (.int (i ^ j.toNat)) s else .bad
  | _, _, _ => .bad
def repD (ds : List D) (y : D) : Res D := match y with
  | .int k => if k ≤ 1000 ∧ -1000 ≤ k ∧ ds.length ≤ 1000 then .ok (.lst (List.replicate k.toNat ds).flatten) s else .bad
  | _ => .bad
def isNon : D → Bool
  | .non => true
  | _ => false
def cmpD (op : Cop) (x y : D) : Res D := match op with
  | .eq => if shp 30 x && shp 30 y then .ok (.bl (eqv x y)) s else .bad
  | .ne => if shp 30 x && shp 30 y then .ok (.bl (!eqv x y)) s else .bad
  | .isn => if isNon y then .ok (.bl (isNon x)) s else .bad
  | .notn => if isNon y then .ok (.bl (!isNon x)) s else .bad
  | .lt => match x, y with | .int i, .int j => .ok (.bl (decide (i < j))) s | _, _ => .bad
  | .le => match x, y with | .int i, .int j => .ok (.bl (decide (i ≤ j))) s | _, _ => .bad
  | .gt => match x, y with | .int i, .int j => .ok (.bl (decide (j < i))) s | _, _ => .bad
  | .ge => match x, y with | .int i, .int j => .ok (.bl (decide (j ≤ i))) s | _, _ => .bad
def atD (xs : List D) (i : Int) : Res D := match ixD xs.length i with
  | none => .bad
  | some k => match xs[k]? with
    | none => .bad
    | some d => .ok d s
def subD (x y : D) : Res D := match x, y with
  | .tup xs, .int i => atD s xs i
  | .lst xs, .int i => atD s xs i
  | .cell n, .int i => match s[n]? with
    | none => .bad
    | some xs => atD s xs i
  | _, _ => .bad
def partsD : Option D → Option (Option Int)
  | none => some none
  | some (.int i) => some (some i)
  | some _ => none
def ofP {a : Type} (o : Option (Option Int)) (f : Option Int → Res a) : Res a := match o with
  | some p => f p
  | none => .bad
def sliceD (x : D) (l h : Option Int) : Res D := match x with
  | .tup xs => .ok (.tup (cutD xs l h)) s
  | .lst xs => .ok (.lst (cutD xs l h)) s
  | _ => .bad
def revD (x : D) : Res D := match x with
  | .tup xs => .ok (.tup xs.reverse) s
  | _ => .bad
def isTy (t : Ty) (d : D) : Option Bool := match t, d with
  | _, .cell _ => none
  | .int, .int _ => some true
  | .int, .bl _ => some true
  | .int, _ => some false
  | .bool, .bl _ => some true
  | .bool, _ => some false
  | .tuple, .tup _ => some true
  | .tuple, _ => some false
  | .str, .str _ => some true
  | .str, _ => some false
def ofI (o : Option (List Int)) (f : List Int → Res D) : Res D := match o with
  | some ns => f ns
  | none => .bad
def ofB (o : Option (List Bool)) (f : List Bool → Res D) : Res D := match o with
  | some ns => f ns
  | none => .bad
def biD (b : Bi) (ds : List D) : Res D := match b, ds with
  | .len, [.tup xs] => .ok (.int xs.length) s
  | .len, [.lst xs] => .ok (.int xs.length) s
  | .abs, [.int i] => .ok (.int (if i < 0 then -i else i)) s
  | .min2, [.int i, .int j] => .ok (.int (if j < i then j else i)) s
  | .max2, [.int i, .int j] => .ok (.int (if j > i then j else i)) s
  | .min1, [.lst xs] => ofI (intsD xs) fun ns => match ns with | [] => .bad | x :: r => .ok (.int (minL x r)) s
  | .max1, [.lst xs] => ofI (intsD xs) fun ns => match ns with | [] => .bad | x :: r => .ok (.int (maxL x r)) s
  | .sum, [.lst xs] => ofI (intsD xs) fun ns => .ok (.int ns.sum) s
  | .all, [.lst xs] => ofB (boolsD xs) fun bs => .ok (.bl (bs.all id)) s
  | .any, [.lst xs] => ofB (boolsD xs) fun bs => .ok (.bl (bs.any id)) s
  | .tuple, [.lst xs] => .ok (.tup xs) s
  | .tuple, [.tup xs] => .ok (.tup xs) s
  | .list, [.lst xs] => .ok (.lst xs) s
  | .list, [.tup xs] => .ok (.lst xs) s
  | .sorted, [.lst [.int i, .int j]] => .ok (.lst (if j < i then [.int j, .int i] else [.int i, .int j])) s
  | .int, [.int i] => .ok (.int i) s
  | .int, [.bl b] => .ok (.int (if b then 1 else 0)) s
  | .isi t, [d] => match isTy t d with | some b => .ok (.bl b) s | none => .bad
  | _, _ => .bad
end
inductive Slot where | no | val (d : D) | own (ds : List D)
abbrev Env := List Slot
def getV (r : Env) (i : Nat) : Option D := match r[i]? with
  | some (.val d) => some d
  | _ => none
def getO (r : Env) (i : Nat) : Option (List D) := match r[i]? with
  | some (.own d) => some d
  | _ => none
def wipeE (r : Env) : List Nat → Env
  | [] => r
  | v :: vs => (wipeE r vs).set v .no
/-- a target takes a value -/
def bindT : Tg → D → Env → Option Env
  | .name i, d, r => some (r.set i (.val d))
  | .tup2 a b, .tup [x, y], r => (bindT a x r).bind (bindT b y)
  | .tup2 a b, .lst [x, y], r => (bindT a x r).bind (bindT b y)
  | .tup3 a b c, .tup [x, y, z], r => ((bindT a x r).bind (bindT b y)).bind (bindT c z)
  | _, _, _ => none
/-- items of a comprehension, one after another: f gives what is added, if anything -/
def mapR (f : D → Sto → Res (Option D)) : List D → Sto → Res (List D)
  | [], s => .ok [] s
  | x :: xs, s => (f x s).bindN fun o s => (mapR f xs s).bindN fun ys s => .ok (o.toList ++ ys) s
def mapR2 (f : D → Sto → Res (List D)) : List D → Sto → Res (List D)
  | [], s => .ok [] s
  | x :: xs, s => (f x s).bindN fun o s => (mapR2 f xs s).bindN fun ys s => .ok (o ++ ys) s
def rngD (lo : Int) (n : Nat) (c : Int) : List D := (List.range n).map fun i => .int (lo + (i : Nat) * c)
def enumD : Nat → List D → List D
  | _, [] => []
  | n, d :: r => .tup [.int n, d] :: enumD (n + 1) r
def zipD : List D → List D → List D
  | x :: xs, y :: ys => .tup [x, y] :: zipD xs ys
  | _, _ => []
def itemsD : D → Option (List D)
  | .tup xs => some xs
  | .lst xs => some xs
  | _ => none
def small (i : Int) : Bool := decide (-1000000 ≤ i) && decide (i ≤ 1000000)
def excName : Nat → Str
  | 0 => "InvalidTable" | 1 => "InvalidRight" | 2 => "InvalidVector" | 3 => "InvalidPlace" | 4 => "InvalidNumber" | 5 => "InvalidRange"
  | 6 => "InvalidText" | 7 => "Singular" | 8 => "NotSymmetric" | 9 => "Unlike" | 10 => "TooLarge" | 11 => "NothingToUndo"
  | _ => "other"
def caught : Res D → Res D
  | .exc c s => if c < 12 then .ok (.tup [.str "error", .str (excName c)]) s else .bad
  | r => r
section
variable (F : Nat → List D → Sto → Res D)
mutual
def ev : E → Env → Sto → Res D
  | .var i, r, s => match getV r i with | some d => .ok d s | none => .bad
  | .int i, _, s => .ok (.int i) s
  | .bl b, _, s => .ok (.bl b) s
  | .non, _, s => .ok .non s
  | .str x, _, s => .ok (.str x) s
  | .tup es, r, s => (evs es r s).bind fun ds s => .ok (.tup ds) s
  | .lst es, r, s => (evs es r s).bind fun ds s => .ok (.lst ds) s
  | .cel es, r, s => (evs es r s).bind fun ds s => .ok (.cell s.length) (s ++ [ds])
  | .bin op a b, r, s => (ev a r s).bind fun x s => (ev b r s).bind fun y s => binD s op x y
  | .rep es k, r, s => (evs es r s).bind fun ds s => (ev k r s).bind fun y s => repD s ds y
  | .neg a, r, s => (ev a r s).bind fun x s => match x with | .int i => .ok (.int (-i)) s | _ => .bad
  | .not a, r, s => (ev a r s).bind fun x s => match x with | .bl b => .ok (.bl (!b)) s | _ => .bad
  | .cmp op a b, r, s => (ev a r s).bind fun x s => (ev b r s).bind fun y s => cmpD s op x y
  | .chain o1 o2 a b c, r, s => (ev a r s).bind fun x s => (ev b r s).bind fun y s => (cmpD s o1 x y).bind fun k s => match k with
    | .bl true => (ev c r s).bind fun z s => cmpD s o2 y z
    | .bl false => .ok (.bl false) s
    | _ => .bad
  | .and a b, r, s => (ev a r s).bind fun x s => match x with | .bl true => ev b r s | .bl false => .ok (.bl false) s | _ => .bad
  | .or a b, r, s => (ev a r s).bind fun x s => match x with | .bl true => .ok (.bl true) s | .bl false => ev b r s | _ => .bad
  | .ite c a b, r, s => (ev c r s).bind fun x s => match x with | .bl true => ev a r s | .bl false => ev b r s | _ => .bad
  | .sub a i, r, s => (ev a r s).bind fun x s => (ev i r s).bind fun y s => subD s x y
  | .subo i x, r, s => match getO r i with
    | some ds => (ev x r s).bind fun y s => match y with | .int k => atD s ds k | _ => .bad
    | none => .bad
  | .slice a lo hi, r, s => (ev a r s).bind fun x s => (evo lo r s).bind fun l s => ofP (partsD l) fun l => (evo hi r s).bind fun h s => ofP (partsD h) fun h => sliceD s x l h
  | .rev a, r, s => (ev a r s).bind fun x s => revD s x
  | .call f es, r, s => (evs es r s).bind fun ds s => F f ds s
  | .bi b es, r, s => (evs es r s).bind fun ds s => biD s b ds
  | .comp tg it cond elt own, r, s => (evi it r s).bind fun ds s => (mapR (fun d s => match bindT tg d (wipeE r own) with
      | none => .bad
      | some r' => (evo cond r' s).bind fun k s => match k with
        | none => (ev elt r' s).bind fun y s => .ok (some y) s
        | some (.bl true) => (ev elt r' s).bind fun y s => .ok (some y) s
        | some (.bl false) => .ok none s
        | _ => .bad) ds s).bind fun ys s => if ys.length ≤ sizeN then .ok (.lst ys) s else .bad
  | .comp2 tg it tg2 it2 elt own own2, r, s => (evi it r s).bind fun ds s => (mapR2 (fun d s => match bindT tg d (wipeE r own) with
      | none => .bad
      | some r' => (evi it2 r' s).bindN fun ds2 s => mapR (fun d2 s => match bindT tg2 d2 (wipeE r' own2) with
        | none => .bad
        | some r2 => (ev elt r2 s).bind fun y s => .ok (some y) s) ds2 s) ds s).bind fun ys s => if ys.length ≤ sizeN then .ok (.lst ys) s else .bad
  | .told e, r, s => caught (ev e r s)
def evs : Es → Env → Sto → Res (List D)
  | .nil, _, s => .ok [] s
  | .cons e es, r, s => (ev e r s).bind fun x s => (evs es r s).bind fun xs s => .ok (x :: xs) s
def evo : Oe → Env → Sto → Res (Option D)
  | .none, _, s => .ok none s
  | .some e, r, s => (ev e r s).bind fun x s => .ok (some x) s
def evi : It → Env → Sto → Res (List D)
  | .val e, r, s => (ev e r s).bind fun x s => match itemsD x with | some ds => .ok ds s | none => .bad
  | .rng1 a, r, s => (ev a r s).bind fun x s => match x with | .int n => if small n then .ok (rngD 0 n.toNat 1) s else .bad | _ => .bad
  | .rng2 a b, r, s => (ev a r s).bind fun x s => (ev b r s).bind fun y s => match x, y with | .int i, .int j => if small i && small j then .ok (rngD i (j - i).toNat 1) s else .bad | _, _ => .bad
  | .rng3 a b c, r, s => (ev a r s).bind fun x s => (ev b r s).bind fun y s => (ev c r s).bind fun z s => match x, y, z with
    | .int i, .int j, .int (-1) => if small i && small j then .ok (rngD i (i - j).toNat (-1)) s else .bad
    | _, _, _ => .bad
  | .enum a, r, s => (ev a r s).bind fun x s => match itemsD x with | some ds => .ok (enumD 0 ds) s | none => .bad
  | .zip a b, r, s => (ev a r s).bind fun x s => (ev b r s).bind fun y s => match x, y with | .tup ds, .tup es => .ok (zipD ds es) s | .lst ds, .lst es => .ok (zipD ds es) s | .tup ds, .lst es => .ok (zipD ds es) s | _, _ => .bad
end
inductive Flow where | next (r : Env) | ret (d : D)
def seqR (x : Res Flow) (f : Env → Sto → Res Flow) : Res Flow := match x with
  | .ok (.next r) s => f r s
  | .ok (.ret d) s => .ok (.ret d) s
  | .exc c s => .exc c s
  | .bad => .bad
def forR (f : D → Env → Sto → Res Flow) : List D → Env → Sto → Res Flow
  | [], r, s => .ok (.next r) s
  | d :: ds, r, s => seqR (f d r s) (forR f ds)
def whileR (c : Env → Sto → Res Bool) (f : Env → Sto → Res Flow) : Nat → Env → Sto → Res Flow
  | 0, _, _ => .bad
  | n + 1, r, s => (c r s).bind fun b s => if b then seqR (f r s) (whileR c f n) else .ok (.next r) s
/-- a test: a bool, or an int by its truth -/
def tst (x : Res D) : Res Bool := x.bind fun d s => match d with
  | .bl b => .ok b s
  | .int i => .ok (i != 0) s
  | _ => .bad
def setAll : List Nat → List D → Env → Option Env
  | [], [], r => some r
  | i :: is, d :: ds, r => setAll is ds (r.set i (.val d))
  | _, _, _ => none
/-- x[k] = d where x is a cell or an owned list -/
def putD (r : Env) (s : Sto) (i : Nat) (x d : D) : Res Flow := match x with
  | .int k => match r[i]? with
    | some (.own ds) => match ixD ds.length k with
      | some j => .ok (.next (r.set i (.own (ds.set j d)))) s
      | none => .bad
    | some (.val (.cell n)) => match s[n]? with
      | some ds => match ixD ds.length k with
        | some j => .ok (.next r) (s.set n (ds.set j d))
        | none => .bad
      | none => .bad
    | _ => .bad
  | _ => .bad
def slotB (r : Env) (i : Nat) : Bool := match r[i]? with
  | some (.own _) => true
  | some (.val (.cell _)) => true
  | _ => false
variable (W : Nat)
mutual
def exec : S → Env → Sto → Res Flow
  | .pass, r, s => .ok (.next r) s
  | .frz i, r, s => match getO r i with | some ds => .ok (.next (r.set i (.val (.lst ds)))) s | none => .bad
  | .asg i e, r, s => (ev F e r s).bind fun x s => .ok (.next (r.set i (.val x))) s
  | .asgL i es, r, s => (evs F es r s).bind fun ds s => .ok (.next (r.set i (.own ds))) s
  | .asgC i a b, r, s => (ev F a r s).bind fun x s => (ev F b r s).bind fun y s => (binD s .add x y).bind fun z s => match z with | .lst ds => .ok (.next (r.set i (.own ds))) s | _ => .bad
  | .asgR i es k, r, s => (evs F es r s).bind fun ds s => (ev F k r s).bind fun y s => (repD s ds y).bind fun z s => match z with | .lst ds => .ok (.next (r.set i (.own ds))) s | _ => .bad
  | .asgO i e, r, s => (ev F e r s).bind fun x s => match x with | .lst ds => .ok (.next (r.set i (.own ds))) s | _ => .bad
  | .parA i j e, r, s => (ev F e r s).bind fun x s => .ok (.next ((r.set i (.val x)).set j (.own []))) s
  | .parB i j e, r, s => (ev F e r s).bind fun x s => .ok (.next ((r.set i (.own [])).set j (.val x))) s
  | .par is es, r, s => (evs F es r s).bind fun ds s => match setAll is ds r with | some r => .ok (.next r) s | none => .bad
  | .unp tg e, r, s => (ev F e r s).bind fun x s => match bindT tg x r with | some r => .ok (.next r) s | none => .bad
  | .app i e, r, s => match getO r i with | some ds => (ev F e r s).bind fun x s => (if ds.length < sizeN then .ok (.next (r.set i (.own (ds ++ [x])))) s else .bad) | none => .bad
  | .setI i x e, r, s => if slotB r i = false then .bad else (ev F e r s).bind fun d s => (ev F x r s).bind fun k s => putD r s i k d
  | .setI2 i x y e f, r, s => if slotB r i = false then .bad else (ev F e r s).bind fun d s => (ev F f r s).bind fun d2 s => (ev F x r s).bind fun k s => seqR (putD r s i k d) fun r s => (ev F y r s).bind fun k2 s => putD r s i k2 d2
  | .aug i e, r, s => match getV r i with | some (.int a) => (ev F e r s).bind fun y s => (match y with | .int b => .ok (.next (r.set i (.val (.int (a + b))))) s | _ => .bad) | _ => .bad
  | .ex e, r, s => (ev F e r s).bind fun _ s => .ok (.next r) s
  | .ret e, r, s => (ev F e r s).bind fun x s => .ok (.ret x) s
  | .ifs c a b, r, s => (tst (ev F c r s)).bind fun k s => if k then execs a r s else execs b r s
  | .fors tg it b, r, s => (evi F it r s).bind fun ds s => forR (fun d r s => match bindT tg d r with | some r => execs b r s | none => .bad) ds r s
  | .whl c b, r, s => whileR (fun r s => tst (ev F c r s)) (fun r s => execs b r s) W r s
  | .raise c, _, s => .exc c s
def execs : Ss → Env → Sto → Res Flow
  | .nil, r, s => .ok (.next r) s
  | .cons st rest, r, s => seqR (exec st r s) (fun r s => execs rest r s)
end
/-- a def's body at its arguments -/
def body (d : Def) (ds : List D) (s : Sto) : Res D :=
  if ds.length = d.np then (match execs F W d.body (ds.map .val ++ List.replicate (d.nn - d.np) .no) s with
    | .ok (.next _) s => .ok .non s
    | .ok (.ret x) s => .ok x s
    | .exc c s => .exc c s
    | .bad => .bad) else .bad
end
/-- the defs of a program, called at most n deep -/
def run (P : Nat → Option Def) (W : Nat) : Nat → Nat → List D → Sto → Res D
  | 0, _, _, _ => .bad
  | n + 1, f, ds, s => match P f with
    | some d => body (run P W n) W d ds s
    | none => .bad
end Rt
namespace Rt
open PySem L2
/-- the constants of a law: tables of code objects, the written part, the exception classes' places -/
structure Cn where
  T : List (Addr × Str)
  K : PySem.W.Frag
  ca : Nat → Addr
/-- a list that no one changes -/
def Fz (K : PySem.W.Frag) (H : Hp) (a : Addr) (xs : List V) : Prop := (∃ o, H a = some (.frz o (.lst xs))) ∨
  ∃ (o : Obj) (its : Array Value) (n : Nat), K.lookup a = some o ∧ o.cls = .type "list" ∧ o.dict = none ∧ o.data = .seq its n ∧ its.size ≤ sizeLine ∧ Vals xs its.toList
theorem Fz.sq {K : PySem.W.Frag} {H : Hp} {a : Addr} {xs : List V} (h : Fz K H a xs) : SqL K H a xs := by
  rcases h with h | h
  · exact .inl (.inr h)
  · exact .inr h
mutual
inductive Sd (K : PySem.W.Frag) (H : Hp) (mu : List Addr) : V → D → Prop where
  | non : Sd K H mu .non .non
  | bl (b : Bool) : Sd K H mu (.bl b) (.bl b)
  | int (i : Int) : Sd K H mu (.int i) (.int i)
  | str (x : Str) : Sd K H mu (.str x) (.str x)
  | tup {a : Addr} {xs : List V} {ds : List D} : SqT K H a xs → SdA K H mu xs ds → Sd K H mu (.ref a) (.tup ds)
  | lst {a : Addr} {xs : List V} {ds : List D} : Fz K H a xs → SdA K H mu xs ds → Sd K H mu (.ref a) (.lst ds)
  | cell {a : Addr} {n : Nat} : mu[n]? = some a → Sd K H mu (.ref a) (.cell n)
inductive SdA (K : PySem.W.Frag) (H : Hp) (mu : List Addr) : List V → List D → Prop where
  | nil : SdA K H mu [] []
  | cons {v : V} {vs : List V} {d : D} {ds : List D} : Sd K H mu v d → SdA K H mu vs ds → SdA K H mu (v :: vs) (d :: ds)
end
/-- from (H, mu) to (H', mu'): what may have happened -/
structure Ext (mu mu' : List Addr) (H H' : Hp) : Prop where
  pre : ∃ more, mu' = mu ++ more
  keepN : ∀ b o, H b = some o → (∀ xs, o ≠ .lst xs) → (∀ ps, o ≠ .tbl ps) → H' b = some o
  keepL : ∀ b xs, H b = some (.lst xs) → b ∉ mu → H' b = some (.lst xs)
  keepT : ∀ b ps, H b = some (.tbl ps) → ∃ ps', H' b = some (.tbl ps')
  new : ∀ a, a ∈ mu' → a ∉ mu → H a = none
/-- what data leans on stays -/
structure ExtW (mu mu' : List Addr) (H H' : Hp) : Prop where
  pre : ∃ more, mu' = mu ++ more
  keepN : ∀ b o, H b = some o → (∀ xs, o ≠ .lst xs) → (∀ ps, o ≠ .tbl ps) → H' b = some o
theorem Ext.w {mu mu' : List Addr} {H H' : Hp} (e : Ext mu mu' H H') : ExtW mu mu' H H' := ⟨e.pre, e.keepN⟩
theorem ExtW.refl {mu : List Addr} {H : Hp} : ExtW mu mu H H := ⟨⟨[], by simp⟩, fun _ _ h _ _ => h⟩
theorem ExtW.trans {mu mu1 mu2 : List Addr} {H H1 H2 : Hp} (e : ExtW mu mu1 H H1) (f : ExtW mu1 mu2 H1 H2) : ExtW mu mu2 H H2 := by
  refine ⟨?_, fun b o h n m => f.keepN b o (e.keepN b o h n m) n m⟩
  obtain ⟨m, rfl⟩ := e.pre
  obtain ⟨m', rfl⟩ := f.pre
  exact ⟨m ++ m', by simp⟩
theorem ExtW.updL {mu : List Addr} {H : Hp} {a : Addr} {zs : List V} {o : HO} (h : H a = some (.lst zs)) : ExtW mu mu H (L2.upd H a o) := ⟨⟨[], by simp⟩, fun b o' q n m => by
  have nb : b ≠ a := fun z => by subst z; rw [h] at q; cases q; exact n zs rfl
  rw [upd_ne nb]; exact q⟩
namespace Ext
variable {mu mu1 mu2 : List Addr} {H H1 H2 : Hp}
theorem refl : Ext mu mu H H := ⟨⟨[], by simp⟩, fun _ _ h _ _ => h, fun _ _ h _ => h, fun _ ps h => ⟨ps, h⟩, fun _ h n => absurd h n⟩
theorem mem (e : Ext mu mu1 H H1) {a : Addr} (h : a ∈ mu) : a ∈ mu1 := by
  obtain ⟨m, rfl⟩ := e.pre
  exact List.mem_append_left _ h
theorem notin (e : Ext mu mu1 H H1) {a : Addr} {o : HO} (h : H a = some o) (n : a ∉ mu) : a ∉ mu1 := fun q => by
  rw [e.new a q n] at h
  cases h
theorem isSome (e : Ext mu mu1 H H1) {a : Addr} (h : H1 a = none) (n : a ∉ mu) : H a = none := by
  cases q : H a with
  | none => rfl
  | some o =>
    cases o with
    | lst xs => rw [e.keepL a xs q n] at h; cases h
    | tbl ps =>
      obtain ⟨p, z⟩ := e.keepT a ps q
      rw [z] at h; cases h
    | _ => rw [e.keepN a _ q (fun _ z => by cases z) (fun _ z => by cases z)] at h; cases h
theorem trans (e : Ext mu mu1 H H1) (f : Ext mu1 mu2 H1 H2) : Ext mu mu2 H H2 := by
  refine ⟨?_, fun b o h n m => f.keepN b o (e.keepN b o h n m) n m, fun b xs h n => f.keepL b xs (e.keepL b xs h n) (e.notin h n), fun b ps h => ?_, fun a h n => ?_⟩
  · obtain ⟨m, rfl⟩ := e.pre
    obtain ⟨m', rfl⟩ := f.pre
    exact ⟨m ++ m', by simp⟩
  · obtain ⟨p, z⟩ := e.keepT b ps h
    exact f.keepT b p z
  · by_cases q : a ∈ mu1
    · exact e.new a q n
    · exact e.isSome (f.new a h q) n
/-- a new object -/
theorem upd {p : Addr} {o : HO} (h : H p = none) : Ext mu mu H (upd H p o) := by
  refine ⟨⟨[], by simp⟩, fun b o' q _ _ => ?_, fun b xs q _ => ?_, fun b ps q => ⟨ps, ?_⟩, fun _ h n => absurd h n⟩
  · rw [upd_ne (ne_of_none q h)]; exact q
  · rw [upd_ne (ne_of_none q h)]; exact q
  · rw [upd_ne (ne_of_none q h)]; exact q
end Ext
section
variable {K : PySem.W.Frag} {mu mu1 : List Addr} {H H1 : Hp}
theorem Fz.mono {a : Addr} {xs : List V} (e : ExtW mu mu1 H H1) (h : Fz K H a xs) : Fz K H1 a xs := by
  rcases h with ⟨o, h⟩ | h
  · exact .inl ⟨o, e.keepN _ _ h (fun _ z => by cases z) (fun _ z => by cases z)⟩
  · exact .inr h
theorem sqT_mono {a : Addr} {xs : List V} (e : ExtW mu mu1 H H1) (h : SqT K H a xs) : SqT K H1 a xs := by
  rcases h with (h | ⟨o, h⟩) | h
  · exact .inl (.inl (e.keepN _ _ h (fun _ z => by cases z) (fun _ z => by cases z)))
  · exact .inl (.inr ⟨o, e.keepN _ _ h (fun _ z => by cases z) (fun _ z => by cases z)⟩)
  · exact .inr h
mutual
theorem Sd.monoW (e : ExtW mu mu1 H H1) : ∀ {v : V} {d : D}, Sd K H mu v d → Sd K H1 mu1 v d
  | _, _, .non => .non
  | _, _, .bl b => .bl b
  | _, _, .int i => .int i
  | _, _, .str x => .str x
  | _, _, .tup h t => .tup (sqT_mono e h) (SdA.monoW e t)
  | _, _, .lst h t => .lst (h.mono e) (SdA.monoW e t)
  | _, _, .cell h => .cell (by
      obtain ⟨m, rfl⟩ := e.pre
      rw [List.getElem?_append_left (List.getElem?_eq_some_iff.mp h).1]
      exact h)
theorem SdA.monoW (e : ExtW mu mu1 H H1) : ∀ {vs : List V} {ds : List D}, SdA K H mu vs ds → SdA K H1 mu1 vs ds
  | _, _, .nil => .nil
  | _, _, .cons h t => .cons (Sd.monoW e h) (SdA.monoW e t)
end
theorem Sd.mono (e : Ext mu mu1 H H1) {v : V} {d : D} (h : Sd K H mu v d) : Sd K H1 mu1 v d := Sd.monoW e.w h
theorem SdA.mono (e : Ext mu mu1 H H1) {vs : List V} {ds : List D} (h : SdA K H mu vs ds) : SdA K H1 mu1 vs ds := SdA.monoW e.w h
theorem SdA.length : ∀ {vs : List V} {ds : List D}, SdA K H mu vs ds → vs.length = ds.length
  | _, _, .nil => rfl
  | _, _, .cons _ t => by rw [List.length_cons, List.length_cons, SdA.length t]
theorem SdA.get : ∀ {vs : List V} {ds : List D} {i : Nat} {d : D}, SdA K H mu vs ds → ds[i]? = some d → ∃ v, vs[i]? = some v ∧ Sd K H mu v d
  | _, _, _, _, .nil, e => by simp at e
  | _, _, 0, _, .cons r _, e => by simp at e; subst e; exact ⟨_, rfl, r⟩
  | _, _, i + 1, d, .cons _ t, e => by
    obtain ⟨u, h1, h2⟩ := SdA.get (i := i) (d := d) t (by simpa using e)
    exact ⟨u, by simpa using h1, h2⟩
theorem SdA.append : ∀ {vs ws : List V} {ds es : List D}, SdA K H mu vs ds → SdA K H mu ws es → SdA K H mu (vs ++ ws) (ds ++ es)
  | _, _, _, _, .nil, s => s
  | _, _, _, _, .cons r t, s => .cons r (SdA.append t s)
theorem SdA.set {v : V} {d : D} (r : Sd K H mu v d) : ∀ {vs : List V} {ds : List D} (i : Nat), SdA K H mu vs ds → SdA K H mu (vs.set i v) (ds.set i d)
  | _, _, _, .nil => .nil
  | _, _, 0, .cons _ t => .cons r t
  | _, _, i + 1, .cons q t => .cons q (SdA.set r i t)
theorem SdA.drop : ∀ {vs : List V} {ds : List D} (n : Nat), SdA K H mu vs ds → SdA K H mu (vs.drop n) (ds.drop n)
  | _, _, 0, r => r
  | _, _, _ + 1, .nil => .nil
  | _, _, n + 1, .cons _ t => SdA.drop n t
theorem SdA.take : ∀ {vs : List V} {ds : List D} (n : Nat), SdA K H mu vs ds → SdA K H mu (vs.take n) (ds.take n)
  | _, _, 0, _ => .nil
  | _, _, _ + 1, .nil => .nil
  | _, _, n + 1, .cons r t => .cons r (SdA.take n t)
theorem SdA.reverse {vs : List V} {ds : List D} (h : SdA K H mu vs ds) : SdA K H mu vs.reverse ds.reverse := by
  induction vs generalizing ds with
  | nil => cases h; exact .nil
  | cons v vs ih =>
    cases h with
    | cons r t =>
      rw [List.reverse_cons, List.reverse_cons]
      exact (ih t).append (.cons r .nil)
theorem SdA.rep {vs : List V} {ds : List D} (h : SdA K H mu vs ds) : ∀ k : Nat, SdA K H mu (List.replicate k vs).flatten (List.replicate k ds).flatten
  | 0 => .nil
  | k + 1 => by
    rw [List.replicate_succ, List.replicate_succ, List.flatten_cons, List.flatten_cons]
    exact h.append (SdA.rep h k)
theorem SdA.nil_iff {vs : List V} {ds : List D} (h : SdA K H mu vs ds) : vs = [] ↔ ds = [] := by
  have := h.length
  constructor <;> intro e <;> subst e
  · exact List.length_eq_zero_iff.mp this.symm
  · exact List.length_eq_zero_iff.mp this
end
structure SRel (C : Cn) (H : Hp) (mu : List Addr) (st : Sto) : Prop where
  len : mu.length = st.length
  nd : mu.Nodup
  cel : ∀ (n : Nat) (a : Addr) (ds : List D), mu[n]? = some a → st[n]? = some ds → ∃ xs, H a = some (.lst xs) ∧ SdA C.K H mu xs ds
  tabs : LamX.Tabs C.T H
theorem SRel.inMu {C : Cn} {H : Hp} {mu : List Addr} {st : Sto} (s : SRel C H mu st) {a : Addr} (h : a ∈ mu) : ∃ xs, H a = some (.lst xs) := by
  obtain ⟨n, hn, rfl⟩ := List.getElem_of_mem h
  have h2 : n < st.length := by rw [← s.len]; exact hn
  obtain ⟨xs, q, _⟩ := s.cel n _ st[n] (List.getElem?_eq_getElem hn) (List.getElem?_eq_getElem h2)
  exact ⟨xs, q⟩
/-- a new object is laid; the store stands -/
theorem SRel.upd {C : Cn} {H : Hp} {mu : List Addr} {st : Sto} (s : SRel C H mu st) {p : Addr} {o : HO} (h : H p = none) : SRel C (upd H p o) mu st := by
  refine ⟨s.len, s.nd, fun n a ds h1 h2 => ?_, s.tabs.ext fun b o' e => by rw [upd_ne (ne_of_none e h)]; exact e⟩
  obtain ⟨xs, q, t⟩ := s.cel n a ds h1 h2
  exact ⟨xs, by rw [upd_ne (ne_of_none q h)]; exact q, t.mono (Ext.upd h)⟩
/-- a list that is no cell is changed -/
theorem SRel.updL {C : Cn} {H : Hp} {mu : List Addr} {st : Sto} (s : SRel C H mu st) {a : Addr} {zs : List V} {o : HO} (h : H a = some (.lst zs)) (n : a ∉ mu) : SRel C (L2.upd H a o) mu st := by
  refine ⟨s.len, s.nd, fun m b ds' h1 h2 => ?_, fun p hp => ?_⟩
  · obtain ⟨xs, q, t⟩ := s.cel m b ds' h1 h2
    have nb : b ≠ a := fun z => by subst z; exact n (List.mem_of_getElem? h1)
    exact ⟨xs, by rw [upd_ne nb]; exact q, t.monoW (ExtW.updL h)⟩
  · have ne : ∀ b o', H b = some o' → (∀ ws, o' ≠ .lst ws) → b ≠ a := fun b o' q m z => by
      subst z; rw [h] at q; cases q; exact m zs rfl
    obtain ⟨ps, a1, a2, a3⟩ := s.tabs p hp
    refine ⟨ps, by rw [upd_ne (ne _ _ a1 (fun _ z => by cases z))]; exact a1, a2, fun pos cv hc => ?_⟩
    obtain ⟨c, e1, e2⟩ := a3 pos cv hc
    exact ⟨c, e1, by rw [upd_ne (ne _ _ e2 (fun _ z => by unfold LamX.CodeO at z; cases z))]; exact e2⟩
/-- what a slot holds -/
def SlotOk (K : PySem.W.Frag) (H : Hp) (mu : List Addr) (H0 : Hp) : Option (Option V) → Slot → Prop
  | _, .no => True
  | some (some v), .val d => Sd K H mu v d
  | some (some (.ref a)), .own ds => H0 a = none ∧ a ∉ mu ∧ ∃ xs, H a = some (.lst xs) ∧ SdA K H mu xs ds
  | _, _ => False
structure Rel (C : Cn) (H0 : Hp) (mu0 : List Addr) (σ : L2.St) (H : Hp) (r : Env) (st : Sto) (mu : List Addr) : Prop where
  len : σ.length = r.length
  slots : ∀ (i : Nat) (sl : Slot), r[i]? = some sl → SlotOk C.K H mu H0 σ[i]? sl
  dis : ∀ (i j : Nat) (a : Addr) (ds es : List D), i ≠ j → σ[i]? = some (some (.ref a)) → σ[j]? = some (some (.ref a)) → r[i]? = some (.own ds) → r[j]? = some (.own es) → False
  srel : SRel C H mu st
  ext : Ext mu0 mu H0 H
section
variable {C : Cn} {H0 H H1 : Hp} {mu0 mu mu1 : List Addr} {σ : L2.St} {r : Env} {st st1 : Sto}
theorem SlotOk.mono {o : Option (Option V)} {sl : Slot} (e : Ext mu mu1 H H1) (h : SlotOk C.K H mu H0 o sl) : SlotOk C.K H1 mu1 H0 o sl := by
  cases sl with
  | no => exact trivial
  | val d =>
    match o, h with
    | some (some v), h => exact Sd.mono e h
  | own ds =>
    match o, h with
    | some (some (.ref a)), h =>
      obtain ⟨h1, h2, xs, h3, h4⟩ := h
      exact ⟨h1, e.notin h3 h2, xs, e.keepL _ _ h3 h2, h4.mono e⟩
theorem Rel.step (R : Rel C H0 mu0 σ H r st mu) (e : Ext mu mu1 H H1) (s : SRel C H1 mu1 st1) : Rel C H0 mu0 σ H1 r st1 mu1 :=
  ⟨R.len, fun i sl h => (R.slots i sl h).mono e, R.dis, s, R.ext.trans e⟩
theorem Rel.val (R : Rel C H0 mu0 σ H r st mu) {i : Nat} {d : D} (h : getV r i = some d) : ∃ v, σ[i]? = some (some v) ∧ Sd C.K H mu v d := by
  unfold getV at h
  split at h
  · next q =>
    cases h
    have := R.slots i _ q
    match hs : σ[i]?, this with
    | some (some v), this => exact ⟨v, rfl, this⟩
  · cases h
theorem Rel.own (R : Rel C H0 mu0 σ H r st mu) {i : Nat} {ds : List D} (h : getO r i = some ds) : ∃ a xs, σ[i]? = some (some (.ref a)) ∧ H0 a = none ∧ a ∉ mu ∧ H a = some (.lst xs) ∧ SdA C.K H mu xs ds := by
  unfold getO at h
  split at h
  · next q =>
    cases h
    have := R.slots i _ q
    match hs : σ[i]?, this with
    | some (some (.ref a)), ⟨h1, h2, xs, h3, h4⟩ => exact ⟨a, xs, rfl, h1, h2, h3, h4⟩
  · cases h
/-- a slot takes a value -/
theorem Rel.set (R : Rel C H0 mu0 σ H r st mu) {v : V} {d : D} (i : Nat) (h : Sd C.K H mu v d) : Rel C H0 mu0 (σ.set i (some v)) H (r.set i (.val d)) st mu := by
  refine ⟨by rw [List.length_set, List.length_set]; exact R.len, fun j sl hj => ?_, fun k j a ds es hne h1 h2 h3 h4 => ?_, R.srel, R.ext⟩
  · by_cases e : i = j
    · subst e
      have hi : i < r.length := by
        have := (List.getElem?_eq_some_iff.mp hj).1
        simpa using this
      rw [List.getElem?_set_self hi] at hj
      cases hj
      rw [List.getElem?_set_self (by rw [R.len]; exact hi)]
      exact h
    · rw [List.getElem?_set_ne e] at hj ⊢
      exact R.slots j sl hj
  · have ne : ∀ (k : Nat) (ds : List D), (r.set i (Slot.val d))[k]? = some (Slot.own ds) → i ≠ k := fun k ds hk z => by
      subst z
      have hi : i < r.length := by
        have := (List.getElem?_eq_some_iff.mp hk).1
        simpa using this
      rw [List.getElem?_set_self hi] at hk
      cases hk
    have n1 := ne k ds h3
    have n2 := ne j es h4
    rw [List.getElem?_set_ne n1] at h1 h3
    rw [List.getElem?_set_ne n2] at h2 h4
    exact R.dis k j a ds es hne h1 h2 h3 h4
/-- a slot takes a new list of its own -/
theorem Rel.setOwn (R : Rel C H0 mu0 σ H r st mu) {p : Addr} {xs : List V} {ds : List D} (i : Nat) (hp : H p = none) (h : SdA C.K H mu xs ds) : Rel C H0 mu0 (σ.set i (some (.ref p))) (L2.upd H p (.lst xs)) (r.set i (.own ds)) st mu := by
  have e : Ext mu mu H (L2.upd H p (.lst xs)) := Ext.upd hp
  have s : SRel C (L2.upd H p (.lst xs)) mu st := R.srel.upd hp
  have hpm : p ∉ mu := fun z => by
    obtain ⟨_, q⟩ := R.srel.inMu z
    rw [q] at hp; cases hp
  have h0p : H0 p = none := R.ext.isSome hp (fun z => hpm (R.ext.mem z))
  have R1 := R.step e s
  refine ⟨by rw [List.length_set, List.length_set]; exact R.len, fun j sl hj => ?_, fun k j a ds' es hne h1 h2 h3 h4 => ?_, s, R1.ext⟩
  · by_cases z : i = j
    · subst z
      have hi : i < r.length := by
        have := (List.getElem?_eq_some_iff.mp hj).1
        simpa using this
      rw [List.getElem?_set_self hi] at hj
      cases hj
      rw [List.getElem?_set_self (by rw [R.len]; exact hi)]
      exact ⟨h0p, hpm, xs, upd_same, h.mono e⟩
    · rw [List.getElem?_set_ne z] at hj ⊢
      exact R1.slots j sl hj
  · have addr : ∀ (k : Nat) (ds : List D), r[k]? = some (Slot.own ds) → σ[k]? ≠ some (some (V.ref p)) := fun k ds hk z => by
      have := R.slots k _ hk
      rw [z] at this
      obtain ⟨_, _, _, q, _⟩ := this
      rw [q] at hp; cases hp
    by_cases z1 : i = k
    · subst z1
      have z2 : i ≠ j := hne
      rw [List.getElem?_set_ne z2] at h2 h4
      have hi : i < σ.length := by
        have := (List.getElem?_eq_some_iff.mp h1).1
        simpa using this
      rw [List.getElem?_set_self hi] at h1
      cases h1
      exact addr j es h4 h2
    · rw [List.getElem?_set_ne z1] at h1 h3
      by_cases z2 : i = j
      · subst z2
        have hi : i < σ.length := by
          have := (List.getElem?_eq_some_iff.mp h2).1
          simpa using this
        rw [List.getElem?_set_self hi] at h2
        cases h2
        exact addr k ds' h3 h1
      · rw [List.getElem?_set_ne z2] at h2 h4
        exact R.dis k j a ds' es hne h1 h2 h3 h4
/-- .. one that lies there since -/
theorem Rel.ownAt (R : Rel C H0 mu0 σ H r st mu) {p : Addr} {xs : List V} {ds : List D} (i : Nat) (hp : H p = none) (e : Ext mu mu1 H H1) (s : SRel C H1 mu1 st1) (hx : H1 p = some (.lst xs)) (hm : p ∉ mu1) (h : SdA C.K H1 mu1 xs ds) : Rel C H0 mu0 (σ.set i (some (.ref p))) H1 (r.set i (.own ds)) st1 mu1 := by
  have hpm : p ∉ mu := fun z => by
    obtain ⟨_, q⟩ := R.srel.inMu z
    rw [q] at hp; cases hp
  have h0p : H0 p = none := R.ext.isSome hp (fun z => hpm (R.ext.mem z))
  have R1 := R.step e s
  refine ⟨by rw [List.length_set, List.length_set]; exact R.len, fun j sl hj => ?_, fun k j a ds' es hne h1 h2 h3 h4 => ?_, s, R1.ext⟩
  · by_cases z : i = j
    · subst z
      have hi : i < r.length := by
        have := (List.getElem?_eq_some_iff.mp hj).1
        simpa using this
      rw [List.getElem?_set_self hi] at hj
      cases hj
      rw [List.getElem?_set_self (by rw [R.len]; exact hi)]
      exact ⟨h0p, hm, xs, hx, h⟩
    · rw [List.getElem?_set_ne z] at hj ⊢
      exact R1.slots j sl hj
  · have addr : ∀ (k : Nat) (ds : List D), r[k]? = some (Slot.own ds) → σ[k]? ≠ some (some (V.ref p)) := fun k ds hk z => by
      have := R.slots k _ hk
      rw [z] at this
      obtain ⟨_, _, _, q, _⟩ := this
      rw [q] at hp; cases hp
    by_cases z1 : i = k
    · subst z1
      have z2 : i ≠ j := hne
      rw [List.getElem?_set_ne z2] at h2 h4
      have hi : i < σ.length := by
        have := (List.getElem?_eq_some_iff.mp h1).1
        simpa using this
      rw [List.getElem?_set_self hi] at h1
      cases h1
      exact addr j es h4 h2
    · rw [List.getElem?_set_ne z1] at h1 h3
      by_cases z2 : i = j
      · subst z2
        have hi : i < σ.length := by
          have := (List.getElem?_eq_some_iff.mp h2).1
          simpa using this
        rw [List.getElem?_set_self hi] at h2
        cases h2
        exact addr k ds' h3 h1
      · rw [List.getElem?_set_ne z2] at h2 h4
        exact R.dis k j a ds' es hne h1 h2 h3 h4
/-- an owned list is changed -/
theorem Rel.grow (R : Rel C H0 mu0 σ H r st mu) {i : Nat} {a : Addr} {ys : List V} {ds es : List D} (hi : r[i]? = some (.own ds)) (hs : σ[i]? = some (some (.ref a))) (h : SdA C.K H mu ys es) :
    Rel C H0 mu0 σ (L2.upd H a (.lst ys)) (r.set i (.own es)) st mu := by
  have hq := R.slots i _ hi
  rw [hs] at hq
  obtain ⟨h0, hm, xs, hx, _⟩ := hq
  have ex : Ext mu0 mu H0 (L2.upd H a (.lst ys)) := by
    refine ⟨R.ext.pre, fun b o q n m => ?_, fun b zs q n => ?_, fun b ps q => ?_, R.ext.new⟩
    · rw [upd_ne (ne_of_none q h0)]; exact R.ext.keepN b o q n m
    · rw [upd_ne (ne_of_none q h0)]; exact R.ext.keepL b zs q n
    · rw [upd_ne (ne_of_none q h0)]; exact R.ext.keepT b ps q
  have sd := ExtW.updL (mu := mu) (o := .lst ys) hx
  have sr : SRel C (L2.upd H a (.lst ys)) mu st := R.srel.updL hx hm
  refine ⟨by rw [List.length_set]; exact R.len, fun j sl hj => ?_, fun k j b ds' es' hne h1 h2 h3 h4 => ?_, sr, ex⟩
  · by_cases z : i = j
    · subst z
      rw [List.getElem?_set_self (List.getElem?_eq_some_iff.mp hi).1] at hj
      cases hj
      rw [hs]
      exact ⟨h0, hm, ys, upd_same, h.monoW sd⟩
    · rw [List.getElem?_set_ne z] at hj
      have hq := R.slots j sl hj
      cases sl with
      | no => exact trivial
      | val d =>
        match hs' : σ[j]?, hq with
        | some (some v), hq => exact Sd.monoW sd hq
      | own ds' =>
        match hs' : σ[j]?, hq with
        | some (some (.ref b)), ⟨q1, q2, zs, q3, q4⟩ =>
          have nb : b ≠ a := fun z' => by
            subst z'
            exact R.dis i j b ds ds' z hs hs' hi hj
          exact ⟨q1, q2, zs, by rw [upd_ne nb]; exact q3, q4.monoW sd⟩
  · have old : ∀ (k : Nat) (ds' : List D), (r.set i (Slot.own es))[k]? = some (Slot.own ds') → ∃ ds2, r[k]? = some (Slot.own ds2) := fun k ds' hk => by
      by_cases z : i = k
      · subst z; exact ⟨ds, hi⟩
      · rw [List.getElem?_set_ne z] at hk; exact ⟨ds', hk⟩
    obtain ⟨d1, o1⟩ := old k ds' h3
    obtain ⟨d2, o2⟩ := old j es' h4
    exact R.dis k j b d1 d2 hne h1 h2 o1 o2
/-- an owned list is frozen -/
theorem Rel.frz (R : Rel C H0 mu0 σ H r st mu) {i : Nat} {a : Addr} {xs : List V} {ds : List D} {o : Obj} (hi : r[i]? = some (.own ds)) (hs : σ[i]? = some (some (.ref a))) (hx : H a = some (.lst xs)) :
    Rel C H0 mu0 σ (L2.upd H a (.frz o (.lst xs))) (r.set i (.val (.lst ds))) st mu := by
  have hq := R.slots i _ hi
  rw [hs] at hq
  obtain ⟨h0, hm, xs', hx', hd⟩ := hq
  rw [hx] at hx'; cases hx'
  have sd := ExtW.updL (mu := mu) (o := .frz o (.lst xs)) hx
  have sr : SRel C (L2.upd H a (.frz o (.lst xs))) mu st := R.srel.updL hx hm
  have ex : Ext mu0 mu H0 (L2.upd H a (.frz o (.lst xs))) := by
    refine ⟨R.ext.pre, fun b o' q n m => ?_, fun b zs q n => ?_, fun b ps q => ?_, R.ext.new⟩
    · rw [upd_ne (ne_of_none q h0)]; exact R.ext.keepN b o' q n m
    · rw [upd_ne (ne_of_none q h0)]; exact R.ext.keepL b zs q n
    · rw [upd_ne (ne_of_none q h0)]; exact R.ext.keepT b ps q
  refine ⟨by rw [List.length_set]; exact R.len, fun j sl hj => ?_, fun k j b ds' es' hne h1 h2 h3 h4 => ?_, sr, ex⟩
  · by_cases z : i = j
    · subst z
      rw [List.getElem?_set_self (List.getElem?_eq_some_iff.mp hi).1] at hj
      cases hj
      rw [hs]
      exact .lst (.inl ⟨o, upd_same⟩) (hd.monoW sd)
    · rw [List.getElem?_set_ne z] at hj
      have hq := R.slots j sl hj
      cases sl with
      | no => exact trivial
      | val d =>
        match hs' : σ[j]?, hq with
        | some (some v), hq => exact Sd.monoW sd hq
      | own ds' =>
        match hs' : σ[j]?, hq with
        | some (some (.ref b)), ⟨q1, q2, zs, q3, q4⟩ =>
          have nb : b ≠ a := fun z' => by
            subst z'
            exact R.dis i j b ds ds' z hs hs' hi hj
          exact ⟨q1, q2, zs, by rw [upd_ne nb]; exact q3, q4.monoW sd⟩
  · have old : ∀ (k : Nat) (ds' : List D), (r.set i (Slot.val (.lst ds)))[k]? = some (Slot.own ds') → r[k]? = some (Slot.own ds') := fun k ds' hk => by
      by_cases z : i = k
      · subst z
        rw [List.getElem?_set_self (List.getElem?_eq_some_iff.mp hi).1] at hk
        cases hk
      · rw [List.getElem?_set_ne z] at hk; exact hk
    exact R.dis k j b ds' es' hne h1 h2 (old k ds' h3) (old j es' h4)
theorem Rel.no (R : Rel C H0 mu0 σ H r st mu) (i : Nat) : Rel C H0 mu0 (σ.set i none) H (r.set i .no) st mu := by
  refine ⟨by rw [List.length_set, List.length_set]; exact R.len, fun j sl hj => ?_, fun k j a ds es hne h1 h2 h3 h4 => ?_, R.srel, R.ext⟩
  · by_cases e : i = j
    · subst e
      have hi : i < r.length := by
        have := (List.getElem?_eq_some_iff.mp hj).1
        simpa using this
      rw [List.getElem?_set_self hi] at hj
      cases hj
      exact trivial
    · rw [List.getElem?_set_ne e] at hj ⊢
      exact R.slots j sl hj
  · have ne : ∀ (k : Nat) (ds : List D), (r.set i Slot.no)[k]? = some (Slot.own ds) → i ≠ k := fun k ds hk z => by
      subst z
      have hi : i < r.length := by
        have := (List.getElem?_eq_some_iff.mp hk).1
        simpa using this
      rw [List.getElem?_set_self hi] at hk
      cases hk
    have n1 := ne k ds h3
    have n2 := ne j es h4
    rw [List.getElem?_set_ne n1] at h1 h3
    rw [List.getElem?_set_ne n2] at h2 h4
    exact R.dis k j a ds es hne h1 h2 h3 h4
theorem Rel.wipe (R : Rel C H0 mu0 σ H r st mu) : ∀ vs : List Nat, Rel C H0 mu0 (L2.wipe σ vs) H (wipeE r vs) st mu
  | [] => R
  | v :: vs => (Rel.wipe R vs).no v
end
end Rt
namespace Rt
open PySem PySem.Spec PyProof.Rows L2
section
variable {X : Cx}
theorem peImp {e : Expr} {t t' : TE} (h : PE X e t) (w : ∀ σ H Q, t' σ H Q → t σ H Q) : PE X e t' := ⟨fun pins s σ H Q I q => h.run pins s σ H Q I (w σ H Q q)⟩
theorem ptImp {e : Expr} {t t' : TT} (h : PT X e t) (w : ∀ σ H Q, t' σ H Q → t σ H Q) : PT X e t' := ⟨fun pins s σ H Q I q => h.run pins s σ H Q I (w σ H Q q)⟩
theorem pwImp {e : Expr} {t t' : TT} (h : PW X e t) (w : ∀ σ H Q, t' σ H Q → t σ H Q) : PW X e t' := ⟨fun wh pins s σ H Q I q => h.run wh pins s σ H Q I (w σ H Q q)⟩
theorem paImp {es : List Expr} {t t' : TA} (h : PA X es t) (w : ∀ σ H Q, t' σ H Q → t σ H Q) : PA X es t' := ⟨fun pos pins s σ H Q I q => h.run pos pins s σ H Q I (w σ H Q q)⟩
theorem psImp {st : Stmt} {t t' : TS} (h : PS X st t) (w : ∀ D σ H, t' D σ H → t D σ H) : PS X st t' := ⟨fun pins s σ H D I q => h.run pins s σ H D I (w D σ H q)⟩
theorem pssImp {st : List Stmt} {t t' : TS} (h : PSs X st t) (w : ∀ D σ H, t' D σ H → t D σ H) : PSs X st t' := ⟨fun pins s σ H D I q => h.run pins s σ H D I (w D σ H q)⟩
theorem piImp {tg iter : Expr} {t t' : TI} (h : PI X tg iter t) (w : ∀ σ H R, t' σ H R → t σ H R) : PI X tg iter t' := ⟨fun pins s σ H R I q => h.run pins s σ H R I (w σ H R q)⟩
theorem pgImp {tg : Expr} {t t' : TG} (h : PG X tg t) (w : ∀ v σ H Q, t' v σ H Q → t v σ H Q) : PG X tg t' := ⟨fun pins s σ H v u Q I r q => h.run pins s σ H v u Q I r (w v σ H Q q)⟩
/-- the list that came is frozen -/
theorem peFrz {e : Expr} {t : TE} (h : PE X e t) : PE X e (fun σ H Q => t σ H fun v H1 => ∃ a xs, v = .ref a ∧ H1 a = some (.lst xs) ∧ ∀ o, Q v (upd H1 a (.frz o (.lst xs)))) := by
  refine ⟨fun pins s σ H Q I q => thn (h.run pins s σ H _ I q) fun u s1 ⟨v, H1, I1, r, a, xs, ev, ha, q1⟩ => ?_⟩
  obtain ⟨o, I2⟩ := I1.lock (u := .lst xs) ha trivial
  exact ⟨v, _, I2, r, q1 o⟩
/-- a list is frozen ahead of a block -/
theorem pssFrz {sts : List Stmt} {t : TS} (h : PSs X sts t) : PSs X sts (fun D σ H => ∃ a xs, H a = some (.lst xs) ∧ ∀ o, t D σ (upd H a (.frz o (.lst xs)))) := by
  refine ⟨fun pins s σ H D I q => ?_⟩
  obtain ⟨a, xs, ha, q1⟩ := q
  obtain ⟨o, I2⟩ := I.lock (u := .lst xs) ha trivial
  exact h.run pins s σ _ D I2 (q1 o)
/-- a if t else b, as a test -/
theorem ptIf {c a b : Expr} {pos : Pos} {tc ta tb : TT} (hc : PT X c tc) (ha : PT X a ta) (hb : PT X b tb) : PT X (.IfExp c a b pos) (fun σ H Q => tc σ H fun k H1 => if k = true then ta σ H1 Q else tb σ H1 Q) := by
  refine ⟨fun pins s σ H Q I q => ?_⟩
  have e : ∀ wh, isTrue (.IfExp c a b pos) X.env wh = (do if ← isTrue c X.env (eval c X.env) then isTrue a X.env (eval a X.env) else isTrue b X.env (eval b X.env)) := fun _ => by
    rw [PySem.isTrue]
  rw [e]
  refine wpAny_bind (thn (hc.run pins s σ H _ I q) fun k s1 ⟨H1, I1, q1⟩ => ?_)
  cases k with
  | true => exact ha.run pins s1 σ H1 Q I1 q1
  | false => exact hb.run pins s1 σ H1 Q I1 q1
theorem mulOk_ok {i j : Int} (h : mulOk i j = true) : IntMulOk i j := by
  unfold mulOk at h
  simp only [Bool.or_eq_true, Bool.and_eq_true, decide_eq_true_eq] at h
  rcases h with (h | h) | ⟨h1, h2⟩
  · exact CMul.ok (.inl ⟨by omega, by omega⟩)
  · exact CMul.ok (.inr ⟨by omega, by omega⟩)
  · refine CMulW.ok (wide_mul (a := 100000) (b := 100000) ?_ ?_ (by decide) (by decide) (by decide))
    · unfold bigN at h1; exact h1
    · unfold bigN at h2; exact h2
theorem op_mulX : OpR X (binaryOp .Mult) (rI (fun i j => mulOk i j = true) fun i j => .int (i * j)) := opI fun _ _ _ _ _ _ _ hc q => mul_int q (mulOk_ok hc)
theorem op_divX : OpR X (binaryOp .FloorDiv) (rI (fun _ j => divOk j = true) fun i j => .int (i.fdiv j)) := opI fun i j _ _ _ _ _ hc q => by
  unfold divOk at hc
  simp only [Bool.and_eq_true, decide_eq_true_eq] at hc
  refine floordiv_int hc.1 q (.inl (PyProof.noPylong_of_log2 ?_))
  unfold divN at hc
  exact PySem.Flt.log2_lt_of (by decide) hc.2
theorem op_catX : OpR X (binaryOp .Add) (fun x y H Q => ∃ l b xs zs, x = .ref l ∧ y = .ref b ∧ SqL X.K H l xs ∧ SqL X.K H b zs ∧ xs.length + zs.length ≤ sizeLine ∧ ∀ p, H p = none → Q (.ref p) (upd H p (.lst (xs ++ zs)))) := by
  intro pins s σ H x y v u Q I rx ry h
  obtain ⟨l, b, xs, zs, rfl, rfl, hH, hB, hz, q⟩ := h
  cases rx
  cases ry
  obtain ⟨its, r, ⟨⟨cls, dd, data, sl⟩, n, ho, hc, hd0, hd⟩, z⟩ := I.list hH
  obtain ⟨its2, r2, ⟨⟨cls2, dd2, data2, sl2⟩, n2, ho2, hc2, hd02, hd2⟩, z2⟩ := I.list hB
  simp only at hc hd hc2 hd2
  subst hc hd hc2 hd2
  have hl := r.length
  have hl2 := r2.length
  refine concat_meets ⟨_, ho, rfl⟩ ⟨_, ho2, rfl⟩ noFill_list_add seq_list_add PySem.F.slot_list_add PySem.F.entry_list_add (PySem.F.args_list_add_2 _ _) (list_addW l b its.toArray its2.toArray n n2 dd dd2 sl sl2 (by simp; omega)) ⟨ho, ho2, ?_⟩
  have ea : its.toArray ++ its2.toArray = (its ++ its2).toArray := by simp
  rw [ea]
  exact ⟨.ref _, _, I.lnew (t' := s.toks) (r.append r2) (by rw [List.length_append]; omega), rfl, q _ I.fresh⟩
theorem tuple_mul1 (l : Addr) (items : Array Value) (n : Nat) (dd : Option Addr) (sl : Array (Option Value)) (x : Int) (u : Tok) (c0 : (decide (x < -(2 ^ 63)) || decide (x ≥ 2 ^ 63)) = false) (c1 : (items.isEmpty || x == 1) = true) :
    Meets (Builtin.«tuple.__mul__» ⟨[.ref l, .int x u], []⟩) (fun _ R s => s.heap.get? l = some { cls := .type "tuple", dict := dd, data := .seq items n, slots := sl } ∧ R (.ok (.ret (Value.ref l))) s) :=
  .of_wp fun prog w A R s h => by
    obtain ⟨hp, g, d, tk, os⟩ := s
    obtain ⟨hl, h⟩ := h
    have f1 := AutoSeq1.idx_int
    have f2 := AutoSeq1.sub_tuple_tuple
    wp_walk using wpAny_loadPart' hl
    repeat (first
      | (refine wpAny_ite_false (decide_eq_false (by rw [c0]; exact Bool.false_ne_true)) ?_; wp_walk using wpAny_loadPart' hl)
      | (refine wpAny_ite_true (decide_eq_true c1) ?_; wp_walk using wpAny_loadPart' hl))
    exact ⟨_, rfl, h⟩
theorem tuple_mul0 (l : Addr) (items : Array Value) (n : Nat) (dd : Option Addr) (sl : Array (Option Value)) (x : Int) (u : Tok) (c0 : (decide (x < -(2 ^ 63)) || decide (x ≥ 2 ^ 63)) = false) (c1 : (items.isEmpty || x == 1) = false) (c2 : (decide (x ≤ 0) || items.isEmpty) = true) :
    Meets (Builtin.«tuple.__mul__» ⟨[.ref l, .int x u], []⟩) (fun _ R s => s.heap.get? l = some { cls := .type "tuple", dict := dd, data := .seq items n, slots := sl } ∧
      R (.ok (.ret (Value.ref s.heap.objs.size))) { s with heap := s.heap.push { cls := Value.type "tuple", data := Data.seq #[] }, toks := s.toks }) :=
  .of_wp fun prog w A R s h => by
    obtain ⟨hp, g, d, tk, os⟩ := s
    obtain ⟨hl, h⟩ := h
    have f1 := AutoSeq1.idx_int
    have f2 := AutoSeq1.sub_tuple_tuple
    wp_walk using wpAny_loadPart' hl
    repeat (first
      | (refine wpAny_ite_false (decide_eq_false (by rw [c0]; exact Bool.false_ne_true)) ?_; wp_walk using wpAny_loadPart' hl)
      | (refine wpAny_ite_false (decide_eq_false (by rw [c1]; exact Bool.false_ne_true)) ?_; wp_walk using wpAny_loadPart' hl)
      | (refine wpAny_ite_true (decide_eq_true c2) ?_; wp_walk using wpAny_loadPart' hl))
    exact ⟨_, rfl, h⟩
theorem op_repTX : OpR X (binaryOp .Mult) (fun x y H Q => ∃ l k xs, x = .ref l ∧ y = .int k ∧ SqT X.K H l xs ∧ xs ≠ [] ∧ -1000 ≤ k ∧ k ≤ 1000 ∧ xs.length ≤ 1000 ∧ (k = 1 → Q (.ref l) H) ∧ (k ≠ 1 → ∀ p, H p = none → Q (.ref p) (upd H p (.tup (List.replicate k.toNat xs).flatten)))) := by
  intro pins s σ H x y v u Q I rx ry h
  obtain ⟨l, k, xs, ex, ey, hT, hne, h0, h1, hz, q1, q2⟩ := h
  by_cases k2 : 2 ≤ k
  · exact op_repT pins s σ H x y v u Q I rx ry ⟨l, k, xs, ex, ey, hT, hne, k2, h1, hz, q2 (by omega)⟩
  subst ex ey
  cases rx
  obtain ⟨t, rfl⟩ := ry
  obtain ⟨its, r, ⟨⟨cls, dd, data, sl⟩, ho, hc, n, hd⟩, hs⟩ := I.tuple hT
  simp only at hc hd
  subst hc hd
  have hle : its.length = xs.length := r.length.symm
  have hn : its ≠ [] := fun e => hne (by
    rw [e] at hle
    exact List.eq_nil_of_length_eq_zero hle.symm)
  have hi : its.toArray.isEmpty = false := by
    cases its with
    | nil => exact absurd rfl hn
    | cons a b => rfl
  have c0 : (decide (k < -(2 ^ 63)) || decide (k ≥ 2 ^ 63)) = false := by
    rw [decide_eq_false (by omega), decide_eq_false (by omega)] <;> rfl
  by_cases k1 : k = 1
  · refine wpAny_binaryOp_repeat_ref (T := "tuple") (U := "int") (by decide) ⟨_, ho, rfl⟩ (fun s' => typeIs_int s' k t) noFill_tuple_mul F.fills_int_mul F.slot_int_rmul repeat_tuple F.slot_int_index.lookup
      (call_meets F.slot_int_rmul (typeIs_int s k t) F.entry_int_rmul (F.args_int_rmul_2 _ _) (int_rmul_tuple k t l its.toArray n dd sl)
        ⟨ho, rfl, ⟨_, ho, rfl⟩, call_meets F.slot_tuple_mul ⟨_, ho, rfl⟩ F.entry_tuple_mul (F.args_tuple_mul_2 _ _) (tuple_mul1 l its.toArray n dd sl k t c0 (by rw [hi, k1]; rfl)) ⟨ho, ?_⟩⟩)
    exact ⟨.ref l, H, I, rfl, q1 k1⟩
  · have c1 : (its.toArray.isEmpty || k == 1) = false := by
      rw [hi, Bool.false_or]
      exact beq_eq_false_iff_ne.mpr (by omega)
    have c2 : (decide (k ≤ 0) || its.toArray.isEmpty) = true := by
      rw [decide_eq_true (by omega)]; rfl
    refine wpAny_binaryOp_repeat_ref (T := "tuple") (U := "int") (by decide) ⟨_, ho, rfl⟩ (fun s' => typeIs_int s' k t) noFill_tuple_mul F.fills_int_mul F.slot_int_rmul repeat_tuple F.slot_int_index.lookup
      (call_meets F.slot_int_rmul (typeIs_int s k t) F.entry_int_rmul (F.args_int_rmul_2 _ _) (int_rmul_tuple k t l its.toArray n dd sl)
        ⟨ho, rfl, ⟨_, ho, rfl⟩, call_meets F.slot_tuple_mul ⟨_, ho, rfl⟩ F.entry_tuple_mul (F.args_tuple_mul_2 _ _) (tuple_mul0 l its.toArray n dd sl k t c0 c1 c2) ⟨ho, ?_⟩⟩)
    have e0 : (List.replicate k.toNat xs).flatten = [] := by
      rw [show k.toNat = 0 by omega]; rfl
    refine ⟨.ref s.heap.objs.size, _, I.laid (t' := s.toks) (o := .tup []) (fun b ob q => Heap.get?_push_of_some _ q) (Nat.le_refl _) ?_, rfl, ?_⟩
    · exact ⟨Nat.zero_le _, _, .nil, IsTup.new _ _⟩
    · have := q2 k1 _ (I.hok.fresh (Nat.le_refl s.heap.objs.size))
      rw [e0] at this
      exact this
end
theorem meets_enumerate_newT {v : Value} {o : Obj} {H : Heap → Prop} (B : Begins v o H) :
    Meets (Builtin.«enumerate.__new__» ⟨[.type "enumerate", v], []⟩) (fun _ R s => H s.heap ∧
      R (.ok (.ret (.ref (s.heap.push o).objs.size))) { s with heap := (s.heap.push o).push { cls := .type "enumerate", data := .fields #[.none, .bool false, .ref s.heap.objs.size, rawInt 0, .none, .none] } }) :=
  .of_wp fun prog w A R s h => by
    obtain ⟨hp, g, d, tk, os⟩ := s; obtain ⟨h1, h⟩ := h
    have hsub := sub_enumerate
    have q1 : ∀ {A' : Around} {E : Value → Shared → Prop} {Q : Value → Shared → Prop}, Q (.ref hp.objs.size) ⟨hp.push o, g, d, tk, os⟩ → wpAny (model prog w) A' (pyIter v) Q E ⟨hp, g, d, tk, os⟩ :=
      fun q => B.iter prog w _ _ ⟨hp, g, d, tk, os⟩ _ h1 q
    wp_walk using q1
    refine wpAny_stack_any fun st => wpAny_pure ?_
    split
    · rename_i c _ _ _ _ _
      cases (c == Value.type "enumerate")
      · wp_walk using q1
        exact ⟨_, rfl, h⟩
      · wp_walk using q1
        exact ⟨_, rfl, h⟩
    · wp_walk using q1
      exact ⟨_, rfl, h⟩
theorem call_enumerate_tup {prog : Program} {w : World} {A : Around} {E : Value → Shared → Prop} {s : Shared} {t : Addr} {items : Array Value} {Q : Value → Shared → Prop} (hT : s.heap.IsTuple t items)
    (h : ∀ h', IsEnum h' (s.heap.objs.size + 1) s.heap.objs.size 0 .none → h'.IsTupleIter s.heap.objs.size t 0 → h'.objs.size = s.heap.objs.size + 2 →
      (∀ b o, s.heap.get? b = some o → h'.get? b = some o) → Q (.ref (s.heap.objs.size + 1)) { s with heap := h' }) :
    wpAny (model prog w) A (call (.type "enumerate") [.ref t]) Q E s := by
  have B := begins_tuple t items
  refine callType_new F.called_enumerate (by decide) (F.typeCall_enumerate_1 _) (F.newCall_enumerate_1 _) (fun obj => F.args_object_init_2 obj _) F.entry_enumerate_new
    (meets_enumerate_newT B) ⟨hT, ?_⟩
  have hz : (s.heap.push { cls := .type "tuple_iterator", data := .fields #[.ref t, .int 0 0] }).objs.size = s.heap.objs.size + 1 := Heap.size_push ..
  show _ ∧ _
  rw [hz]
  have he : IsEnum ((s.heap.push { cls := .type "tuple_iterator", data := .fields #[.ref t, .int 0 0] }).push { cls := .type "enumerate", data := .fields #[.none, .bool false, .ref s.heap.objs.size, rawInt 0, .none, .none] }) (s.heap.objs.size + 1) s.heap.objs.size 0 .none := by
    have := Heap.get?_push_size (s.heap.push { cls := .type "tuple_iterator", data := .fields #[.ref t, .int 0 0] }) (o := { cls := .type "enumerate", data := .fields #[.none, .bool false, .ref s.heap.objs.size, rawInt 0, .none, .none] }) rfl
    rw [hz] at this; exact this
  refine ⟨⟨_, he, rfl⟩, h _ he ?_ (by rw [Heap.size_push, hz]) fun b o x => Heap.get?_push_of_some _ (Heap.get?_push_of_some _ x)⟩
  exact ⟨_, Heap.get?_push_of_some _ (Heap.get?_push_size _ rfl), rfl, rfl⟩
def IteT (K : PySem.W.Frag) (a : Addr) : L2.It :=
  ⟨fun i H => ∃ (xs : List V) (x : V), SqT K H a xs ∧ xs[i]? = some x, fun i H v H' => ∃ T x, v = .ref T ∧ H T = none ∧ H' = upd H T (.tup [.int (i : Nat), x]) ∧ ∀ xs, SqT K H a xs → xs[i]? = some x, fun i H => ∃ xs : List V, SqT K H a xs ∧ xs.length ≤ i⟩
theorem sqT_ne {K : PySem.W.Frag} {X : Cx} {pins : List (Addr × Obj)} {σ : L2.St} {H : Hp} {s : Shared} {a b : Addr} {xs : List V} {o : Obj} {c : String} (I : L2.Inv X pins σ H s) (h : SqT X.K H a xs) (hb : s.heap.get? b = some o) (hc : o.cls = .type c) (n : c ≠ "tuple") : a ≠ b := fun z => by
  subst z
  obtain ⟨its, _, ⟨o', e, c', _⟩, _⟩ := I.tuple h
  rw [hb] at e; cases e
  rw [hc] at c'
  exact n (by injection c')
theorem turn_enumT {P : Program} {w : World} {K : PySem.W.Frag} {elts : List Expr} {kk : Nat} {tpos : Pos} (a e it : Addr) :
    Turn P w K (.Tuple elts kk tpos) (IteT K a) [e, it] e (fun i h => (∃ old, IsEnum h e it ((i : Nat) : Int) old) ∧ h.IsTupleIter it a i ∧ e ≠ it) where
  mem := by simp
  obj := fun i h st b hb => by
    obtain ⟨⟨old, he⟩, ⟨o, ho, hc, hd⟩, _⟩ := st
    have e' : b = e ∨ b = it := by simpa using hb
    rcases e' with z | z
    · rw [z]; exact ⟨_, he, fun v q => nomatch q⟩
    · rw [z]; exact ⟨o, ho, fun v q => by rw [hd] at q; cases q⟩
  keep := fun i h h' st k => let ⟨⟨old, he⟩, hi, hne⟩ := st; ⟨⟨old, k e (by simp) _ he⟩, hi.at fun o q => k it (by simp) o q, hne⟩
  item := by
    intro X hP hw hK hc i pins s σ H E I hf st hg
    subst hP hw hK
    obtain ⟨⟨old, he⟩, hit, hne⟩ := st
    obtain ⟨xs, x, hq, hx⟩ := hg
    obtain ⟨its, rv, p, hz⟩ := I.tuple hq
    obtain ⟨u, hu, ru⟩ := rv.get hx
    have hel : e < s.heap.objs.size := Heap.lt_size he
    have hil : it < s.heap.objs.size := by obtain ⟨_, q, _⟩ := hit; exact Heap.lt_size q
    have ai : a ≠ it := by obtain ⟨o, q, c, _⟩ := hit; exact sqT_ne (K := X.K) I hq q c (by decide)
    have ae : a ≠ e := sqT_ne (K := X.K) I hq he rfl (by decide)
    have hh : X.A.in1.handled = none := I.ok.hd hc
    have D := Draws.tuple (prog := X.prog) (w := X.w) hh it a ai its.toArray
    have hlt : i < its.toArray.size := by
      have := (List.getElem?_eq_some_iff.mp hu).1
      simpa using this
    refine wpAny_pyNext_enum_itemC D he (i := i) ⟨hit, p⟩ hlt hne (by simp; exact ⟨hne, fun z => ae z.symm⟩) fun x' h' tk hx' ho hst' hT hsz hk => ?_
    have ex : x' = u := by
      have h1 : its[i]? = some x' := by simpa using hx'
      rw [hu] at h1; exact (Option.some.inj h1).symm
    subst ex
    refine ⟨_, rfl, wpAny_letOwnedTupleGo_enum (s := { s with heap := h', toks := tk + 1 }) ho fun h'' he' sb => ?_⟩
    have hT2 : h''.get? s.heap.objs.size = some { cls := .type "tuple", data := .seq #[.int i tk, x'] } := (sb.2 _ (Nat.ne_of_gt hel)).trans hT
    have new : ObjOk X.prog X.w (upd H s.heap.objs.size (.tup [.int (i : Nat), x])) h'' s.heap.objs.size (.tup [.int (i : Nat), x]) :=
      ⟨by show 2 ≤ sizeLine; decide, [.int i tk, x'], .cons ⟨_, rfl⟩ (.cons ru .nil), ⟨_, hT2, rfl, _, rfl⟩⟩
    have I1 : L2.Inv X pins σ (upd H s.heap.objs.size (.tup [.int (i : Nat), x])) { s with heap := h'', toks := tk + 1 } :=
      I.turnedNew (ch := [e, it]) (fun b ob hb q => (sb.2 b (fun z => hb (by simp [z]))).trans (hk b ob (fun z => hb (by simp [z])) (fun z => hb (by simp [z])) q)) hf (Nat.le_refl _) new
    refine ⟨.ref s.heap.objs.size, _, I1, rfl, ⟨_, x, rfl, I.hok.fresh (Nat.le_refl _), rfl, fun ys hy => by rw [I.tuple_inj hy hq]; exact hx⟩, ⟨⟨x', ?_⟩, hst'.1.at fun o q => (sb.2 it (Ne.symm hne)).trans q, hne⟩, fun b hb => ?_⟩
    · have e1 : ((i + 1 : Nat) : Int) = (i : Int) + 1 := by omega
      rw [e1]; exact he'
    · have hb' : b < s.heap.objs.size := by
        have e' : b = e ∨ b = it := by simpa using hb
        rcases e' with z | z
        · rw [z]; exact hel
        · rw [z]; exact hil
      rw [upd_ne (Nat.ne_of_lt hb')]
      exact (hf b hb).1
  done := by
    intro X hP hw hK hc i pins s σ H E I hf st hg
    subst hP hw hK
    obtain ⟨⟨old, he⟩, hit, hne⟩ := st
    obtain ⟨xs, hq, hx⟩ := hg
    obtain ⟨its, rv, p, hz⟩ := I.tuple hq
    obtain ⟨f0, f1, f2, f3, f4, f5⟩ := hf it (by simp)
    have hl := rv.length
    have ai : a ≠ it := by obtain ⟨o, q, c, _⟩ := hit; exact sqT_ne (K := X.K) I hq q c (by decide)
    have hh : X.A.in1.handled = none := I.ok.hd hc
    have D0 := Draws.tuple (prog := X.prog) (w := X.w) hh it a ai its.toArray
    have D : Draws X.prog X.w X.A.in1 it [it, a] i (fun j v => False) (fun j h => j = i ∧ h.IsTupleIter it a i ∧ h.IsTuple a its.toArray) := by
      refine ⟨fun _ _ st => let ⟨o, ho, _⟩ := st.2.1; ⟨o, ho⟩, fun _ _ _ st hk => ⟨st.1, st.2.1.at fun o e => hk it (by simp) o e, st.2.2.at fun o e => hk a (by simp) o e⟩, fun j s' Q E' hj st => ?_, fun s' Q E' st hE => ?_⟩
      · exact absurd st.1 (Nat.ne_of_lt hj)
      · exact wpAny_nextOf_tuple_end hh st.2.1 st.2.2 (by simp; omega) hE
    exact wpAny_pyNext_enum_endD D he ⟨rfl, hit, p⟩ fun h' eb => ⟨rfl, I.turned (t' := s.toks) (fun b o hb q => eb b o hb q) f0 f1 f3 f4 f5⟩
  self := fun A i s Q E st h => let ⟨⟨_, he⟩, _⟩ := st; wpAny_pyIter_enum he h
def iEnumA (K : PySem.W.Frag) (ta : TA) : TI := fun σ H R => ta σ H fun vs H1 => ∃ a xs, vs = [.ref a] ∧ ((SqL K H1 a xs ∧ R (Ite K a) H1) ∨ (SqT K H1 a xs ∧ R (IteT K a) H1))
theorem pi_enumA {X : Cx} {e : Expr} {ta : TA} {p pos tpos : Pos} {elts : List Expr} {kk : Nat} (hg : Gl X "enumerate") (hm : X.mg "enumerate" = none) (ha : PA X [e] ta) (hs : starEach [e] X.env = [(false, eval e X.env)] := by rfl) :
    PI X (.Tuple elts kk tpos) (.Call (.Name "enumerate" p) [e] [] pos) (iEnumA X.K ta) := by
  refine ⟨fun pins s σ H R I h => ?_⟩
  refine Call_ (ld_blt I hg hm boot_enumerate (PyProof.Rows.callWith_type1 (thn (ha.run pos pins s σ H _ I h) fun us s1 ⟨vs, H1, I1, r1, q1⟩ => ?_) hs rfl))
  obtain ⟨a, xs, ex, q1⟩ := q1
  subst ex
  cases r1 with
  | cons r rr =>
    cases rr
    cases r
    have fin : ∀ b, (b = s1.heap.objs.size + 1 ∨ b = s1.heap.objs.size) → FpOk X pins H1 b := fun b e' => by
      have hle : s1.heap.objs.size ≤ b := by
        rcases e' with z | z
        · rw [z]; exact Nat.le_add_right _ _
        · rw [z]; exact Nat.le_refl _
      exact I1.fpOk hle (I1.hok.fresh hle)
    rcases q1 with ⟨hq, q⟩ | ⟨hq, q⟩
    · obtain ⟨its, rv, p', hz⟩ := I1.list hq
      refine call_enumerate_list p'.isList fun h' he hit hsz hk => wpAny_pyIter_enum he ?_
      have I2 : L2.Inv X pins σ H1 { s1 with heap := h' } := I1.kept (t' := s1.toks) hk
      exact ⟨s1.heap.objs.size + 1, [s1.heap.objs.size + 1, s1.heap.objs.size], _, _, H1, rfl, I2, turn_enum a (s1.heap.objs.size + 1) s1.heap.objs.size, ⟨⟨.none, he⟩, hit, Nat.succ_ne_self _⟩, fun b hb => fin b (by simpa using hb), q⟩
    · obtain ⟨its, rv, p', hz⟩ := I1.tuple hq
      refine call_enumerate_tup p' fun h' he hit hsz hk => wpAny_pyIter_enum he ?_
      have I2 : L2.Inv X pins σ H1 { s1 with heap := h' } := I1.kept (t' := s1.toks) hk
      exact ⟨s1.heap.objs.size + 1, [s1.heap.objs.size + 1, s1.heap.objs.size], _, _, H1, rfl, I2, turn_enumT a (s1.heap.objs.size + 1) s1.heap.objs.size, ⟨⟨.none, he⟩, hit, Nat.succ_ne_self _⟩, fun b hb => fin b (by simpa using hb), q⟩
end Rt
namespace Rt
open PySem PySem.Spec PyProof.Rows L2
/-- what is asked of a result: for whatever lies in the heap behind it -/
def Post (C : Cn) {a b : Type} (Rl : Hp → List Addr → b → a → Prop) (r : Res a) (H : Hp) (mu : List Addr) (Q : b → Hp → Prop) (E : XK) : Prop := match r with
  | .ok d st => ∀ v H' mu', Ext mu mu' H H' → SRel C H' mu' st → Rl H' mu' v d → Q v H'
  | .exc c st => ∀ H' mu', Ext mu mu' H H' → SRel C H' mu' st → E (.ref (C.ca c)) none H'
  | .bad => False
section
variable {C : Cn} {a b c d : Type} {Rl : Hp → List Addr → b → a → Prop} {Rl2 : Hp → List Addr → d → c → Prop} {H H1 : Hp} {mu mu1 : List Addr} {Q : b → Hp → Prop} {Q2 : d → Hp → Prop} {E : XK}
theorem Post.mono {r : Res a} (h : Post C Rl r H mu Q E) (e : Ext mu mu1 H H1) : Post C Rl r H1 mu1 Q E := by
  cases r with
  | ok x st => exact fun v H' mu' f s q => h v H' mu' (e.trans f) s q
  | exc x st => exact fun H' mu' f s => h H' mu' (e.trans f) s
  | bad => exact h
theorem Post.bind {r : Res a} {f : a → Sto → Res c} (h : Post C Rl2 (r.bind f) H mu Q2 E)
    (k : ∀ x st v H1 mu1, Ext mu mu1 H H1 → SRel C H1 mu1 st → Rl H1 mu1 v x → Post C Rl2 (f x st) H1 mu1 Q2 E → Q v H1) : Post C Rl r H mu Q E := by
  cases r with
  | ok x st => exact fun v H' mu' e s q => k x st v H' mu' e s q (Post.mono h e)
  | exc x st => exact h
  | bad => exact h
theorem Post.here {x : a} {st : Sto} {v : b} (h : Post C Rl (.ok x st) H mu Q E) (s : SRel C H mu st) (q : Rl H mu v x) : Q v H := h v H mu .refl s q
end
def RSd (C : Cn) : Hp → List Addr → V → D → Prop := fun H mu v d => Sd C.K H mu v d
def RSdA (C : Cn) : Hp → List Addr → List V → List D → Prop := fun H mu v d => SdA C.K H mu v d
/-- a def's promise, by the function that it is -/
def spec (C : Cn) (G : List D → Sto → Res D) (np : Nat) : Sp := fun vs H Q E => vs.length = np ∧ ∃ ds st mu, SdA C.K H mu vs ds ∧ SRel C H mu st ∧ Post C (RSd C) (G ds st) H mu Q E
/-- what is around: names of defs by number -/
structure Gam where
  N : List Str
  fnm : Nat → Option Str
  exn : Nat → Option Str
def bltNames : List Str := ["len", "abs", "min", "max", "sum", "all", "any", "tuple", "list", "sorted", "int", "str", "isinstance", "bool", "range", "enumerate", "zip"]
/-- what a class of exceptions must have -/
def ExcOk (X : Cx) (x : Str) (a : Addr) : Prop := (x == ("__debug__" : Str)) = false ∧ X.mg x = some (.ref a) ∧ PySem.W.excIn X.K a HandSPX.veTail "ValueError.__new__" = true ∧ PySem.W.keepIn X.K (.ref a) = true ∧
  PySem.W.subIn X.K (.ref a) (.type "BaseException") = some true ∧ PySem.W.typeIn X.K (.ref a) = some (.type "type")
structure Good (C : Cn) (G : Gam) (F : Nat → List D → Sto → Res D) (k : Nat) (X : Cx) (E : XK) : Prop where
  hK : X.K = C.K
  hN : X.N = G.N
  nd : G.N.Nodup
  dbg : ∀ x ∈ G.N, (x == ("__debug__" : Str)) = false ∧ (x == ("__classdict__" : Str)) = false
  calm : X.calm = true
  room : Room k X.A
  tk : L2N.Takes X (fun cls d _ H => E cls d H)
  own : PassesOwn (model X.prog X.w) X.A X.env X.xe
  blt : ∀ x ∈ bltNames, X.mg x = none
  fns : ∀ f x, G.fnm f = some x → (x == ("__debug__" : Str)) = false ∧ ∃ fa fd ps, X.mg x = some (.ref fa) ∧ PySem.W.keepIn X.K (.ref fa) = true ∧ Binds X.K fd ps [] ∧
    FnOk X.prog X.w X.K X.mg X.base (L2N.CX X.prog X.w) k fa fd ps (spec C (F f) ps.length) ∧ ∀ ds st, ds.length ≠ ps.length → F f ds st = .bad
  exf : ∀ c x, G.exn c = some x → ExcOk X x (C.ca c)
section
variable (C : Cn) (F : Nat → List D → Sto → Res D)
/-- readings -/
def rdE (c : E) (E : XK) : TE := fun σ H Q => ∃ H0 mu0 r st mu, Rel C H0 mu0 σ H r st mu ∧ Post C (RSd C) (ev F c r st) H mu Q E
def rdEs (c : Es) (E : XK) : TA := fun σ H Q => ∃ H0 mu0 r st mu, Rel C H0 mu0 σ H r st mu ∧ Post C (RSdA C) (evs F c r st) H mu Q E
def RB : Hp → List Addr → Bool → Bool → Prop := fun _ _ b d => b = d
def rdT (c : E) (E : XK) : TT := fun σ H Q => ∃ H0 mu0 r st mu, Rel C H0 mu0 σ H r st mu ∧ Post C RB (tst (ev F c r st)) H mu Q E
end
section
variable {C : Cn} {G : Gam} {F : Nat → List D → Sto → Res D} {k : Nat} {X : Cx} {E : XK}
theorem Sd.cInt {K : PySem.W.Frag} {H : Hp} {mu : List Addr} {v : V} {i : Int} (h : Sd K H mu v (.int i)) : v = .int i := by cases h; rfl
theorem Sd.cBl {K : PySem.W.Frag} {H : Hp} {mu : List Addr} {v : V} {i : Bool} (h : Sd K H mu v (.bl i)) : v = .bl i := by cases h; rfl
theorem Sd.cTup {K : PySem.W.Frag} {H : Hp} {mu : List Addr} {v : V} {ds : List D} (h : Sd K H mu v (.tup ds)) : ∃ a xs, v = .ref a ∧ SqT K H a xs ∧ SdA K H mu xs ds := by
  cases h with
  | tup h t => exact ⟨_, _, rfl, h, t⟩
theorem Sd.cLst {K : PySem.W.Frag} {H : Hp} {mu : List Addr} {v : V} {ds : List D} (h : Sd K H mu v (.lst ds)) : ∃ a xs, v = .ref a ∧ Fz K H a xs ∧ SdA K H mu xs ds := by
  cases h with
  | lst h t => exact ⟨_, _, rfl, h, t⟩
theorem Sd.cCell {K : PySem.W.Frag} {H : Hp} {mu : List Addr} {v : V} {n : Nat} (h : Sd K H mu v (.cell n)) : ∃ a, v = .ref a ∧ mu[n]? = some a := by
  cases h with
  | cell h => exact ⟨_, rfl, h⟩
theorem sizeN_le : sizeN ≤ sizeLine := by rw [sizeLine_eq]; decide
/-- the result is a value that needs nothing new -/
theorem Post.val {d : D} {st : Sto} {H : Hp} {mu : List Addr} {Q : VK} {v : V} (h : Post C (RSd C) (.ok d st) H mu Q E) (s : SRel C H mu st) (q : Sd C.K H mu v d) : Q v H := Post.here h s q
/-- .. a new tuple -/
theorem Post.tup {ds : List D} {st : Sto} {H : Hp} {mu : List Addr} {Q : VK} {xs : List V} {p : Addr} (h : Post C (RSd C) (.ok (.tup ds) st) H mu Q E) (s : SRel C H mu st) (q : SdA C.K H mu xs ds) (hp : H p = none) : Q (.ref p) (upd H p (.tup xs)) :=
  h _ _ mu (Ext.upd hp) (s.upd hp) (.tup (.inl (.inl upd_same)) (q.mono (Ext.upd hp)))
/-- .. a new list, frozen at once -/
theorem Post.lst {ds : List D} {st : Sto} {H : Hp} {mu : List Addr} {Q : VK} {xs : List V} {p : Addr} (h : Post C (RSd C) (.ok (.lst ds) st) H mu Q E) (s : SRel C H mu st) (q : SdA C.K H mu xs ds) (hp : H p = none) :
    ∃ a ys, V.ref p = .ref a ∧ (upd H p (.lst xs)) a = some (.lst ys) ∧ ∀ o, Q (.ref p) (upd (upd H p (.lst xs)) a (.frz o (.lst ys))) := by
  refine ⟨p, xs, rfl, upd_same, fun o => ?_⟩
  rw [upd_upd]
  exact h _ _ mu (Ext.upd hp) (s.upd hp) (.lst (.inl ⟨o, upd_same⟩) (q.mono (Ext.upd hp)))
theorem sVar (g : Good C G F k X E) {i : Nat} {x : Str} {pos : Pos} (hi : G.N[i]? = some x) (hv : Vis X.env.scope x) : PE X (.Name x pos) (rdE C F (.var i) E) := by
  have hd := g.dbg x (List.mem_of_getElem? hi)
  refine peImp (pe_var (i := i) (by rw [g.hN]; exact hi) hv hd.1 hd.2) fun σ H Q ⟨H0, mu0, r, st, mu, R, h⟩ => ?_
  unfold ev at h
  cases e : getV r i with
  | none => rw [e] at h; exact h.elim
  | some d =>
    rw [e] at h
    obtain ⟨v, hs, q⟩ := R.val e
    exact ⟨v, hs, Post.val h R.srel q⟩
theorem sInt {i : Int} {j : Nat} {pos : Pos} : PE X (.Constant (.int i) j pos) (rdE C F (.int i) E) :=
  peImp pe_int fun σ H Q ⟨H0, mu0, r, st, mu, R, h⟩ => by unfold ev at h; exact Post.val h R.srel (.int i)
theorem sBl {i : Bool} {j : Nat} {pos : Pos} : PE X (.Constant (.bool i) j pos) (rdE C F (.bl i) E) :=
  peImp pe_bl fun σ H Q ⟨H0, mu0, r, st, mu, R, h⟩ => by unfold ev at h; exact Post.val h R.srel (.bl i)
theorem sNon {j : Nat} {pos : Pos} : PE X (.Constant .none j pos) (rdE C F .non E) :=
  peImp pe_non fun σ H Q ⟨H0, mu0, r, st, mu, R, h⟩ => by unfold ev at h; exact Post.val h R.srel .non
theorem sStr {x : Str} {j : Nat} {pos : Pos} : PE X (.Constant (.str x) j pos) (rdE C F (.str x) E) :=
  peImp pe_str fun σ H Q ⟨H0, mu0, r, st, mu, R, h⟩ => by unfold ev at h; exact Post.val h R.srel (.str x)
theorem sNil : PA X [] (rdEs C F .nil E) := paImp pa_nil fun σ H Q ⟨H0, mu0, r, st, mu, R, h⟩ => by
  unfold evs at h
  exact Post.here h R.srel .nil
theorem sCons {e : Expr} {es : List Expr} {c : Rt.E} {cs : Es} (he : PE X e (rdE C F c E)) (hes : PA X es (rdEs C F cs E)) (hs : starEach (e :: es) X.env = (false, eval e X.env) :: starEach es X.env) : PA X (e :: es) (rdEs C F (.cons c cs) E) := by
  refine paImp (pa_cons he hes hs) fun σ H Q ⟨H0, mu0, r, st, mu, R, h⟩ => ?_
  unfold evs at h
  refine ⟨H0, mu0, r, st, mu, R, Post.bind h fun x st1 v H1 mu1 e1 s1 q1 h1 => ?_⟩
  refine ⟨H0, mu0, r, st1, mu1, R.step e1 s1, Post.bind h1 fun xs st2 vs H2 mu2 e2 s2 q2 h2 => ?_⟩
  exact Post.here h2 s2 (.cons (Sd.mono e2 q1) q2)
def Es.len : Es → Nat
  | .nil => 0
  | .cons _ es => es.len + 1
theorem evs_len : ∀ {es : Es} {r : Env} {s s' : Sto} {ds : List D}, evs F es r s = .ok ds s' → ds.length = es.len
  | .nil, r, s, s', ds, h => by unfold evs at h; cases h; rfl
  | .cons e es, r, s, s', ds, h => by
    unfold evs at h
    cases h1 : ev F e r s with
    | ok x s1 =>
      rw [h1] at h
      simp only [Res.bind_ok] at h
      cases h2 : evs F es r s1 with
      | ok xs s2 =>
        rw [h2] at h
        simp only [Res.bind_ok] at h
        cases h
        rw [List.length_cons, evs_len h2]
        rfl
      | exc c s2 => rw [h2] at h; cases h
      | bad => rw [h2] at h; cases h
    | exc c s1 => rw [h1] at h; cases h
    | bad => rw [h1] at h; cases h
/-- bind, and the result is known to be of its length -/
theorem Post.bindLen {es : Es} {r : Env} {st : Sto} {c d : Type} {Rl2 : Hp → List Addr → d → c → Prop} {f : List D → Sto → Res c} {H : Hp} {mu : List Addr} {Q2 : d → Hp → Prop} {Q : List V → Hp → Prop} (h : Post C Rl2 ((evs F es r st).bind f) H mu Q2 E)
    (k : ∀ x st v H1 mu1, x.length = es.len → Ext mu mu1 H H1 → SRel C H1 mu1 st → SdA C.K H1 mu1 v x → Post C Rl2 (f x st) H1 mu1 Q2 E → Q v H1) : Post C (RSdA C) (evs F es r st) H mu Q E := by
  cases q : evs F es r st with
  | ok x st' =>
    rw [q] at h
    exact fun v H' mu' e s z => k x st' v H' mu' (evs_len q) e s z (Post.mono h e)
  | exc x st' => rw [q] at h; exact h
  | bad => rw [q] at h; exact h
theorem small_line {n : Nat} (h : n ≤ 1000) : n ≤ sizeLine := Nat.le_trans h (by rw [sizeLine_eq]; decide)
theorem small_line_mul {n m : Nat} (h : n ≤ 1000) (h2 : m ≤ 1000) : n * m ≤ sizeLine := Nat.le_trans (Nat.mul_le_mul h h2) (by rw [sizeLine_eq]; decide)
theorem sTup {es : List Expr} {cs : Es} {j : Nat} {pos : Pos} (hes : PA X es (rdEs C F cs E)) (hl : cs.len ≤ 1000) : PE X (.Tuple es j pos) (rdE C F (.tup cs) E) := by
  refine peImp (pe_tup hes) fun σ H Q ⟨H0, mu0, r, st, mu, R, h⟩ => ?_
  unfold ev at h
  refine ⟨H0, mu0, r, st, mu, R, Post.bindLen h fun xs st1 vs H1 mu1 len e1 s1 q1 h1 => ?_⟩
  exact ⟨by rw [q1.length, len]; exact small_line hl, fun p hp => Post.tup h1 s1 q1 hp⟩
theorem sLst {es : List Expr} {cs : Es} {pos : Pos} (hes : PA X es (rdEs C F cs E)) (hl : cs.len ≤ 1000) : PE X (.List es pos) (rdE C F (.lst cs) E) := by
  refine peImp (peFrz (pe_lst hes)) fun σ H Q ⟨H0, mu0, r, st, mu, R, h⟩ => ?_
  unfold ev at h
  refine ⟨H0, mu0, r, st, mu, R, Post.bindLen h fun xs st1 vs H1 mu1 len e1 s1 q1 h1 => ?_⟩
  exact ⟨by rw [q1.length, len]; exact small_line hl, fun p hp => Post.lst h1 s1 q1 hp⟩
/-- a new cell -/
theorem SRel.cell {H : Hp} {mu : List Addr} {st : Sto} {p : Addr} {xs : List V} {ds : List D} (s : SRel C H mu st) (hp : H p = none) (q : SdA C.K H mu xs ds) :
    Ext mu (mu ++ [p]) H (L2.upd H p (.lst xs)) ∧ SRel C (L2.upd H p (.lst xs)) (mu ++ [p]) (st ++ [ds]) := by
  have hpm : p ∉ mu := fun z => by
    obtain ⟨_, q⟩ := s.inMu z
    rw [q] at hp; cases hp
  have ex : Ext mu (mu ++ [p]) H (L2.upd H p (.lst xs)) := by
    have e0 : Ext mu mu H (L2.upd H p (.lst xs)) := Ext.upd hp
    refine ⟨⟨[p], rfl⟩, e0.keepN, e0.keepL, e0.keepT, fun a h n => ?_⟩
    rcases List.mem_append.mp h with z | z
    · exact absurd z n
    · rw [List.mem_singleton.mp z]; exact hp
  refine ⟨ex, by rw [List.length_append, List.length_append, s.len]; rfl, ?_, fun n a ds' h1 h2 => ?_, s.tabs.ext fun b o' e => by rw [upd_ne (ne_of_none e hp)]; exact e⟩
  · refine List.nodup_append.mpr ⟨s.nd, by simp, fun a ha b hb z => ?_⟩
    rw [List.mem_singleton.mp hb] at z
    subst z
    exact hpm ha
  · by_cases hn : n < mu.length
    · rw [List.getElem?_append_left hn] at h1
      rw [List.getElem?_append_left (by rw [← s.len]; exact hn)] at h2
      obtain ⟨ys, z1, z2⟩ := s.cel n a ds' h1 h2
      exact ⟨ys, by rw [upd_ne (ne_of_none z1 hp)]; exact z1, z2.mono ex⟩
    · have hn' : n = mu.length := by
        have := (List.getElem?_eq_some_iff.mp h1).1
        rw [List.length_append] at this
        simp at this; omega
      subst hn'
      rw [List.getElem?_append_right (Nat.le_refl _)] at h1
      simp at h1
      subst h1
      rw [s.len, List.getElem?_append_right (Nat.le_refl _)] at h2
      simp at h2
      subst h2
      exact ⟨xs, upd_same, q.mono ex⟩
theorem sCel {es : List Expr} {cs : Es} {pos : Pos} (hes : PA X es (rdEs C F cs E)) (hl : cs.len ≤ 1000) : PE X (.List es pos) (rdE C F (.cel cs) E) := by
  refine peImp (pe_lst hes) fun σ H Q ⟨H0, mu0, r, st, mu, R, h⟩ => ?_
  unfold ev at h
  refine ⟨H0, mu0, r, st, mu, R, Post.bindLen h fun xs st1 vs H1 mu1 len e1 s1 q1 h1 => ?_⟩
  refine ⟨by rw [q1.length, len]; exact small_line hl, fun p hp => ?_⟩
  obtain ⟨ex, s2⟩ := s1.cell hp q1
  refine h1 _ _ _ ex s2 (.cell ?_)
  rw [← s1.len, List.getElem?_append_right (Nat.le_refl _)]
  simp
def opOf : Bop → Operator
  | .add => .Add | .sub => .Sub | .mul => .Mult | .fdiv => .FloorDiv | .mod => .Mod | .pow => .Pow
/-- the value of a list's new place is frozen -/
def frzQ (Q : VK) : VK := fun v H1 => Q v H1 ∨ ∃ a xs, v = .ref a ∧ H1 a = some (.lst xs) ∧ ∀ o, Q v (upd H1 a (.frz o (.lst xs)))
theorem peFrzO {e : Expr} {t : TE} (h : PE X e t) : PE X e (fun σ H Q => t σ H (frzQ Q)) := by
  refine ⟨fun pins s σ H Q I q => thn (h.run pins s σ H _ I q) fun u s1 ⟨v, H1, I1, r, q1⟩ => ?_⟩
  rcases q1 with q1 | ⟨a, xs, ev, ha, q1⟩
  · exact ⟨v, H1, I1, r, q1⟩
  · obtain ⟨o, I2⟩ := I1.lock (u := .lst xs) ha trivial
    exact ⟨v, _, I2, r, q1 o⟩
theorem Post.lstQ {ds : List D} {st : Sto} {H : Hp} {mu : List Addr} {Q : VK} {xs : List V} {p : Addr} (h : Post C (RSd C) (.ok (.lst ds) st) H mu Q E) (s : SRel C H mu st) (q : SdA C.K H mu xs ds) (hp : H p = none) : frzQ Q (.ref p) (upd H p (.lst xs)) := .inr (Post.lst h s q hp)
theorem Post.valQ {d : D} {st : Sto} {H : Hp} {mu : List Addr} {Q : VK} {v : V} (h : Post C (RSd C) (.ok d st) H mu Q E) (s : SRel C H mu st) (q : Sd C.K H mu v d) : frzQ Q v H := .inl (Post.val h s q)
theorem Post.tupQ {ds : List D} {st : Sto} {H : Hp} {mu : List Addr} {Q : VK} {xs : List V} {p : Addr} (h : Post C (RSd C) (.ok (.tup ds) st) H mu Q E) (s : SRel C H mu st) (q : SdA C.K H mu xs ds) (hp : H p = none) : frzQ Q (.ref p) (upd H p (.tup xs)) := .inl (Post.tup h s q hp)
/-- a value whose content is given -/
theorem Sd.tupOf {K : PySem.W.Frag} {H : Hp} {mu : List Addr} {a : Addr} {xs : List V} {ds es : List D} (h : SqT K H a xs) (q : SdA K H mu xs ds) (e : ds = es) : Sd K H mu (.ref a) (.tup es) := e ▸ .tup h q
theorem op_all (g : Good C G F k X E) (op : Bop) (x y : D) (st : Sto) (v w : V) (H : Hp) (mu : List Addr) (Q : VK) (s : SRel C H mu st) (qx : Sd C.K H mu v x) (qy : Sd C.K H mu w y) (h : Post C (RSd C) (binD st op x y) H mu Q E) :
    ∃ R : R2, OpR X (binaryOp (opOf op)) R ∧ R v w H (frzQ Q) := by
  unfold binD at h
  split at h
  · cases qx.cInt; cases qy.cInt
    exact ⟨_, op_add, _, _, rfl, rfl, Post.valQ h s (.int _)⟩
  · split at h
    · next hz =>
      obtain ⟨a1, xs, rfl, h1, h2⟩ := qx.cTup
      obtain ⟨b1, ys, rfl, h3, h4⟩ := qy.cTup
      refine ⟨_, op_catA, a1, b1, xs, ys, rfl, rfl, by rw [g.hK]; exact h1, by rw [g.hK]; exact h3, ?_, fun e => ?_, fun e1 e2 => ?_, fun e1 e2 p hp => ?_⟩
      · rw [h2.length, h4.length]; exact Nat.le_trans hz sizeN_le
      · have z := h2.nil_iff.mp e
        exact Post.valQ h s (Sd.tupOf h3 h4 (by rw [z]; rfl))
      · have z := h4.nil_iff.mp e2
        exact Post.valQ h s (Sd.tupOf h1 h2 (by rw [z, List.append_nil]))
      · exact Post.tupQ h s (h2.append h4) hp
    · exact h.elim
  · split at h
    · next hz =>
      obtain ⟨a1, xs, rfl, h1, h2⟩ := qx.cLst
      obtain ⟨b1, ys, rfl, h3, h4⟩ := qy.cLst
      refine ⟨_, op_catX, a1, b1, xs, ys, rfl, rfl, by rw [g.hK]; exact h1.sq, by rw [g.hK]; exact h3.sq, ?_, fun p hp => ?_⟩
      · rw [h2.length, h4.length]; exact Nat.le_trans hz sizeN_le
      · exact Post.lstQ h s (h2.append h4) hp
    · exact h.elim
  · cases qx.cInt; cases qy.cInt
    exact ⟨_, op_sub, _, _, rfl, rfl, Post.valQ h s (.int _)⟩
  · split at h
    · next hz =>
      cases qx.cInt; cases qy.cInt
      exact ⟨_, op_mulX, _, _, rfl, rfl, hz, Post.valQ h s (.int _)⟩
    · exact h.elim
  · split at h
    · next hz =>
      obtain ⟨a1, xs, rfl, h1, h2⟩ := qx.cTup
      cases qy.cInt
      refine ⟨_, op_repTX, a1, _, xs, rfl, rfl, by rw [g.hK]; exact h1, fun e => ?_, hz.2.1, hz.1, ?_, fun e => ?_, fun e p hp => ?_⟩
      · have z := h2.nil_iff.mp e
        have := hz.2.2.2
        rw [z] at this; cases this
      · rw [h2.length]; exact hz.2.2.1
      · exact Post.valQ h s (Sd.tupOf h1 h2 (by rw [e]; simp))
      · exact Post.tupQ h s (h2.rep _) hp
    · exact h.elim
  · split at h
    · next hz =>
      cases qx.cInt; cases qy.cInt
      exact ⟨_, op_divX, _, _, rfl, rfl, hz, Post.valQ h s (.int _)⟩
    · exact h.elim
  · split at h
    · next hz =>
      cases qx.cInt; cases qy.cInt
      exact ⟨_, op_modN, _, _, rfl, rfl, hz, Post.valQ h s (.int _)⟩
    · exact h.elim
  · split at h
    · next hz =>
      cases qx.cInt; cases qy.cInt
      exact ⟨_, op_pow, _, _, rfl, rfl, ⟨hz.1, by omega, hz.2.2⟩, Post.valQ h s (.int _)⟩
    · exact h.elim
  · exact h.elim
/-- all rules for an operator at once -/
def OpAll (X : Cx) (f : Value → Value → Sem Value) : R2 := fun v w H Q => ∃ R : R2, OpR X f R ∧ R v w H Q
theorem opAll {f : Value → Value → Sem Value} : OpR X f (OpAll X f) := by
  intro pins s σ H x y v u Q I rx ry ⟨R, hR, q⟩
  exact hR pins s σ H x y v u Q I rx ry q
theorem sBin (g : Good C G F k X E) {a b : Expr} {ca cb : Rt.E} {op : Bop} {pos : Pos} (ha : PE X a (rdE C F ca E)) (hb : PE X b (rdE C F cb E)) : PE X (.BinOp a (opOf op) b pos) (rdE C F (.bin op ca cb) E) := by
  refine peImp (peFrzO (pe_op opAll ha hb)) fun σ H Q ⟨H0, mu0, r, st, mu, R, h⟩ => ?_
  unfold ev at h
  refine ⟨H0, mu0, r, st, mu, R, Post.bind h fun x st1 v H1 mu1 e1 s1 q1 h1 => ?_⟩
  refine ⟨H0, mu0, r, st1, mu1, R.step e1 s1, Post.bind h1 fun y st2 w H2 mu2 e2 s2 q2 h2 => ?_⟩
  exact op_all g op x y st2 v w H2 mu2 Q s2 (Sd.mono e2 q1) q2 h2
theorem notin_new {H : Hp} {mu : List Addr} {st : Sto} {p : Addr} (s : SRel C H mu st) (hp : H p = none) : p ∉ mu := fun z => by
  obtain ⟨_, q⟩ := s.inMu z
  rw [q] at hp; cases hp
/-- what a list's repetition asks, told of the new place -/
theorem repQ {cs : Es} {cb : Rt.E} {σ : L2.St} {H : Hp} {Q : VK} {H0 : Hp} {mu0 : List Addr} {r : Env} {st : Sto} {mu : List Addr} (hl : cs.len ≤ 1000) (R : Rel C H0 mu0 σ H r st mu) {α : Type} {Rl : Hp → List Addr → α → D → Prop} {QQ : α → Hp → Prop}
    (h : Post C Rl ((evs F cs r st).bind fun ds s => (ev F cb r s).bind fun y s => repD s ds y) H mu QQ E)
    (fin : ∀ ds st2 xs H2 mu2 p, Ext mu mu2 H H2 → SRel C H2 mu2 st2 → SdA C.K H2 mu2 xs ds → H2 p = none → Post C Rl (.ok (.lst ds) st2) H2 mu2 QQ E → Q (.ref p) (upd H2 p (.lst xs))) :
    tOp rRep (tLst (rdEs C F cs E)) (rdE C F cb E) σ H Q := by
  refine ⟨H0, mu0, r, st, mu, R, Post.bindLen h fun ds st1 vs H1 mu1 len e1 s1 q1 h1 => ?_⟩
  refine ⟨by rw [q1.length, len]; exact small_line hl, fun p hp => ?_⟩
  have ex : Ext mu1 mu1 H1 (upd H1 p (.lst vs)) := Ext.upd hp
  have s2 := s1.upd (o := .lst vs) hp
  refine ⟨H0, mu0, r, st1, mu1, (R.step e1 s1).step ex s2, Post.bind (Rl := RSd C) (h1.mono ex) fun y st2 w H2 mu2 e2 s3 q2 h2 => ?_⟩
  unfold repD at h2
  split at h2
  · split at h2
    · next z =>
      have hp2 : H2 p = some (.lst vs) := e2.keepL p vs upd_same (notin_new s1 hp)
      have hw := Sd.cInt q2
      subst hw
      refine ⟨p, _, vs, rfl, rfl, hp2, by omega, by omega, ?_, fun p' hp' => ?_⟩
      · rw [q1.length]
        refine small_line_mul z.2.2 ?_
        omega
      · exact fin _ st2 _ H2 mu2 p' (e1.trans (ex.trans e2)) s3 (((q1.mono ex).mono e2).rep _) hp' h2
    · exact h2.elim
  · exact h2.elim
theorem sRep {es : List Expr} {b : Expr} {cs : Es} {cb : Rt.E} {p pos : Pos} (hes : PA X es (rdEs C F cs E)) (hl : cs.len ≤ 1000) (hb : PE X b (rdE C F cb E)) : PE X (.BinOp (.List es p) .Mult b pos) (rdE C F (.rep cs cb) E) := by
  refine peImp (peFrz (pe_op op_rep (pe_lst hes) hb)) fun σ H Q ⟨H0, mu0, r, st, mu, R, h⟩ => ?_
  unfold ev at h
  exact repQ hl R h fun ds st2 xs H2 mu2 p' e s q hp' z => Post.lst z s q hp'
end
end Rt
namespace Rt
open PySem PySem.Spec PyProof.Rows L2
mutual
def toPy : D → PyData
  | .non => .none
  | .bl b => .bool b
  | .int i => .int i
  | .str x => .str x
  | .tup xs => .tuple (toPyA xs)
  | .lst xs => .list (toPyA xs)
  | .cell _ => .none
def toPyA : List D → List PyData
  | [] => []
  | x :: xs => toPy x :: toPyA xs
end
section
variable {K : PySem.W.Frag} {H : Hp} {mu : List Addr}
mutual
theorem Sd.dp : ∀ {n : Nat} {v : V} {d : D}, shp n d = true → Sd K H mu v d → Dp K H v (toPy d)
  | n, _, _, _, .non => .non
  | n, _, _, _, .bl b => .bl b
  | n, _, _, _, .int i => .int i
  | n, _, _, _, .str x => .str x
  | 0, _, _, h, .tup _ _ => by simp [shp] at h
  | 0, _, _, h, .lst _ _ => by simp [shp] at h
  | n + 1, _, _, h, .tup q t => by
    rw [toPy]
    exact .tup q (SdA.dp (n := n) (by simpa [shp] using h) t)
  | n + 1, _, _, h, .lst q t => by
    rw [toPy]
    exact .lst q.sq (SdA.dp (n := n) (by simpa [shp] using h) t)
  | n, _, _, h, .cell _ => by cases n <;> simp [shp] at h
theorem SdA.dp : ∀ {n : Nat} {vs : List V} {ds : List D}, (∀ d, d ∈ ds → shp n d = true) → SdA K H mu vs ds → DpAll K H vs (toPyA ds)
  | _, _, _, _, .nil => .nil
  | n, _, _, h, .cons q t => by
    rw [toPyA]
    exact .cons (Sd.dp (n := n) (h _ List.mem_cons_self) q) (SdA.dp (n := n) (fun d hd => h d (List.mem_cons_of_mem _ hd)) t)
end
end
mutual
theorem toPy_lay : ∀ (n : Nat) (d : D), shp n d = true → (toPy d).canLay0 = true ∧ (toPy d).depth ≤ n
  | n, .non, _ => ⟨rfl, Nat.zero_le _⟩
  | n, .bl _, _ => ⟨rfl, Nat.zero_le _⟩
  | n, .int _, _ => ⟨rfl, Nat.zero_le _⟩
  | n, .str x, h => ⟨by cases n <;> simpa [shp, toPy, PyData.canLay0] using h, by simp [toPy, PyData.depth]⟩
  | 0, .tup _, h => by simp [shp] at h
  | 0, .lst _, h => by simp [shp] at h
  | n + 1, .tup xs, h => by
    have := toPyA_lay n xs (by simpa [shp] using h)
    rw [toPy, PyData.canLay0, PyData.depth]
    exact ⟨this.1, by omega⟩
  | n + 1, .lst xs, h => by
    have := toPyA_lay n xs (by simpa [shp] using h)
    rw [toPy, PyData.canLay0, PyData.depth]
    exact ⟨this.1, by omega⟩
  | n, .cell _, h => by cases n <;> simp [shp] at h
theorem toPyA_lay : ∀ (n : Nat) (ds : List D), (∀ d, d ∈ ds → shp n d = true) → PyData.canLayAll0 (toPyA ds) = true ∧ PyData.depthAll (toPyA ds) ≤ n
  | n, [], _ => ⟨rfl, Nat.zero_le _⟩
  | n, x :: xs, h => by
    have h1 := toPy_lay n x (h x List.mem_cons_self)
    have h2 := toPyA_lay n xs (fun d hd => h d (List.mem_cons_of_mem _ hd))
    rw [toPyA, PyData.canLayAll0, PyData.depthAll]
    exact ⟨by rw [h1.1, h2.1]; rfl, by omega⟩
end
theorem shp_shaped {d : D} (h : shp 30 d = true) : SeqAt.shaped (toPy d) = true := by
  have := toPy_lay 30 d h
  unfold SeqAt.shaped
  rw [this.1, decide_eq_true (by omega)]
  rfl
mutual
theorem eqv_py : ∀ (n : Nat) (d e : D), shp n d = true → shp n e = true → PyData.eqv (toPy d) (toPy e) = eqv d e
  | n, .cell _, _, h, _ => by cases n <;> simp [shp] at h
  | n, _, .cell _, _, h => by cases n <;> simp [shp] at h
  | 0, .tup _, _, h, _ => by simp [shp] at h
  | 0, .lst _, _, h, _ => by simp [shp] at h
  | 0, _, .tup _, _, h => by simp [shp] at h
  | 0, _, .lst _, _, h => by simp [shp] at h
  | n + 1, .tup xs, .tup ys, h, h' => by
    rw [toPy, toPy, PyData.eqv, eqv]
    exact eqvAll_py n xs ys (by simpa [shp] using h) (by simpa [shp] using h')
  | n + 1, .lst xs, .lst ys, h, h' => by
    rw [toPy, toPy, PyData.eqv, eqv]
    exact eqvAll_py n xs ys (by simpa [shp] using h) (by simpa [shp] using h')
  | n, .non, .non, _, _ => rfl
  | n, .non, .bl _, _, _ => rfl
  | n, .non, .int _, _, _ => rfl
  | n, .non, .str _, _, _ => rfl
  | n, .bl _, .non, _, _ => rfl
  | n, .bl _, .bl _, _, _ => rfl
  | n, .bl _, .int _, _, _ => rfl
  | n, .bl _, .str _, _, _ => rfl
  | n, .int _, .non, _, _ => rfl
  | n, .int _, .bl _, _, _ => rfl
  | n, .int _, .int _, _, _ => rfl
  | n, .int _, .str _, _, _ => rfl
  | n, .str _, .non, _, _ => rfl
  | n, .str _, .bl _, _, _ => rfl
  | n, .str _, .int _, _, _ => rfl
  | n, .str _, .str _, _, _ => rfl
  | n + 1, .non, .tup _, _, _ => by rw [toPy, toPy, PyData.eqv]; rfl
  | n + 1, .non, .lst _, _, _ => by rw [toPy, toPy, PyData.eqv]; rfl
  | n + 1, .bl _, .tup _, _, _ => by rw [toPy, toPy, PyData.eqv]; rfl
  | n + 1, .bl _, .lst _, _, _ => by rw [toPy, toPy, PyData.eqv]; rfl
  | n + 1, .int _, .tup _, _, _ => by rw [toPy, toPy, PyData.eqv]; rfl
  | n + 1, .int _, .lst _, _, _ => by rw [toPy, toPy, PyData.eqv]; rfl
  | n + 1, .str _, .tup _, _, _ => by rw [toPy, toPy, PyData.eqv]; rfl
  | n + 1, .str _, .lst _, _, _ => by rw [toPy, toPy, PyData.eqv]; rfl
  | n + 1, .tup _, .non, _, _ => by rw [toPy, toPy, PyData.eqv]; rfl
  | n + 1, .tup _, .bl _, _, _ => by rw [toPy, toPy, PyData.eqv]; rfl
  | n + 1, .tup _, .int _, _, _ => by rw [toPy, toPy, PyData.eqv]; rfl
  | n + 1, .tup _, .str _, _, _ => by rw [toPy, toPy, PyData.eqv]; rfl
  | n + 1, .tup _, .lst _, _, _ => by rw [toPy, toPy, PyData.eqv]; rfl
  | n + 1, .lst _, .non, _, _ => by rw [toPy, toPy, PyData.eqv]; rfl
  | n + 1, .lst _, .bl _, _, _ => by rw [toPy, toPy, PyData.eqv]; rfl
  | n + 1, .lst _, .int _, _, _ => by rw [toPy, toPy, PyData.eqv]; rfl
  | n + 1, .lst _, .str _, _, _ => by rw [toPy, toPy, PyData.eqv]; rfl
  | n + 1, .lst _, .tup _, _, _ => by rw [toPy, toPy, PyData.eqv]; rfl
theorem eqvAll_py : ∀ (n : Nat) (ds es : List D), (∀ d, d ∈ ds → shp n d = true) → (∀ d, d ∈ es → shp n d = true) → PyData.eqvAll (toPyA ds) (toPyA es) = eqvAll ds es
  | n, [], [], _, _ => rfl
  | n, [], _ :: _, _, _ => rfl
  | n, _ :: _, [], _, _ => rfl
  | n, x :: xs, y :: ys, h, h' => by
    rw [toPyA, toPyA, PyData.eqvAll, eqvAll, eqv_py n x y (h x List.mem_cons_self) (h' y List.mem_cons_self),
      eqvAll_py n xs ys (fun d hd => h d (List.mem_cons_of_mem _ hd)) (fun d hd => h' d (List.mem_cons_of_mem _ hd))]
end
section
variable {C : Cn} {G : Gam} {F : Nat → List D → Sto → Res D} {k : Nat} {X : Cx} {E : XK}
def cmpOf : Cop → CmpOp
  | .lt => .Lt | .le => .LtE | .gt => .Gt | .ge => .GtE | .eq => .Eq | .ne => .NotEq | .isn => .Is | .notn => .IsNot
theorem Sd.non_iff {K : PySem.W.Frag} {H : Hp} {mu : List Addr} {v : V} {d : D} (h : Sd K H mu v d) : decide (v = .non) = isNon d := by
  cases h <;> rfl
theorem Sd.isNon {K : PySem.W.Frag} {H : Hp} {mu : List Addr} {v : V} {d : D} (h : Sd K H mu v d) (z : Rt.isNon d = true) : v = .non := by
  cases h <;> first | rfl | cases z
theorem cmp_all (g : Good C G F k X E) (op : Cop) (x y : D) (st : Sto) (v w : V) (H : Hp) (mu : List Addr) (Q : VK) (s : SRel C H mu st) (qx : Sd C.K H mu v x) (qy : Sd C.K H mu w y) (h : Post C (RSd C) (cmpD st op x y) H mu Q E) :
    OpAll X (compareOp (cmpOf op)) v w H Q := by
  have hu := g.room.units
  cases op with
  | eq =>
    simp only [cmpD] at h
    split at h
    · next z =>
      rw [Bool.and_eq_true] at z
      refine ⟨_, op_eqD hu, toPy x, toPy y, by rw [g.hK]; exact qx.dp z.1, by rw [g.hK]; exact qy.dp z.2, shp_shaped z.1, shp_shaped z.2, ?_⟩
      rw [eqv_py 30 x y z.1 z.2]
      exact Post.val h s (.bl _)
    · exact h.elim
  | ne =>
    simp only [cmpD] at h
    split at h
    · next z =>
      rw [Bool.and_eq_true] at z
      refine ⟨_, op_neD hu, toPy x, toPy y, by rw [g.hK]; exact qx.dp z.1, by rw [g.hK]; exact qy.dp z.2, shp_shaped z.1, shp_shaped z.2, ?_⟩
      rw [eqv_py 30 x y z.1 z.2]
      exact Post.val h s (.bl _)
    · exact h.elim
  | isn =>
    simp only [cmpD] at h
    split at h
    · next z =>
      refine ⟨_, op_isN, qy.isNon z, ?_⟩
      rw [qx.non_iff]
      exact Post.val h s (.bl _)
    · exact h.elim
  | notn =>
    simp only [cmpD] at h
    split at h
    · next z =>
      refine ⟨_, op_notN, qy.isNon z, ?_⟩
      rw [qx.non_iff]
      exact Post.val h s (.bl _)
    · exact h.elim
  | lt =>
    simp only [cmpD] at h
    split at h
    · cases qx.cInt; cases qy.cInt
      exact ⟨_, op_lt, _, _, rfl, rfl, Post.val h s (.bl _)⟩
    · exact h.elim
  | le =>
    simp only [cmpD] at h
    split at h
    · cases qx.cInt; cases qy.cInt
      exact ⟨_, op_le, _, _, rfl, rfl, Post.val h s (.bl _)⟩
    · exact h.elim
  | gt =>
    simp only [cmpD] at h
    split at h
    · cases qx.cInt; cases qy.cInt
      exact ⟨_, op_gt, _, _, rfl, rfl, Post.val h s (.bl _)⟩
    · exact h.elim
  | ge =>
    simp only [cmpD] at h
    split at h
    · cases qx.cInt; cases qy.cInt
      exact ⟨_, op_ge, _, _, rfl, rfl, Post.val h s (.bl _)⟩
    · exact h.elim
/-- a comparison gives a bool -/
theorem cmpD_bl {st : Sto} {op : Cop} {x y : D} {d : D} {st' : Sto} (h : cmpD st op x y = .ok d st') : ∃ b, d = .bl b ∧ st' = st := by
  cases op <;> simp only [cmpD] at h <;> split at h <;> first | (cases h; exact ⟨_, rfl, rfl⟩) | cases h
theorem tst_bind {α : Type} (x : Res α) (f : α → Sto → Res D) : tst (x.bind f) = x.bind fun d s => tst (f d s) := by
  cases x <;> rfl
theorem tst_cmp {st : Sto} {op : Cop} {x y : D} {Q : Bool → Hp → Prop} {H : Hp} {mu : List Addr} (h : Post C RB (tst (cmpD st op x y)) H mu Q E) : Post C (RSd C) (cmpD st op x y) H mu (fun v H' => ∃ k, v = .bl k ∧ Q k H') E := by
  cases z : cmpD st op x y with
  | ok d st' =>
    obtain ⟨b, rfl, rfl⟩ := cmpD_bl z
    rw [z] at h
    intro v H' mu' e s q
    exact ⟨b, Sd.cBl q, h b H' mu' e s rfl⟩
  | exc c st' => rw [z] at h; exact h
  | bad => rw [z] at h; exact h
theorem sNeg {a : Expr} {ca : Rt.E} {pos : Pos} (ha : PE X a (rdE C F ca E)) : PE X (.UnaryOp .USub a pos) (rdE C F (.neg ca) E) := by
  refine peImp (pe_un un_neg ha) fun σ H Q ⟨H0, mu0, r, st, mu, R, h⟩ => ?_
  unfold ev at h
  refine ⟨H0, mu0, r, st, mu, R, Post.bind h fun x st1 v H1 mu1 e1 s1 q1 h1 => ?_⟩
  split at h1
  · exact ⟨_, Sd.cInt q1, Post.val h1 s1 (.int _)⟩
  · exact h1.elim
theorem sNot {a : Expr} {ca : Rt.E} {pos : Pos} (ha : PE X a (rdE C F ca E)) : PE X (.UnaryOp .Not a pos) (rdE C F (.not ca) E) := by
  refine peImp (pe_not ha) fun σ H Q ⟨H0, mu0, r, st, mu, R, h⟩ => ?_
  unfold ev at h
  refine ⟨H0, mu0, r, st, mu, R, Post.bind h fun x st1 v H1 mu1 e1 s1 q1 h1 => ?_⟩
  split at h1
  · exact ⟨_, Sd.cBl q1, Post.val h1 s1 (.bl _)⟩
  · exact h1.elim
theorem sCmp (g : Good C G F k X E) {a b : Expr} {ca cb : Rt.E} {op : Cop} {pos : Pos} (ha : PE X a (rdE C F ca E)) (hb : PE X b (rdE C F cb E)) (hm : behindInMarks (cmpOf op) b = false) : PE X (.Compare a [cmpOf op] [b] pos) (rdE C F (.cmp op ca cb) E) := by
  refine peImp (pe_cmpR opAll ha hb hm) fun σ H Q ⟨H0, mu0, r, st, mu, R, h⟩ => ?_
  unfold ev at h
  refine ⟨H0, mu0, r, st, mu, R, Post.bind h fun x st1 v H1 mu1 e1 s1 q1 h1 => ?_⟩
  refine ⟨H0, mu0, r, st1, mu1, R.step e1 s1, Post.bind h1 fun y st2 w H2 mu2 e2 s2 q2 h2 => ?_⟩
  exact cmp_all g op x y st2 v w H2 mu2 Q s2 (Sd.mono e2 q1) q2 h2
theorem tCmp (g : Good C G F k X E) {a b : Expr} {ca cb : Rt.E} {op : Cop} {pos : Pos} (ha : PE X a (rdE C F ca E)) (hb : PE X b (rdE C F cb E)) (hm : behindInMarks (cmpOf op) b = false) : PT X (.Compare a [cmpOf op] [b] pos) (rdT C F (.cmp op ca cb) E) := by
  refine ptImp (pt_cmpR opAll ha hb hm) fun σ H Q ⟨H0, mu0, r, st, mu, R, h⟩ => ?_
  unfold ev at h
  rw [tst_bind] at h
  refine ⟨H0, mu0, r, st, mu, R, Post.bind h fun x st1 v H1 mu1 e1 s1 q1 h1 => ?_⟩
  rw [tst_bind] at h1
  refine ⟨H0, mu0, r, st1, mu1, R.step e1 s1, Post.bind h1 fun y st2 w H2 mu2 e2 s2 q2 h2 => ?_⟩
  exact cmp_all g op x y st2 v w H2 mu2 _ s2 (Sd.mono e2 q1) q2 (tst_cmp h2)
/-- the core of a chain -/
theorem chainQ (g : Good C G F k X E) {ca cb cc : Rt.E} {o1 o2 : Cop} {σ : L2.St} {H : Hp} {Q : VK} {H0 : Hp} {mu0 : List Addr} {r : Env} {st : Sto} {mu : List Addr} (R : Rel C H0 mu0 σ H r st mu) (h : Post C (RSd C) (ev F (.chain o1 o2 ca cb cc) r st) H mu Q E) :
    tChain (OpAll X (compareOp (cmpOf o1))) (OpAll X (compareOp (cmpOf o2))) (rdE C F ca E) (rdE C F cb E) (rdE C F cc E) σ H Q := by
  unfold ev at h
  refine ⟨H0, mu0, r, st, mu, R, Post.bind h fun x st1 v H1 mu1 e1 s1 q1 h1 => ?_⟩
  refine ⟨H0, mu0, r, st1, mu1, R.step e1 s1, Post.bind h1 fun y st2 w H2 mu2 e2 s2 q2 h2 => ?_⟩
  refine cmp_all g o1 x y st2 v w H2 mu2 _ s2 (Sd.mono e2 q1) q2 ?_
  cases z : cmpD st2 o1 x y with
  | ok d st' =>
    obtain ⟨b, rfl, rfl⟩ := cmpD_bl z
    rw [z] at h2
    simp only [Res.bind_ok] at h2
    intro v' H' mu' e3 s3 q3
    refine ⟨b, Sd.cBl q3, ?_⟩
    have h3 := h2.mono e3
    cases b with
    | false =>
      rw [if_neg Bool.false_ne_true]
      exact Post.val h3 s3 (.bl false)
    | true =>
      rw [if_pos rfl]
      have h3 : Post C (RSd C) ((ev F cc r st').bind fun z s => cmpD s o2 y z) H' mu' Q E := h3
      refine ⟨H0, mu0, r, st', mu', ((R.step e1 s1).step e2 s2).step e3 s3, Post.bind h3 fun u st3 w' H3 mu3 e4 s4 q4 h4 => ?_⟩
      exact cmp_all g o2 y u st3 w w' H3 mu3 Q s4 (Sd.mono e4 (Sd.mono e3 q2)) q4 h4
  | exc c st' => rw [z] at h2; exact h2
  | bad => rw [z] at h2; exact h2
theorem sChain (g : Good C G F k X E) {a b c : Expr} {ca cb cc : Rt.E} {o1 o2 : Cop} {pos : Pos} (ha : PE X a (rdE C F ca E)) (hb : PE X b (rdE C F cb E)) (hc : PE X c (rdE C F cc E)) (hm : lastMarks [cmpOf o1, cmpOf o2] [b, c] = false) :
    PE X (.Compare a [cmpOf o1, cmpOf o2] [b, c] pos) (rdE C F (.chain o1 o2 ca cb cc) E) :=
  peImp (pe_chain opAll opAll ha hb hc hm) fun σ H Q ⟨H0, mu0, r, st, mu, R, h⟩ => chainQ g R h
/-- a chain's value is a bool -/
theorem ev_chain_bl {ca cb cc : Rt.E} {o1 o2 : Cop} {r : Env} {st st' : Sto} {d : D} (h : ev F (.chain o1 o2 ca cb cc) r st = .ok d st') : ∃ b, d = .bl b := by
  unfold ev at h
  cases z1 : ev F ca r st with
  | ok x s1 =>
    rw [z1] at h
    simp only [Res.bind_ok] at h
    cases z2 : ev F cb r s1 with
    | ok y s2 =>
      rw [z2] at h
      simp only [Res.bind_ok] at h
      cases z3 : cmpD s2 o1 x y with
      | ok w s3 =>
        rw [z3] at h
        simp only [Res.bind_ok] at h
        split at h
        · cases z4 : ev F cc r s3 with
          | ok u s4 =>
            rw [z4] at h
            simp only [Res.bind_ok] at h
            obtain ⟨b, rfl, _⟩ := cmpD_bl h
            exact ⟨b, rfl⟩
          | exc c s4 => rw [z4] at h; cases h
          | bad => rw [z4] at h; cases h
        · cases h; exact ⟨_, rfl⟩
        · cases h
      | exc c s3 => rw [z3] at h; cases h
      | bad => rw [z3] at h; cases h
    | exc c s2 => rw [z2] at h; cases h
    | bad => rw [z2] at h; cases h
  | exc c s1 => rw [z1] at h; cases h
  | bad => rw [z1] at h; cases h
/-- what a test asks, as a value's -/
theorem tst_val {x : Res D} {Q : Bool → Hp → Prop} {H : Hp} {mu : List Addr} (h : Post C RB (tst x) H mu Q E) (hb : ∀ d st, x = .ok d st → ∃ b, d = .bl b) : Post C (RSd C) x H mu (fun v H' => ∃ k, v = .bl k ∧ Q k H') E := by
  cases x with
  | ok d st' =>
    obtain ⟨b, rfl⟩ := hb d st' rfl
    intro v H' mu' e s q
    exact ⟨b, Sd.cBl q, h b H' mu' e s rfl⟩
  | exc c st' => exact h
  | bad => exact h
theorem tChain' (g : Good C G F k X E) {a b c : Expr} {ca cb cc : Rt.E} {o1 o2 : Cop} {pos : Pos} (ha : PE X a (rdE C F ca E)) (hb : PE X b (rdE C F cb E)) (hc : PE X c (rdE C F cc E)) (hm : lastMarks [cmpOf o1, cmpOf o2] [b, c] = false) :
    PT X (.Compare a [cmpOf o1, cmpOf o2] [b, c] pos) (rdT C F (.chain o1 o2 ca cb cc) E) :=
  ptImp (pt_chain opAll opAll ha hb hc hm) fun σ H Q ⟨H0, mu0, r, st, mu, R, h⟩ => chainQ g R (tst_val h fun d st' z => ev_chain_bl z)
theorem sAnd {a b : Expr} {ca cb : Rt.E} {rest : List Expr} {pos : Pos} (ha : PE X a (rdE C F ca E)) (hb : PE X (.BoolOp .And (b :: rest) pos) (rdE C F cb E)) : PE X (.BoolOp .And (a :: b :: rest) pos) (rdE C F (.and ca cb) E) := by
  refine peImp (pe_and ha hb) fun σ H Q ⟨H0, mu0, r, st, mu, R, h⟩ => ?_
  unfold ev at h
  refine ⟨H0, mu0, r, st, mu, R, Post.bind h fun x st1 v H1 mu1 e1 s1 q1 h1 => ?_⟩
  split at h1
  · exact ⟨true, Sd.cBl q1, by rw [if_pos rfl]; exact ⟨H0, mu0, r, st1, mu1, R.step e1 s1, h1⟩⟩
  · exact ⟨false, Sd.cBl q1, by rw [if_neg Bool.false_ne_true]; exact Post.val h1 s1 (.bl _)⟩
  · exact h1.elim
theorem sOr {a b : Expr} {ca cb : Rt.E} {rest : List Expr} {pos : Pos} (ha : PE X a (rdE C F ca E)) (hb : PE X (.BoolOp .Or (b :: rest) pos) (rdE C F cb E)) : PE X (.BoolOp .Or (a :: b :: rest) pos) (rdE C F (.or ca cb) E) := by
  refine peImp (pe_or ha hb) fun σ H Q ⟨H0, mu0, r, st, mu, R, h⟩ => ?_
  unfold ev at h
  refine ⟨H0, mu0, r, st, mu, R, Post.bind h fun x st1 v H1 mu1 e1 s1 q1 h1 => ?_⟩
  split at h1
  · exact ⟨true, Sd.cBl q1, by rw [if_pos rfl]; exact Post.val h1 s1 (.bl _)⟩
  · exact ⟨false, Sd.cBl q1, by rw [if_neg Bool.false_ne_true]; exact ⟨H0, mu0, r, st1, mu1, R.step e1 s1, h1⟩⟩
  · exact h1.elim
/-- the value under a test that is no int's -/
theorem tst_split {ca : Rt.E} {f : D → Sto → Res D} {H0 H : Hp} {mu0 mu : List Addr} {σ : L2.St} {r : Env} {st : Sto} {Q : Bool → Hp → Prop} {Q' : Bool → Hp → Prop} (R : Rel C H0 mu0 σ H r st mu) (h : Post C RB (tst ((ev F ca r st).bind f)) H mu Q E)
    (hf : ∀ i s, f (.int i) s = .bad) (hd : ∀ d s, (∀ b, d ≠ .bl b) → f d s = .bad) (w : ∀ b st1 H1 mu1, Ext mu mu1 H H1 → SRel C H1 mu1 st1 → Post C RB (tst (f (.bl b) st1)) H1 mu1 Q E → Q' b H1) : rdT C F ca E σ H Q' := by
  refine ⟨H0, mu0, r, st, mu, R, ?_⟩
  cases z : ev F ca r st with
  | ok d st1 =>
    rw [z] at h
    simp only [Res.bind_ok] at h
    cases d with
    | bl b =>
      intro v H1 mu1 e s q
      cases q
      exact w b st1 H1 mu1 e s (h.mono e)
    | _ => rw [hd _ _ (fun b q => by cases q)] at h; exact h.elim
  | exc c st1 => rw [z] at h; exact h
  | bad => rw [z] at h; exact h
theorem tAnd' {a b : Expr} {ca cb : Rt.E} {rest : List Expr} {pos : Pos} (ha : PT X a (rdT C F ca E)) (hb : PW X (.BoolOp .And (b :: rest) pos) (rdT C F cb E)) : PW X (.BoolOp .And (a :: b :: rest) pos) (rdT C F (.and ca cb) E) := by
  refine pwImp (pw_and ha hb) fun σ H Q ⟨H0, mu0, r, st, mu, R, h⟩ => ?_
  unfold ev at h
  refine tst_split R h (fun _ _ => rfl) (fun d s n => ?_) fun b st1 H1 mu1 e s h1 => ?_
  · split
    · exact absurd rfl (n _)
    · exact absurd rfl (n _)
    · rfl
  · cases b with
    | true => rw [if_pos rfl]; exact ⟨H0, mu0, r, st1, mu1, R.step e s, h1⟩
    | false => rw [if_neg Bool.false_ne_true]; exact h1 false H1 mu1 .refl s rfl
theorem tOr' {a b : Expr} {ca cb : Rt.E} {rest : List Expr} {pos : Pos} (ha : PT X a (rdT C F ca E)) (hb : PW X (.BoolOp .Or (b :: rest) pos) (rdT C F cb E)) : PW X (.BoolOp .Or (a :: b :: rest) pos) (rdT C F (.or ca cb) E) := by
  refine pwImp (pw_or ha hb) fun σ H Q ⟨H0, mu0, r, st, mu, R, h⟩ => ?_
  unfold ev at h
  refine tst_split R h (fun _ _ => rfl) (fun d s n => ?_) fun b st1 H1 mu1 e s h1 => ?_
  · split
    · exact absurd rfl (n _)
    · exact absurd rfl (n _)
    · rfl
  · cases b with
    | true => rw [if_pos rfl]; exact h1 true H1 mu1 .refl s rfl
    | false => rw [if_neg Bool.false_ne_true]; exact ⟨H0, mu0, r, st1, mu1, R.step e s, h1⟩
theorem tNot' {a : Expr} {ca : Rt.E} {pos : Pos} (ha : PT X a (rdT C F ca E)) : PT X (.UnaryOp .Not a pos) (rdT C F (.not ca) E) := by
  refine ptImp (pt_not ha) fun σ H Q ⟨H0, mu0, r, st, mu, R, h⟩ => ?_
  unfold ev at h
  refine tst_split R h (fun _ _ => rfl) (fun d s n => ?_) fun b st1 H1 mu1 e s h1 => ?_
  · split
    · exact absurd rfl (n _)
    · rfl
  · exact h1 (!b) H1 mu1 .refl s rfl
theorem sIte {c a b : Expr} {cc ca cb : Rt.E} {pos : Pos} (hc : PT X c (rdT C F cc E)) (ha : PE X a (rdE C F ca E)) (hb : PE X b (rdE C F cb E)) : PE X (.IfExp c a b pos) (rdE C F (.ite cc ca cb) E) := by
  refine peImp (pe_ifExp hc ha hb) fun σ H Q ⟨H0, mu0, r, st, mu, R, h⟩ => ?_
  unfold ev at h
  refine ⟨H0, mu0, r, st, mu, R, ?_⟩
  cases z : ev F cc r st with
  | ok d st1 =>
    rw [z] at h
    simp only [Res.bind_ok] at h
    cases d with
    | bl k =>
      intro v H1 mu1 e s q
      cases q
      cases k with
      | true => rw [if_pos rfl]; exact ⟨H0, mu0, r, st1, mu1, R.step e s, h.mono e⟩
      | false => rw [if_neg Bool.false_ne_true]; exact ⟨H0, mu0, r, st1, mu1, R.step e s, h.mono e⟩
    | _ => exact h.elim
  | exc c st1 => rw [z] at h; exact h
  | bad => rw [z] at h; exact h
theorem tIte {c a b : Expr} {cc ca cb : Rt.E} {pos : Pos} (hc : PT X c (rdT C F cc E)) (ha : PT X a (rdT C F ca E)) (hb : PT X b (rdT C F cb E)) : PT X (.IfExp c a b pos) (rdT C F (.ite cc ca cb) E) := by
  refine ptImp (ptIf hc ha hb) fun σ H Q ⟨H0, mu0, r, st, mu, R, h⟩ => ?_
  unfold ev at h
  refine tst_split R h (fun _ _ => rfl) (fun d s n => ?_) fun b st1 H1 mu1 e s h1 => ?_
  · split
    · exact absurd rfl (n _)
    · exact absurd rfl (n _)
    · rfl
  · cases b with
    | true => rw [if_pos rfl]; exact ⟨H0, mu0, r, st1, mu1, R.step e s, h1⟩
    | false => rw [if_neg Bool.false_ne_true]; exact ⟨H0, mu0, r, st1, mu1, R.step e s, h1⟩
/-- any other expression as a test -/
theorem tVal {a : Expr} {ca : Rt.E} (ha : PE X a (rdE C F ca E)) (he : ∀ whole, PySem.isTrue a X.env whole = (do let v ← whole; standAt a.pos; holding [v] (truthy v))) : PT X a (rdT C F ca E) := by
  refine ptImp (pt_truth ha he) fun σ H Q ⟨H0, mu0, r, st, mu, R, h⟩ => ?_
  refine ⟨H0, mu0, r, st, mu, R, ?_⟩
  cases z : ev F ca r st with
  | ok d st1 =>
    rw [z] at h
    intro v H1 mu1 e s q
    cases q with
    | bl b => exact ⟨b, rfl, h b H1 mu1 e s rfl⟩
    | int i => exact ⟨i != 0, rfl, h _ H1 mu1 e s rfl⟩
    | _ => exact h.elim
  | exc c st1 => rw [z] at h; exact h
  | bad => rw [z] at h; exact h
end
end Rt
namespace Rt
open PySem PySem.Spec PyProof.Rows L2
/-- no star, no slice, no set display -/
def plainE : Expr → Bool
  | .Starred .. => false
  | .Slice .. => false
  | .Set .. => false
  | _ => true
theorem plain_star {e : Expr} {es : List Expr} {env : PySem.Env} (h : plainE e = true) : starEach (e :: es) env = (false, eval e env) :: starEach es env := by
  cases e <;> first | rfl | cases h
theorem plain_any {env : PySem.Env} {pos : Pos} : ∀ {es : List Expr}, es.all plainE = true → (backTo pos (starEach es env)).any (·.1) = false
  | [], _ => rfl
  | e :: es, h => by
    rw [List.all_cons, Bool.and_eq_true] at h
    rw [plain_star h.1]
    show (false || (backTo pos (starEach es env)).any (·.1)) = false
    rw [plain_any h.2]; rfl
theorem plain_ix {e : Expr} (h : plainE e = true) : PlainIx e := fun o i => by
  cases e <;> first | rfl | cases h
theorem plain_mark {e : Expr} {op : CmpOp} (h : plainE e = true) : behindInMarks op e = false := by
  cases e <;> first | rfl | cases h
theorem plain_last {a b : Expr} {o1 o2 : CmpOp} (h : plainE b = true) : lastMarks [o1, o2] [a, b] = false := by
  show behindInMarks o2 b = false
  exact plain_mark h
theorem plain_set {e : Expr} {env : PySem.Env} (h : plainE e = true) : ∀ x, foldedSetIterable e env x = pure x := fun x => by
  cases e <;> first | rfl | cases h
section
variable {C : Cn} {G : Gam} {F : Nat → List D → Sto → Res D} {k : Nat} {X : Cx} {E : XK}
theorem atD_ok {st : Sto} {ds : List D} {i : Int} {K : PySem.W.Frag} {H : Hp} {mu : List Addr} {xs : List V} {Q : VK} (h : Post C (RSd C) (atD st ds i) H mu Q E) (s : SRel C H mu st) (q : SdA C.K H mu xs ds) : ∃ v, atI xs i = some v ∧ Q v H := by
  unfold atD at h
  split at h
  · exact h.elim
  · next z =>
    split at h
    · exact h.elim
    · next z2 =>
      obtain ⟨v, hv, hd⟩ := q.get z2
      refine ⟨v, ?_, Post.val h s hd⟩
      unfold atI
      rw [q.length, show ixN ds.length i = ixD ds.length i from rfl, z]
      exact hv
def IxAll (X : Cx) : R2 := fun v w H Q => ∃ R : R2, IxR X R ∧ R v w H Q
theorem ixAll : IxR X (IxAll X) := by
  intro value slice pins s σ H x y v u Q I rx ry ⟨R, hR, q⟩ hs
  exact hR value slice pins s σ H x y v u Q I rx ry q hs
theorem sub_all (g : Good C G F k X E) (x y : D) (st : Sto) (v w : V) (H : Hp) (mu : List Addr) (Q : VK) (s : SRel C H mu st) (qx : Sd C.K H mu v x) (qy : Sd C.K H mu w y) (h : Post C (RSd C) (subD st x y) H mu Q E) : IxAll X v w H Q := by
  unfold subD at h
  split at h
  · obtain ⟨a, xs, rfl, h1, h2⟩ := qx.cTup
    cases qy.cInt
    obtain ⟨u, e, q⟩ := atD_ok (K := C.K) h s h2
    exact ⟨_, ix_tup, a, xs, _, u, rfl, rfl, by rw [g.hK]; exact h1, e, q⟩
  · obtain ⟨a, xs, rfl, h1, h2⟩ := qx.cLst
    cases qy.cInt
    obtain ⟨u, e, q⟩ := atD_ok (K := C.K) h s h2
    exact ⟨_, ix_list, a, xs, _, u, rfl, rfl, by rw [g.hK]; exact h1.sq, e, q⟩
  · obtain ⟨a, rfl, h1⟩ := qx.cCell
    cases qy.cInt
    split at h
    · exact h.elim
    · next z =>
      obtain ⟨xs, h2, h3⟩ := s.cel _ a _ h1 z
      obtain ⟨u, e, q⟩ := atD_ok (K := C.K) h s h3
      exact ⟨_, ix_list, a, xs, _, u, rfl, rfl, SqL.of h2, e, q⟩
  · exact h.elim
theorem sSub (g : Good C G F k X E) {a b : Expr} {ca cb : Rt.E} {pos : Pos} (ha : PE X a (rdE C F ca E)) (hb : PE X b (rdE C F cb E)) (hp : plainE b = true) : PE X (.Subscript a b pos) (rdE C F (.sub ca cb) E) := by
  refine peImp (pe_ix ixAll ha hb (plain_ix hp)) fun σ H Q ⟨H0, mu0, r, st, mu, R, h⟩ => ?_
  unfold ev at h
  refine ⟨H0, mu0, r, st, mu, R, Post.bind h fun x st1 v H1 mu1 e1 s1 q1 h1 => ?_⟩
  refine ⟨H0, mu0, r, st1, mu1, R.step e1 s1, Post.bind h1 fun y st2 w H2 mu2 e2 s2 q2 h2 => ?_⟩
  exact sub_all g x y st2 v w H2 mu2 Q s2 (Sd.mono e2 q1) q2 h2
theorem sSubo (g : Good C G F k X E) {i : Nat} {x : Str} {b : Expr} {cb : Rt.E} {p pos : Pos} (hi : G.N[i]? = some x) (hv : Vis X.env.scope x) (hb : PE X b (rdE C F cb E)) (hp : plainE b = true) : PE X (.Subscript (.Name x p) b pos) (rdE C F (.subo i cb) E) := by
  have hd := g.dbg x (List.mem_of_getElem? hi)
  refine peImp (pe_ix ix_list (pe_var (i := i) (by rw [g.hN]; exact hi) hv hd.1 hd.2) hb (plain_ix hp)) fun σ H Q ⟨H0, mu0, r, st, mu, R, h⟩ => ?_
  unfold ev at h
  cases e : getO r i with
  | none => rw [e] at h; exact h.elim
  | some ds =>
    rw [e] at h
    obtain ⟨a, xs, hs, h0, hm, hx, hq⟩ := R.own e
    refine ⟨.ref a, hs, H0, mu0, r, st, mu, R, Post.bind h fun y st1 w H1 mu1 e1 s1 q1 h1 => ?_⟩
    split at h1
    · cases Sd.cInt q1
      obtain ⟨u, e2, q⟩ := atD_ok (K := C.K) h1 s1 (hq.mono e1)
      exact ⟨a, xs, _, u, rfl, rfl, SqL.of (e1.keepL _ _ hx hm), e2, q⟩
    · exact h1.elim
/-- how a slice's part is checked -/
inductive PartOk (C : Cn) (F : Nat → List D → Sto → Res D) (X : Cx) (E : XK) : Option Expr → Oe → Prop where
  | none : PartOk C F X E none .none
  | some {e : Expr} {c : Rt.E} (h : PE X e (rdE C F c E)) : PartOk C F X E (some e) (.some c)
def SlAll (X : Cx) : V → Option Int → Option Int → Hp → VK → Prop := fun x lo hi H Q => ∃ R, SlR X R ∧ R x lo hi H Q
theorem slAll : SlR X (SlAll X) := by
  intro pins s σ H x v vl vu lo hi sl Q I rx hs pl pu ⟨R, hR, q⟩
  exact hR pins s σ H x v vl vu lo hi sl Q I rx hs pl pu q
theorem cut_ok {K : PySem.W.Frag} {H : Hp} {mu : List Addr} {xs : List V} {ds : List D} (h : SdA K H mu xs ds) (lo hi : Option Int) : SdA K H mu (cutV xs lo hi) (cutD ds lo hi) := by
  unfold cutV cutD
  rw [show partD = HT.sIx from rfl, h.length]
  exact (h.drop _).take _
theorem cut_whole {ds : List D} {lo hi : Option Int} (h1 : partD ds.length 0 lo = 0) (h2 : partD ds.length ds.length hi = ds.length) : cutD ds lo hi = ds := by
  unfold cutD
  rw [h1, h2]
  simp
theorem slice_all (g : Good C G F k X E) (x : D) (lo hi : Option Int) (st : Sto) (v : V) (H : Hp) (mu : List Addr) (Q : VK) (s : SRel C H mu st) (qx : Sd C.K H mu v x) (h : Post C (RSd C) (sliceD st x lo hi) H mu Q E) : SlAll X v lo hi H (frzQ Q) := by
  unfold sliceD at h
  split at h
  · obtain ⟨a, xs, rfl, h1, h2⟩ := qx.cTup
    refine ⟨_, sl_tupA, a, xs, rfl, by rw [g.hK]; exact h1, fun hw => ?_, fun hw p hp => ?_⟩
    · rw [h2.length] at hw
      exact Post.valQ h s (Sd.tupOf h1 h2 (cut_whole hw.1 hw.2).symm)
    · exact Post.tupQ h s (cut_ok h2 lo hi) hp
  · obtain ⟨a, xs, rfl, h1, h2⟩ := qx.cLst
    exact ⟨_, sl_list, a, xs, rfl, by rw [g.hK]; exact h1.sq, fun p hp => Post.lstQ h s (cut_ok h2 lo hi) hp⟩
  · exact h.elim
/-- a part of a slice is evaluated, then the rest -/
theorem partQ {e : Option Expr} {c : Oe} (p : PartOk C F X E e c) : ∃ t : TO, PO X e t ∧ ∀ {σ : L2.St} {H H0 : Hp} {mu0 mu : List Addr} {r : Env} {st : Sto} {Q : Option Int → Hp → Prop} {QQ : VK} {f : Option Int → Sto → Res D}, Rel C H0 mu0 σ H r st mu →
    Post C (RSd C) ((evo F c r st).bind fun d s => ofP (partsD d) fun i => f i s) H mu QQ E →
    (∀ i st1 H1 mu1, Ext mu mu1 H H1 → SRel C H1 mu1 st1 → Post C (RSd C) (f i st1) H1 mu1 QQ E → Q i H1) → t σ H Q := by
  cases p with
  | none =>
    refine ⟨_, po_none, fun {σ H H0 mu0 mu r st Q QQ f} R h w => ?_⟩
    unfold evo at h
    exact w none st H mu .refl R.srel h
  | some he =>
    refine ⟨_, po_some he, fun {σ H H0 mu0 mu r st Q QQ f} R h w => ?_⟩
    unfold evo at h
    refine ⟨H0, mu0, r, st, mu, R, ?_⟩
    rename_i c
    cases z : ev F c r st with
    | ok d st1 =>
      rw [z] at h
      simp only [Res.bind_ok] at h
      intro v H1 mu1 e s q
      have h1 := Post.mono h e
      cases q with
      | int i => exact ⟨i, rfl, w (some i) st1 H1 mu1 e s h1⟩
      | _ => exact h1.elim
    | exc x st1 => rw [z] at h; exact h
    | bad => rw [z] at h; exact h
theorem sSlice (g : Good C G F k X E) {a : Expr} {ca : Rt.E} {lo hi : Option Expr} {cl ch : Oe} {p pos : Pos} (ha : PE X a (rdE C F ca E)) (hl : PartOk C F X E lo cl) (hh : PartOk C F X E hi ch) : PE X (.Subscript a (.Slice lo hi none p) pos) (rdE C F (.slice ca cl ch) E) := by
  obtain ⟨tl, hl', ql⟩ := partQ hl
  obtain ⟨th, hh', qh⟩ := partQ hh
  refine peImp (peFrzO (pe_slice slAll ha hl' hh')) fun σ H Q ⟨H0, mu0, r, st, mu, R, h⟩ => ?_
  unfold ev at h
  refine ⟨H0, mu0, r, st, mu, R, Post.bind h fun x st1 v H1 mu1 e1 s1 q1 h1 => ?_⟩
  refine ql (R.step e1 s1) h1 fun l st2 H2 mu2 e2 s2 h2 => ?_
  refine qh ((R.step e1 s1).step e2 s2) h2 fun u st3 H3 mu3 e3 s3 h3 => ?_
  exact slice_all g x l u st3 v H3 mu3 Q s3 (Sd.mono e3 (Sd.mono e2 q1)) h3
theorem sCall (g : Good C G F k X E) {f : Nat} {x : Str} {e : Expr} {es : List Expr} {cs : Es} {p pos : Pos} (hf : G.fnm f = some x) (hg : Gl X x) (hes : PA X (e :: es) (rdEs C F cs E)) (hp : (e :: es).all plainE = true) : PE X (.Call (.Name x p) (e :: es) [] pos) (rdE C F (.call f cs) E) := by
  obtain ⟨hdb, fa, fd, ps, hm, hk, hb, hF, hlen⟩ := g.fns f x hf
  rw [List.all_cons, Bool.and_eq_true] at hp
  refine peImp (pe_call (dvs := []) hF g.room hg hm hk hb .nil (L2N.passes_call g.tk (fun _ _ _ _ z => z)) hes hdb (plain_star hp.1) (plain_any hp.2)) fun σ H Q ⟨H0, mu0, r, st, mu, R, h⟩ => ?_
  unfold ev at h
  refine ⟨H0, mu0, r, st, mu, R, Post.bindLen h fun ds st1 vs H1 mu1 len e1 s1 q1 h1 => ?_⟩
  rw [List.append_nil]
  by_cases hz : ds.length = ps.length
  · exact ⟨by rw [q1.length, hz], ds, st1, mu1, q1, s1, h1⟩
  · rw [hlen ds st1 hz] at h1
    exact h1.elim
def CallAll (X : Cx) (f : Value) : List V → Hp → VK → Prop := fun vs H Q => ∃ R, CallR X f R ∧ R vs H Q
theorem callAll {f : Value} : CallR X f (CallAll X f) := by
  intro pins s σ H xs us Q I r ⟨R, hR, q⟩
  exact hR pins s σ H xs us Q I r q
theorem intsD_ok {K : PySem.W.Frag} {H : Hp} {mu : List Addr} : ∀ {ds : List D} {ns : List Int} {vs : List V}, intsD ds = some ns → SdA K H mu vs ds → vs = ns.map V.int
  | [], ns, _, h, .nil => by cases h; rfl
  | .int i :: r, ns, _, h, .cons q t => by
    unfold intsD at h
    cases z : intsD r with
    | none => rw [z] at h; cases h
    | some ms =>
      rw [z] at h
      cases h
      rw [q.cInt, intsD_ok z t]
      rfl
  | .non :: _, _, _, h, _ => by cases h
  | .bl _ :: _, _, _, h, _ => by cases h
  | .str _ :: _, _, _, h, _ => by cases h
  | .tup _ :: _, _, _, h, _ => by cases h
  | .lst _ :: _, _, _, h, _ => by cases h
  | .cell _ :: _, _, _, h, _ => by cases h
theorem boolsD_ok {K : PySem.W.Frag} {H : Hp} {mu : List Addr} : ∀ {ds : List D} {ns : List Bool} {vs : List V}, boolsD ds = some ns → SdA K H mu vs ds → vs = ns.map V.bl
  | [], ns, _, h, .nil => by cases h; rfl
  | .bl i :: r, ns, _, h, .cons q t => by
    unfold boolsD at h
    cases z : boolsD r with
    | none => rw [z] at h; cases h
    | some ms =>
      rw [z] at h
      cases h
      rw [q.cBl, boolsD_ok z t]
      rfl
  | .non :: _, _, _, h, _ => by cases h
  | .int _ :: _, _, _, h, _ => by cases h
  | .str _ :: _, _, _, h, _ => by cases h
  | .tup _ :: _, _, _, h, _ => by cases h
  | .lst _ :: _, _, _, h, _ => by cases h
  | .cell _ :: _, _, _, h, _ => by cases h
theorem minL_spec : ∀ (r : List Int) (m : Int), (minL m r = m ∨ minL m r ∈ r) ∧ minL m r ≤ m ∧ ∀ y, y ∈ r → minL m r ≤ y
  | [], m => ⟨.inl rfl, Int.le_refl _, fun y h => absurd h (by simp)⟩
  | x :: r, m => by
    obtain ⟨h1, h2, h3⟩ := minL_spec r (if x < m then x else m)
    have e : minL m (x :: r) = minL (if x < m then x else m) r := rfl
    rw [e]
    refine ⟨?_, ?_, fun y hy => ?_⟩
    · rcases h1 with h | h
      · rw [h]
        by_cases z : x < m
        · rw [if_pos z]; exact .inr (by simp)
        · rw [if_neg z]; exact .inl rfl
      · exact .inr (List.mem_cons_of_mem _ h)
    · refine Int.le_trans h2 ?_
      split <;> omega
    · rcases List.mem_cons.mp hy with z | z
      · subst z
        refine Int.le_trans h2 ?_
        split <;> omega
      · exact h3 y z
theorem maxL_spec : ∀ (r : List Int) (m : Int), (maxL m r = m ∨ maxL m r ∈ r) ∧ m ≤ maxL m r ∧ ∀ y, y ∈ r → y ≤ maxL m r
  | [], m => ⟨.inl rfl, Int.le_refl _, fun y h => absurd h (by simp)⟩
  | x :: r, m => by
    obtain ⟨h1, h2, h3⟩ := maxL_spec r (if x > m then x else m)
    have e : maxL m (x :: r) = maxL (if x > m then x else m) r := rfl
    rw [e]
    refine ⟨?_, ?_, fun y hy => ?_⟩
    · rcases h1 with h | h
      · rw [h]
        by_cases z : x > m
        · rw [if_pos z]; exact .inr (by simp)
        · rw [if_neg z]; exact .inl rfl
      · exact .inr (List.mem_cons_of_mem _ h)
    · refine Int.le_trans ?_ h2
      split <;> omega
    · rcases List.mem_cons.mp hy with z | z
      · subst z
        refine Int.le_trans ?_ h2
        split <;> omega
      · exact h3 y z
theorem minL_eq {x m : Int} {r : List Int} (hm : m ∈ x :: r) (h : ∀ y, y ∈ x :: r → m ≤ y) : m = minL x r := by
  obtain ⟨h1, h2, h3⟩ := minL_spec r x
  have a : minL x r ≤ m := by
    rcases List.mem_cons.mp hm with z | z
    · rw [z]; exact h2
    · exact h3 m z
  have b : m ≤ minL x r := by
    rcases h1 with z | z
    · rw [z]; exact h x (by simp)
    · exact h _ (List.mem_cons_of_mem _ z)
  omega
theorem maxL_eq {x m : Int} {r : List Int} (hm : m ∈ x :: r) (h : ∀ y, y ∈ x :: r → y ≤ m) : m = maxL x r := by
  obtain ⟨h1, h2, h3⟩ := maxL_spec r x
  have a : m ≤ maxL x r := by
    rcases List.mem_cons.mp hm with z | z
    · rw [z]; exact h2
    · exact h3 m z
  have b : maxL x r ≤ m := by
    rcases h1 with z | z
    · rw [z]; exact h x (by simp)
    · exact h _ (List.mem_cons_of_mem _ z)
  omega
theorem sort2 {a b : Int} {ns : List Int} (p : ns.Perm [a, b]) (s : ns.Pairwise (· ≤ ·)) : ns = if b < a then [b, a] else [a, b] := by
  have hl := p.length_eq
  match ns, hl with
  | [c, d], _ =>
    have hs : c ≤ d := by
      have := List.pairwise_cons.mp s
      exact this.1 d (by simp)
    have hc : c = a ∨ c = b := by
      have : c ∈ [a, b] := p.mem_iff.mp (by simp)
      simpa using this
    rcases hc with e | e
    · subst e
      have q : d = b := by simpa using List.perm_singleton.mp ((List.perm_cons c).mp p)
      rw [if_neg (by omega), q]
    · subst e
      have p2 : [c, d].Perm [c, a] := p.trans (List.Perm.swap c a [])
      have q : d = a := by simpa using List.perm_singleton.mp ((List.perm_cons c).mp p2)
      by_cases z : c < a
      · rw [if_pos z, q]
      · have e : c = a := by omega
        rw [if_neg z, q, e]
def biVal : Bi → Value
  | .len => .builtin "len" | .abs => .builtin "abs" | .min1 => .builtin "min" | .max1 => .builtin "max" | .min2 => .builtin "min" | .max2 => .builtin "max"
  | .sum => .builtin "sum" | .all => .builtin "all" | .any => .builtin "any" | .tuple => .type "tuple" | .list => .type "list" | .sorted => .builtin "sorted" | .int => .type "int" | .str => .type "str" | .isi _ => .none
theorem SdA.one {K : PySem.W.Frag} {H : Hp} {mu : List Addr} {vs : List V} {d : D} (h : SdA K H mu vs [d]) : ∃ v, vs = [v] ∧ Sd K H mu v d := by
  cases h with
  | cons q t => cases t; exact ⟨_, rfl, q⟩
theorem SdA.two {K : PySem.W.Frag} {H : Hp} {mu : List Addr} {vs : List V} {d e : D} (h : SdA K H mu vs [d, e]) : ∃ v w, vs = [v, w] ∧ Sd K H mu v d ∧ Sd K H mu w e := by
  cases h with
  | cons q t =>
    obtain ⟨w, rfl, q2⟩ := t.one
    exact ⟨_, w, rfl, q, q2⟩
theorem bi_all (g : Good C G F k X E) (b : Bi) (hb : ∀ t, b ≠ .isi t) (ds : List D) (st : Sto) (vs : List V) (H : Hp) (mu : List Addr) (Q : VK) (s : SRel C H mu st) (q : SdA C.K H mu vs ds) (h : Post C (RSd C) (biD st b ds) H mu Q E) : CallAll X (biVal b) vs H (frzQ Q) := by
  unfold biD at h
  split at h
  · -- len tup
    obtain ⟨v, rfl, q1⟩ := q.one
    obtain ⟨a, xs, rfl, h1, h2⟩ := q1.cTup
    refine ⟨_, call_len_seq, a, xs, rfl, .inr (by rw [g.hK]; exact h1), ?_⟩
    rw [h2.length]
    exact Post.valQ h s (.int _)
  · obtain ⟨v, rfl, q1⟩ := q.one
    obtain ⟨a, xs, rfl, h1, h2⟩ := q1.cLst
    refine ⟨_, call_len_seq, a, xs, rfl, .inl (by rw [g.hK]; exact h1.sq), ?_⟩
    rw [h2.length]
    exact Post.valQ h s (.int _)
  · obtain ⟨v, rfl, q1⟩ := q.one
    cases q1.cInt
    exact ⟨_, call_abs, _, rfl, Post.valQ h s (.int _)⟩
  · obtain ⟨v, w, rfl, q1, q2⟩ := q.two
    cases q1.cInt; cases q2.cInt
    exact ⟨_, call_min2 g.calm, _, _, rfl, Post.valQ h s (.int _)⟩
  · obtain ⟨v, w, rfl, q1, q2⟩ := q.two
    cases q1.cInt; cases q2.cInt
    exact ⟨_, call_max2 g.calm, _, _, rfl, Post.valQ h s (.int _)⟩
  · -- min1
    obtain ⟨v, rfl, q1⟩ := q.one
    obtain ⟨a, xs, rfl, h1, h2⟩ := q1.cLst
    unfold ofI at h
    split at h
    · next z =>
      have e := intsD_ok z h2
      subst e
      dsimp only at h
      split at h
      · exact h.elim
      · refine ⟨_, cr_min g.calm, a, _, rfl, by rw [g.hK]; exact h1.sq, by simp, fun m hm hl => ?_⟩
        rw [minL_eq hm hl]
        exact Post.valQ h s (.int _)
    · exact h.elim
  · obtain ⟨v, rfl, q1⟩ := q.one
    obtain ⟨a, xs, rfl, h1, h2⟩ := q1.cLst
    unfold ofI at h
    split at h
    · next z =>
      have e := intsD_ok z h2
      subst e
      dsimp only at h
      split at h
      · exact h.elim
      · refine ⟨_, cr_max g.calm, a, _, rfl, by rw [g.hK]; exact h1.sq, by simp, fun m hm hl => ?_⟩
        rw [maxL_eq hm hl]
        exact Post.valQ h s (.int _)
    · exact h.elim
  · -- sum
    obtain ⟨v, rfl, q1⟩ := q.one
    obtain ⟨a, xs, rfl, h1, h2⟩ := q1.cLst
    unfold ofI at h
    split at h
    · next z =>
      have e := intsD_ok z h2
      subst e
      exact ⟨_, cr_sum g.calm, a, _, rfl, by rw [g.hK]; exact h1.sq, Post.valQ h s (.int _)⟩
    · exact h.elim
  · obtain ⟨v, rfl, q1⟩ := q.one
    obtain ⟨a, xs, rfl, h1, h2⟩ := q1.cLst
    unfold ofB at h
    split at h
    · next z =>
      have e := boolsD_ok z h2
      subst e
      exact ⟨_, cr_all g.calm, a, _, rfl, by rw [g.hK]; exact h1.sq, Post.valQ h s (.bl _)⟩
    · exact h.elim
  · obtain ⟨v, rfl, q1⟩ := q.one
    obtain ⟨a, xs, rfl, h1, h2⟩ := q1.cLst
    unfold ofB at h
    split at h
    · next z =>
      have e := boolsD_ok z h2
      subst e
      exact ⟨_, cr_any g.calm, a, _, rfl, by rw [g.hK]; exact h1.sq, Post.valQ h s (.bl _)⟩
    · exact h.elim
  · -- tuple(list)
    obtain ⟨v, rfl, q1⟩ := q.one
    obtain ⟨a, xs, rfl, h1, h2⟩ := q1.cLst
    exact ⟨_, call_tuple_of, a, xs, rfl, .inl ⟨by rw [g.hK]; exact h1.sq, fun p hp => Post.tupQ h s h2 hp⟩⟩
  · obtain ⟨v, rfl, q1⟩ := q.one
    obtain ⟨a, xs, rfl, h1, h2⟩ := q1.cTup
    exact ⟨_, call_tuple_of, a, xs, rfl, .inr ⟨by rw [g.hK]; exact h1, Post.valQ h s (.tup h1 h2)⟩⟩
  · obtain ⟨v, rfl, q1⟩ := q.one
    obtain ⟨a, xs, rfl, h1, h2⟩ := q1.cLst
    exact ⟨_, call_list_of, a, xs, rfl, .inl (by rw [g.hK]; exact h1.sq), fun p hp => Post.lstQ h s h2 hp⟩
  · obtain ⟨v, rfl, q1⟩ := q.one
    obtain ⟨a, xs, rfl, h1, h2⟩ := q1.cTup
    exact ⟨_, call_list_of, a, xs, rfl, .inr (by rw [g.hK]; exact h1), fun p hp => Post.lstQ h s h2 hp⟩
  · -- sorted
    obtain ⟨v, rfl, q1⟩ := q.one
    obtain ⟨a, xs, rfl, h1, h2⟩ := q1.cLst
    rename_i i j
    have e : xs = [i, j].map V.int := intsD_ok (ns := [i, j]) rfl h2
    subst e
    refine ⟨_, cr_sorted, a, [i, j], rfl, by rw [g.hK]; exact h1.sq, by simp, fun ns p hp hs hn => ?_⟩
    rw [sort2 hp hs]
    split
    · next z => rw [if_pos z] at h; exact Post.lstQ h s (.cons (.int _) (.cons (.int _) .nil)) hn
    · next z => rw [if_neg z] at h; exact Post.lstQ h s (.cons (.int _) (.cons (.int _) .nil)) hn
  · obtain ⟨v, rfl, q1⟩ := q.one
    cases q1.cInt
    exact ⟨_, call_int1, .inl ⟨_, rfl, Post.valQ h s (.int _)⟩⟩
  · obtain ⟨v, rfl, q1⟩ := q.one
    cases q1.cBl
    exact ⟨_, call_int1, .inr ⟨_, rfl, Post.valQ h s (.int _)⟩⟩
  · exact absurd rfl (hb _)
  · exact h.elim
def biName : Bi → Option (Str × Bool)
  | .len => some ("len", false) | .abs => some ("abs", false) | .min1 => some ("min", false) | .max1 => some ("max", false) | .min2 => some ("min", false) | .max2 => some ("max", false)
  | .sum => some ("sum", false) | .all => some ("all", false) | .any => some ("any", false) | .tuple => some ("tuple", true) | .list => some ("list", true) | .sorted => some ("sorted", false) | .int => some ("int", true) | .str => none | .isi _ => none
theorem bi_boot (b : Bi) (x : Str) (t : Bool) (h : biName b = some (x, t)) : bootBuiltins x = some (biVal b) ∧ x ≠ "__name__" ∧ (x == ("__debug__" : Str)) = false ∧ x ∈ bltNames ∧ (∀ y, b ≠ .isi y) ∧ ((t = false ∧ ∃ id, biVal b = .builtin id) ∨ (t = true ∧ ∃ id, biVal b = .type id)) := by
  cases b with
  | isi t => cases h
  | str => cases h
  | _ =>
    cases h
    refine ⟨by decide +kernel, by decide +kernel, by decide +kernel, by decide +kernel, fun y z => (by cases z), ?_⟩
    first | exact .inl ⟨rfl, _, rfl⟩ | exact .inr ⟨rfl, _, rfl⟩
theorem sBi (g : Good C G F k X E) {b : Bi} {x : Str} {t : Bool} {e : Expr} {es : List Expr} {cs : Es} {p pos : Pos} (hn : biName b = some (x, t)) (hg : Gl X x) (hes : PA X (e :: es) (rdEs C F cs E)) (hp : (e :: es).all plainE = true) : PE X (.Call (.Name x p) (e :: es) [] pos) (rdE C F (.bi b cs) E) := by
  obtain ⟨hv, hn1, hdb, hmem, hb, ht⟩ := bi_boot b x t hn
  have hm := g.blt x hmem
  rw [List.all_cons, Bool.and_eq_true] at hp
  have fin : ∀ σ H Q, rdE C F (.bi b cs) E σ H Q → tCB (CallAll X (biVal b)) (rdEs C F cs E) σ H (frzQ Q) := fun σ H Q ⟨H0, mu0, r, st, mu, R, h⟩ => by
    unfold ev at h
    refine ⟨H0, mu0, r, st, mu, R, Post.bindLen h fun ds st1 vs H1 mu1 len e1 s1 q1 h1 => ?_⟩
    exact bi_all g b hb ds st1 vs H1 mu1 Q s1 q1 h1
  rcases ht with ⟨_, id, e1⟩ | ⟨_, id, e1⟩
  · rw [e1] at hv fin
    exact peImp (peFrzO (pe_callB callAll hg hm hv hes hn1 hdb (plain_star hp.1) (plain_any hp.2))) fin
  · rw [e1] at hv fin
    exact peImp (peFrzO (pe_callTy callAll hg hm hv hes hn1 hdb (plain_star hp.1) (plain_any hp.2))) fin
def tyName : Ty → Str
  | .int => "int" | .bool => "bool" | .tuple => "tuple" | .str => "str"
def tyStr : Ty → String
  | .int => "int" | .bool => "bool" | .tuple => "tuple" | .str => "str"
theorem ty_boot (t : Ty) : bootBuiltins (tyName t) = some (.type (tyStr t)) ∧ tyName t ≠ "__name__" ∧ (tyName t == ("__debug__" : Str)) = false ∧ tyName t ∈ bltNames := by
  cases t <;> exact ⟨by decide +kernel, by decide +kernel, by decide +kernel, by decide +kernel⟩
theorem kit_all : (kitB "NoneType" "int" = some false ∧ kitB "NoneType" "bool" = some false ∧ kitB "NoneType" "tuple" = some false ∧ kitB "NoneType" "str" = some false) ∧
    (kitB "bool" "int" = some true ∧ kitB "bool" "bool" = some true ∧ kitB "bool" "tuple" = some false ∧ kitB "bool" "str" = some false) ∧
    (kitB "int" "int" = some true ∧ kitB "int" "bool" = some false ∧ kitB "int" "tuple" = some false ∧ kitB "int" "str" = some false) ∧
    (kitB "str" "int" = some false ∧ kitB "str" "bool" = some false ∧ kitB "str" "tuple" = some false ∧ kitB "str" "str" = some true) ∧
    (kitB "tuple" "int" = some false ∧ kitB "tuple" "bool" = some false ∧ kitB "tuple" "tuple" = some true ∧ kitB "tuple" "str" = some false) ∧
    (kitB "list" "int" = some false ∧ kitB "list" "bool" = some false ∧ kitB "list" "tuple" = some false ∧ kitB "list" "str" = some false) := by
  decide +kernel
/-- a value's type -/
theorem Sd.ty {K : PySem.W.Frag} {H : Hp} {mu : List Addr} {v : V} {d : D} (h : Sd K H mu v d) (hc : ∀ n, d ≠ .cell n) : ∃ T, TyX K H v (.type T) ∧ ∀ t b, isTy t d = some b → kitB T (tyStr t) = some b := by
  obtain ⟨⟨a1, a2, a3, a4⟩, ⟨b1, b2, b3, b4⟩, ⟨c1, c2, c3, c4⟩, ⟨d1, d2, d3, d4⟩, ⟨e1, e2, e3, e4⟩, f1, f2, f3, f4⟩ := kit_all
  cases h with
  | non => exact ⟨_, .base .non, fun t b z => by cases t <;> cases z <;> assumption⟩
  | bl b => exact ⟨_, .base (.bl b), fun t b z => by cases t <;> cases z <;> assumption⟩
  | int i => exact ⟨_, .base (.int i), fun t b z => by cases t <;> cases z <;> assumption⟩
  | str x => exact ⟨_, .base (.str x), fun t b z => by cases t <;> cases z <;> assumption⟩
  | tup q t =>
    refine ⟨"tuple", ?_, fun t b z => by cases t <;> cases z <;> assumption⟩
    rcases q with (q | ⟨o, q⟩) | ⟨o, its, n, q, qc, _⟩
    · exact .base (.tup q)
    · exact .fTuple q
    · exact .kTuple q qc
  | lst q t =>
    refine ⟨"list", ?_, fun t b z => by cases t <;> cases z <;> assumption⟩
    rcases q with ⟨o, q⟩ | ⟨o, its, n, q, qc, _⟩
    · exact .base (.frz q)
    · exact .kList q qc
  | cell q => exact absurd rfl (hc _)
theorem sIsi (g : Good C G F k X E) {t : Ty} {a : Expr} {ca : Rt.E} {p p2 pos : Pos} (hg : Gl X "isinstance") (hg2 : Gl X (tyName t)) (ha : PE X a (rdE C F ca E)) (hp : plainE a = true) : PE X (.Call (.Name "isinstance" p) [a, .Name (tyName t) p2] [] pos) (rdE C F (.bi (.isi t) (.cons ca .nil)) E) := by
  obtain ⟨hv, hn1, hdb, hmem⟩ := ty_boot t
  have hm := g.blt _ hmem
  have hm0 : X.mg "isinstance" = none := g.blt _ (by decide +kernel)
  refine peImp (pe_callB call_isi hg hm0 boot_isinstance (pa_cons ha (pa_cons (pe_bltn (v := .ty (tyStr t)) hg2 hm hv rfl hn1 hdb) pa_nil (by rfl)) (plain_star hp)) (by decide) (by decide) (plain_star hp) (by rfl)) fun σ H Q ⟨H0, mu0, r, st, mu, R, h⟩ => ?_
  unfold ev evs evs at h
  refine ⟨H0, mu0, r, st, mu, R, ?_⟩
  cases z : ev F ca r st with
  | ok d st1 =>
    rw [z] at h
    simp only [Res.bind_ok] at h
    intro v H1 mu1 e s q
    have h1 : Post C (RSd C) (match isTy t d with | some b => .ok (.bl b) st1 | none => .bad) H1 mu1 Q E := Post.mono h e
    cases z2 : isTy t d with
    | none => rw [z2] at h1; exact h1.elim
    | some b =>
      rw [z2] at h1
      have hc : ∀ n, d ≠ .cell n := fun n z3 => by subst z3; cases t <;> cases z2
      obtain ⟨T, ty, hk⟩ := Sd.ty q hc
      refine ⟨v, .ty (tyStr t), .type T, .type (tyStr t), b, rfl, ?_, by rw [g.hK]; exact ty, kit_ty (hk t b z2), Post.val h1 s (.bl b)⟩
      exact .ty _
  | exc c st1 => rw [z] at h; exact h
  | bad => rw [z] at h; exact h
end
end Rt
namespace HT
open PySem PyProof.Rows
section
variable {prog : Program} {w : World} {A : Around} {E : Value → Shared → Prop} {s : Shared}
theorem adjust_rev (n : Nat) : Builtin.Slice.sliceAdjust none none (-1) (n : Int) = ((n : Int) - 1, -1) := rfl
theorem places_rev (n : Nat) : Builtin.Slice.slicePlaces ((n : Int) - 1) (-1) (-1) = n := by
  unfold Builtin.Slice.slicePlaces
  have h1 : ¬ ((-1 : Int) > 0) := by omega
  have h2 : (- -1 : Int) = 1 := by decide
  simp only [h1, if_false, h2, Int.ediv_one]
  split <;> omega
theorem fm_congr {a b : Type} {f g : a → Option b} : ∀ {l : List a}, (∀ x ∈ l, f x = g x) → l.filterMap f = l.filterMap g
  | [], _ => rfl
  | x :: l, h => by
    rw [List.filterMap_cons, List.filterMap_cons, h x (by simp), fm_congr (l := l) fun y hy => h y (by simp [hy])]
theorem sliceApplied_rev {sl : Addr} {vs : Value} {n : Nat} {Q : Int × Int × Nat → Shared → Prop} (hs : s.heap.IsSliceOf sl .none .none vs) (ps : IsPart vs (some (-1)))
    (h : Q ((n : Int) - 1, -1, n) s) : wpAny (model prog w) A (Builtin.Slice.sliceApplied (.ref sl) (pure (n : Int))) Q E s := by
  obtain ⟨os, hos, hcs, hds⟩ := id hs
  unfold Builtin.Slice.sliceApplied Builtin.Slice.sliceFields
  refine wpAny_bind (wpAny_bind (wpAny_field hos hds (x := .none) rfl (wpAny_bind (wpAny_field hos hds (x := .none) rfl (wpAny_bind (wpAny_field hos hds (x := vs) rfl (wpAny_pure ?_)))))))
  refine wpAny_bind (slicePart_ ps ?_)
  show wpAny _ _ (if ((-1 : Int) == 0) = true then _ else _) _ _ s
  rw [if_neg (by decide)]
  refine wpAny_bind (slicePart_none (wpAny_bind (slicePart_none (wpAny_bind (wpAny_pure ?_)))))
  show wpAny _ _ (match Builtin.Slice.sliceAdjust none none (-1) (n : Int) with | (lo, hi) => pure (lo, (-1 : Int), Builtin.Slice.slicePlaces lo hi (-1))) _ _ s
  rw [adjust_rev n]
  show wpAny _ _ (pure ((n : Int) - 1, (-1 : Int), Builtin.Slice.slicePlaces ((n : Int) - 1) (-1) (-1))) _ _ s
  rw [places_rev]
  exact wpAny_pure h
theorem pick_rev (xs : Array Value) : ((List.range xs.size).filterMap fun (m : Nat) => xs[((xs.size : Int) - 1 + (m : Int) * -1).toNat]?).toArray = xs.toList.reverse.toArray := by
  have e : (List.range xs.size).filterMap (fun (m : Nat) => xs[((xs.size : Int) - 1 + (m : Int) * -1).toNat]?) = ((List.range xs.size).map fun k => xs.size - 1 - k).filterMap (xs[·]?) := by
    rw [List.filterMap_map]
    apply fm_congr
    intro m hm
    have := List.mem_range.mp hm
    simp only [Function.comp]
    rw [show ((xs.size : Int) - 1 + (m : Int) * -1).toNat = xs.size - 1 - m by omega]
  rw [e, PySem.W.krv_range, List.filterMap_reverse, PySem.W.krv_all]
theorem getItem_tuple_rev {t sl : Addr} {items : Array Value} {vs : Value} {Q : Value → Shared → Prop} (ht : IsTup s.heap t items) (hs : s.heap.IsSliceOf sl .none .none vs) (ps : IsPart vs (some (-1)))
    (h : Q (.ref s.heap.objs.size) { s with heap := s.heap.push { cls := .type "tuple", data := .seq items.toList.reverse.toArray } })
    (hsz : items.size ≤ sizeLine) : wpAny (model prog w) A (getItem (.ref t) (.ref sl)) Q E s := by
  have htake : sizeOk (.seq items.toList.reverse.toArray) := by
    show items.toList.reverse.toArray.size ≤ sizeLine
    rw [List.size_toArray, List.length_reverse, Array.length_toList]
    exact hsz
  obtain ⟨os, hos, hcs, hds⟩ := id hs
  have hTs : s.TypeIs (.ref sl) "slice" := ⟨os, hos, hcs⟩
  unfold getItem
  try with_reducible refine wpAny_holding ?_
  first | refine wpAny_bind (wpAny_pure ?_) | skip
  refine wpAny_bind (wpAny_sequenceKey ht.typeIs (by decide) ?_)
  refine wpAny_bind (wpAny_callSpecial?_slot (name := Str.ofString "__getitem__") ht.typeIs PyProof.Rows.slot_tuple_getitem
    (wpAny_call_entry PyProof.Rows.slot_tuple_getitem ht.typeIs entry_tuple_getitem ?_ (args_tuple_getitem _ _)))
  show wpAny _ _ (Builtin.Tuple.tupleItemsOf (.ref t) >>= _) _ _ s
  refine wpAny_bind (tupleItemsOf_ ht ?_)
  refine wpAny_bind (wpAny_typeOf hTs ?_)
  rw [if_pos (by decide)]
  refine wpAny_bind (sliceApplied_rev hs ps ?_)
  have hno : ¬ (((items.size : Int) - 1 == 0 && (-1 : Int) == 1 && items.size == items.size) = true) := by
    intro q
    rw [Bool.and_eq_true, Bool.and_eq_true] at q
    have q1 : (-1 : Int) = 1 := eq_of_beq q.1.2
    omega
  show wpAny _ _ (if ((items.size : Int) - 1 == 0 && (-1 : Int) == 1 && items.size == items.size) = true then _ else _) _ _ s
  rw [if_neg hno, pick_rev]
  first
    | exact wpAny_bind (m := Builtin.Tuple.tupleExact _) (wpAny_newObj_type (wpAny_pure ⟨_, rfl, wpAny_pure h⟩) htake)
    | exact wpAny_bind (m := Builtin.Tuple.tupleExact _) (wpAny_newObj_type (wpAny_bind (wpAny_pure (wpAny_pure ⟨_, rfl, wpAny_pure h⟩))) htake)
    | exact wpAny_bind (wpAny_bind (m := Builtin.Tuple.tupleExact _) (wpAny_newObj_type (wpAny_pure (wpAny_pure ⟨_, rfl, wpAny_pure h⟩)) htake))
    | exact wpAny_bind (wpAny_bind (m := Builtin.Tuple.tupleExact _) (wpAny_newObj_type (wpAny_pure ⟨_, rfl, wpAny_pure h⟩) htake))
end
end HT
namespace L2
open PySem PySem.Spec PyProof.Rows
section
variable {X : Cx}
def tRevT (K : PySem.W.Frag) (te : TE) : TE := fun σ H Q => te σ H fun x H1 => ∃ a xs, x = .ref a ∧ SqT K H1 a xs ∧ ∀ p, H1 p = none → Q (.ref p) (upd H1 p (.tup xs.reverse))
theorem pe_revT {e : Expr} {te : TE} {k : Nat} {p1 p2 p3 pos : Pos} (he : PE X e te) : PE X (.Subscript e (.Slice none none (some (.UnaryOp .USub (.Constant (.int 1) k p1) p2)) p3) pos) (tRevT X.K te) := by
  refine ⟨fun pins s σ H Q I h => ?_⟩
  refine Subscript_ (thn (he.run pins s σ H _ I h) fun v s1 ⟨x, H1, I1, r1, q1⟩ => ?_)
  obtain ⟨a, xs, ex, hx, q⟩ := q1
  subst ex
  cases r1
  have hst : PO X (some (.UnaryOp .USub (.Constant (.int 1) k p1) p2)) (tPart (tUn (rU fun i => .int (-i)) (tC (.int 1)))) := po_some (pe_un un_neg pe_int)
  refine wpAny_Slice (thn (po_none.run pins s1 σ H1 (fun o H2 => o = none ∧ H2 = H1) I1 ⟨rfl, rfl⟩) fun vl s2 ⟨l, H2, I2, pl, el, e2⟩ => ?_)
  subst el e2
  refine thn (po_none.run pins s2 σ H2 (fun o H3 => o = none ∧ H3 = H2) I2 ⟨rfl, rfl⟩) fun vu s3 ⟨u, H3, I3, pu, eu, e3⟩ => ?_
  subst eu e3
  refine thn (hst.run pins s3 σ H3 (fun o H4 => o = some (-1) ∧ H4 = H3) I3 ⟨1, rfl, -1, rfl, rfl, rfl⟩) fun vs s4 ⟨o, H4, I4, ps, eo, e4⟩ => ?_
  subst eo e4
  have I5 : Inv X pins σ H4 { s4 with heap := s4.heap.push { cls := .type "slice", data := .fields #[vl, vu, vs] } } := I4.kept (t' := s4.toks) fun b ob q => Heap.get?_push_of_some _ q
  cases pl
  cases pu
  obtain ⟨its, r, ht, hz⟩ := I5.tuple hx
  have hlen : its.toArray.size = xs.length := by rw [List.size_toArray]; exact r.length.symm
  show wpAny (model X.prog X.w) X.A (subscriptTail e (.Slice none none (some (.UnaryOp .USub (.Constant (.int 1) k p1) p2)) p3) (.ref a) (.ref s4.heap.objs.size)) (EP X pins σ Q) X.xe { s4 with heap := s4.heap.push { cls := .type "slice", data := .fields #[.none, .none, vs] } }
  refine tail_any (ops := [.ref a, .ref s4.heap.objs.size]) ht.typeIs (PyProof.Rows.slot_tuple_getitem.lookup) ?_ (by with_unfolding_all rfl)
  refine HT.getItem_tuple_rev ht (Heap.IsSliceOf.new ..) ps ?_ (by rw [hlen]; exact hz)
  refine ⟨.ref _, _, I5.laid (t' := s4.toks) (o := .tup xs.reverse) (fun b ob q => Heap.get?_push_of_some _ q) (Nat.le_refl _) ?_, rfl, q _ (I5.hok.fresh (Nat.le_refl _))⟩
  exact ⟨by rw [List.length_reverse]; exact hz, _, r.reverse, IsTup.new _ _⟩
end
end L2
namespace Rt
open PySem PySem.Spec PyProof.Rows L2
theorem sRev {C : Cn} {G : Gam} {F : Nat → List D → Sto → Res D} {k : Nat} {X : Cx} {E : XK} (g : Good C G F k X E) {a : Expr} {ca : Rt.E} {n : Nat} {p1 p2 p3 pos : Pos} (ha : PE X a (rdE C F ca E)) : PE X (.Subscript a (.Slice none none (some (.UnaryOp .USub (.Constant (.int 1) n p1) p2)) p3) pos) (rdE C F (.rev ca) E) := by
  refine peImp (peFrzO (pe_revT ha)) fun σ H Q ⟨H0, mu0, r, st, mu, R, h⟩ => ?_
  unfold ev at h
  refine ⟨H0, mu0, r, st, mu, R, Post.bind h fun x st1 v H1 mu1 e1 s1 q1 h1 => ?_⟩
  unfold revD at h1
  split at h1
  · obtain ⟨a, xs, rfl, g1, g2⟩ := q1.cTup
    exact ⟨a, xs, rfl, by rw [g.hK]; exact g1, fun p hp => Post.tupQ h1 s1 g2.reverse hp⟩
  · exact h1.elim
end Rt
set_option maxHeartbeats 1000000
namespace RZ
open PySem PySem.Spec PyProof.Rows L2
/-- the tuple at a and the list at b as they stand at each turn -/
def ItzM (K : PySem.W.Frag) (a b : Addr) : It :=
  ⟨fun i H => ∃ (xs ys : List V) (x y : V), SqT K H a xs ∧ SqL K H b ys ∧ xs[i]? = some x ∧ ys[i]? = some y,
    fun i H v H' => ∃ T x y, v = .ref T ∧ H T = none ∧ H' = upd H T (.tup [x, y]) ∧ (∀ xs, SqT K H a xs → xs[i]? = some x) ∧ ∀ ys, SqL K H b ys → ys[i]? = some y,
    fun i H => ∃ xs ys : List V, SqT K H a xs ∧ SqL K H b ys ∧ (xs.length = i ∧ i ≤ ys.length ∨ ys.length = i ∧ i ≤ xs.length)⟩
theorem sep_of {z TI TO i1 i2 a b : Addr} (D : ZipApart z TI TO i1 i2 a b) : ZipSep2 z TI TO i1 i2 [i1, a] [i2, b] where
  TIz := D.TIz
  TOz := D.TOz
  TITO := D.TITO
  TIi1 := D.TIi1
  mem1 := by simp
  zf1 := by simp [D.i1z.symm, D.l1z.symm]
  Tf1 := by simp [D.TOi1, D.l1TO.symm]
  TIi2 := D.TIi2
  mem2 := by simp
  zf2 := by simp [D.i2z.symm, D.l2z.symm]
  Tf2 := by simp [D.TOi2, D.l2TO.symm]
  sep1_2 := by simp [D.i12, D.l2i1.symm]
  sep2_1 := by simp [D.i12.symm, D.l1i2.symm]
theorem turn_zipM {P : Program} {w : World} {K : PySem.W.Frag} {elts : List Expr} {kk : Nat} {tpos : Pos} {a b z TI TO i1 i2 : Addr} (D : ZipApart z TI TO i1 i2 a b) :
    Turn P w K (.Tuple elts kk tpos) (ItzM K a b) [z, TI, TO, i1, i2] z (fun i h => IsZip h z TI TO .none ∧ IsPair h TI (.ref i1) (.ref i2) ∧ (∃ x y, IsPair h TO x y) ∧ h.IsTupleIter i1 a i ∧ h.IsListIter i2 b i) where
  mem := by simp
  obj := fun i h st c hc => by
    obtain ⟨hz, hTI, ⟨x, y, hTO⟩, ⟨o1, e1, _, d1⟩, ⟨o2, e2, _, d2⟩⟩ := st
    have e' : c = z ∨ c = TI ∨ c = TO ∨ c = i1 ∨ c = i2 := by simpa using hc
    rcases e' with q | q | q | q | q
    · rw [q]; exact ⟨_, hz, fun v q => nomatch q⟩
    · rw [q]; exact ⟨_, hTI, fun v q => nomatch q⟩
    · rw [q]; exact ⟨_, hTO, fun v q => nomatch q⟩
    · rw [q]; exact ⟨o1, e1, fun v q => by rw [d1] at q; cases q⟩
    · rw [q]; exact ⟨o2, e2, fun v q => by rw [d2] at q; cases q⟩
  keep := fun i h h' st k => by
    obtain ⟨hz, hTI, ⟨x, y, hTO⟩, h1, h2⟩ := st
    exact ⟨k z (by simp) _ hz, k TI (by simp) _ hTI, ⟨x, y, k TO (by simp) _ hTO⟩, h1.at fun o q => k i1 (by simp) o q, h2.at fun o q => k i2 (by simp) o q⟩
  item := by
    intro X hP hw hK hc i pins s σ H E I hf st hg
    subst hP hw hK
    obtain ⟨hz, hTI, ⟨x0, y0, hTO⟩, h1, h2⟩ := st
    obtain ⟨xs, ys, x, y, hqx, hqy, hx, hy⟩ := hg
    obtain ⟨its, rv, p, _⟩ := I.tuple hqx
    obtain ⟨its2, rv2, p2, _⟩ := I.list hqy
    obtain ⟨u, hu, ru⟩ := rv.get hx
    obtain ⟨u2, hu2, ru2⟩ := rv2.get hy
    have hzl : z < s.heap.objs.size := Heap.lt_size hz
    have lt1 : i < its.toArray.size := by rw [List.size_toArray]; exact (List.getElem?_eq_some_iff.mp hu).1
    have lt2 : i < its2.toArray.size := by rw [List.size_toArray]; exact (List.getElem?_eq_some_iff.mp hu2).1
    have hh : X.A.in1.handled = none := I.ok.hd hc
    refine wpAny_pyNext_zipD2_item (sep_of D) (Draws.tuple hh i1 a D.l1i1 its.toArray) (Draws.list hh i2 b D.l2i2 its2.toArray) hz hTI hTO ⟨h1, p⟩ ⟨h2, p2.isList⟩ lt1 lt2 fun v1 v2 h' tk g1 g2 z' TO' h1' h2' hT hsz hk => ?_
    have ev1 : v1 = u := by
      have : its.toArray[i]? = some u := by simpa using hu
      rw [this] at g1; exact (Option.some.inj g1).symm
    have ev2 : v2 = u2 := by
      have : its2.toArray[i]? = some u2 := by simpa using hu2
      rw [this] at g2; exact (Option.some.inj g2).symm
    subst ev1 ev2
    refine ⟨_, rfl, wpAny_letOwnedTupleGo_zip (s := { s with heap := h', toks := tk }) z' fun h'' z'' sb => ?_⟩
    have hT2 : h''.get? s.heap.objs.size = some { cls := .type "tuple", data := .seq #[v1, v2] } := (sb.2 _ (Nat.ne_of_gt hzl)).trans hT
    have new : ObjOk X.prog X.w (upd H s.heap.objs.size (.tup [x, y])) h'' s.heap.objs.size (.tup [x, y]) :=
      ⟨by show 2 ≤ sizeLine; decide, [v1, v2], .cons ru (.cons ru2 .nil), ⟨_, hT2, rfl, _, rfl⟩⟩
    have I1 : Inv X pins σ (upd H s.heap.objs.size (.tup [x, y])) { s with heap := h'', toks := tk } :=
      I.turnedNew (t' := tk) (ch := [z, TI, TO, i1, i2]) (fun c o hb q => (sb.2 c (fun q' => hb (by simp [q']))).trans (hk c o (fun q' => hb (by simp [q'])) (fun q' => hb (by simp [q'])) (fun q' => hb (by simp [q'])) (fun q' => hb (by simp [q'])) q)) hf (Nat.le_refl _) new
    refine ⟨.ref s.heap.objs.size, _, I1, rfl, ⟨_, x, y, rfl, I.hok.fresh (Nat.le_refl _), rfl, fun l hl => by rw [I.tuple_inj hl hqx]; exact hx, fun l hl => by rw [I.list_inj hl hqy]; exact hy⟩, ⟨z'', ?_, ⟨v1, v2, ?_⟩, ?_, ?_⟩, fun c hcm => ?_⟩
    · exact (sb.2 _ D.TIz).trans (hk _ _ D.TIz D.TITO D.TIi1 D.TIi2 hTI)
    · exact (sb.2 _ D.TOz).trans TO'
    · exact h1'.1.at fun o q => (sb.2 _ D.i1z).trans q
    · exact h2'.1.at fun o q => (sb.2 _ D.i2z).trans q
    · have hlt : c < s.heap.objs.size := by
        have e' : c = z ∨ c = TI ∨ c = TO ∨ c = i1 ∨ c = i2 := by simpa using hcm
        rcases e' with q | q | q | q | q
        · rw [q]; exact hzl
        · rw [q]; exact Heap.lt_size hTI
        · rw [q]; exact Heap.lt_size hTO
        · rw [q]; obtain ⟨_, e1, _⟩ := h1; exact Heap.lt_size e1
        · rw [q]; obtain ⟨_, e2, _⟩ := h2; exact Heap.lt_size e2
      rw [upd_ne (Nat.ne_of_lt hlt)]
      exact (hf c hcm).1
  done := by
    intro X hP hw hK hc i pins s σ H E I hf st hg
    subst hP hw hK
    obtain ⟨hz, hTI, ⟨x0, y0, hTO⟩, h1, h2⟩ := st
    obtain ⟨xs, ys, hqx, hqy, hend⟩ := hg
    obtain ⟨its, rv, p, _⟩ := I.tuple hqx
    obtain ⟨its2, rv2, p2, _⟩ := I.list hqy
    have l1 := rv.length
    have l2 := rv2.length
    have hh : X.A.in1.handled = none := I.ok.hd hc
    have s1 : its.toArray.size = xs.length := by rw [List.size_toArray]; omega
    have s2 : its2.toArray.size = ys.length := by rw [List.size_toArray]; omega
    exact wpAny_pyNext_zipD2_end (sep_of D) (Draws.tuple hh i1 a D.l1i1 its.toArray) (Draws.list hh i2 b D.l2i2 its2.toArray) hz hTI hTO ⟨h1, p⟩ ⟨h2, p2.isList⟩ (by omega) (by omega) (by omega) fun h' tk hk => ⟨rfl, I.turnedL (t' := tk) (ch := [z, TI, TO, i1, i2]) (fun c o hb q =>
      hk c o (fun q' => hb (by simp [q'])) (fun q' => hb (by simp [q'])) (fun q' => hb (by simp [q'])) (fun q' => hb (by simp [q'])) q) hf⟩
  self := fun A i s Q E st h => wpAny_pyIter_zip st.1 h
def iZipB (K : PySem.W.Frag) (ta : TA) : TI := fun σ H R => ta σ H fun vs H1 => ∃ a b xs ys, vs = [.ref a, .ref b] ∧ ((SqL K H1 a xs ∧ SqL K H1 b ys ∧ R (Itz K a b) H1) ∨ (SqT K H1 a xs ∧ SqT K H1 b ys ∧ R (ItzT K a b) H1) ∨ (SqT K H1 a xs ∧ SqL K H1 b ys ∧ R (ItzM K a b) H1))
theorem pi_zipB {X : Cx} {e e2 : Expr} {ta : TA} {p pos tpos : Pos} {elts : List Expr} {kk : Nat} (hg : Gl X "zip") (hm : X.mg "zip" = none) (ha : PA X [e, e2] ta)
    (hs : starEach [e, e2] X.env = (false, eval e X.env) :: starEach [e2] X.env := by rfl) (hpl : (backTo pos (starEach [e2] X.env)).any (·.1) = false := by rfl) :
    PI X (.Tuple elts kk tpos) (.Call (.Name "zip" p) [e, e2] [] pos) (iZipB X.K ta) := by
  refine ⟨fun pins s σ H R I h => ?_⟩
  refine Call_ (ld_blt I hg hm PyProof.Rows.boot_zip (PyProof.Rows.callWith_type1 (thn (ha.run pos pins s σ H _ I h) fun us s1 ⟨vs, H1, I1, r1, q1⟩ => ?_) hs hpl))
  obtain ⟨a, b, xs, ys, ex, q1⟩ := q1
  subst ex
  cases r1 with
  | cons r rr =>
    cases rr with
    | cons r' rr =>
      cases rr
      cases r
      cases r'
      have fresh5 : ∀ c, c ∈ [s1.heap.objs.size + 4, s1.heap.objs.size + 2, s1.heap.objs.size + 3, s1.heap.objs.size, s1.heap.objs.size + 1] → FpOk X pins H1 c := fun c hcm => by
        have e' : c = s1.heap.objs.size + 4 ∨ c = s1.heap.objs.size + 2 ∨ c = s1.heap.objs.size + 3 ∨ c = s1.heap.objs.size ∨ c = s1.heap.objs.size + 1 := by simpa using hcm
        have hle : s1.heap.objs.size ≤ c := by omega
        exact I1.fpOk hle (I1.hok.fresh hle)
      rcases q1 with ⟨hqx, hqy, q⟩ | ⟨hqx, hqy, q⟩ | ⟨hqx, hqy, q⟩
      · obtain ⟨its, rv, p1, _⟩ := I1.list hqx
        obtain ⟨its2, rv2, p2, _⟩ := I1.list hqy
        refine call_zip_2 p1.isList p2.isList fun h' hz hTI hTO h1 h2 hsz hk => wpAny_pyIter_zip hz ?_
        have I2 : Inv X pins σ H1 { s1 with heap := h' } := I1.kept (t' := s1.toks) hk
        exact ⟨s1.heap.objs.size + 4, [s1.heap.objs.size + 4, s1.heap.objs.size + 2, s1.heap.objs.size + 3, s1.heap.objs.size, s1.heap.objs.size + 1], _, _, H1, rfl, I2, turn_zip (PySem.W.ktu_apart s1.heap.objs.size a b p1.lt p2.lt), ⟨hz, hTI, ⟨_, _, hTO⟩, h1, h2⟩, fresh5, q⟩
      · obtain ⟨its, rv, p1, _⟩ := I1.tuple hqx
        obtain ⟨its2, rv2, p2, _⟩ := I1.tuple hqy
        obtain ⟨o1, ho1, _⟩ := id p1
        obtain ⟨o2, ho2, _⟩ := id p2
        refine call_zipT (show s1.heap.IsTuple a its.toArray from p1) (show s1.heap.IsTuple b its2.toArray from p2) fun h' hz hTI hTO h1 h2 hsz hk => wpAny_pyIter_zip hz ?_
        have I2 : Inv X pins σ H1 { s1 with heap := h' } := I1.kept (t' := s1.toks) hk
        exact ⟨s1.heap.objs.size + 4, [s1.heap.objs.size + 4, s1.heap.objs.size + 2, s1.heap.objs.size + 3, s1.heap.objs.size, s1.heap.objs.size + 1], _, _, H1, rfl, I2, turn_zipT (PySem.W.ktu_apart s1.heap.objs.size a b (Heap.lt_size ho1) (Heap.lt_size ho2)), ⟨hz, hTI, ⟨_, _, hTO⟩, h1, h2⟩, fresh5, q⟩
      · obtain ⟨its, rv, p1, _⟩ := I1.tuple hqx
        obtain ⟨its2, rv2, p2, _⟩ := I1.list hqy
        obtain ⟨o1, ho1, _⟩ := id p1
        refine zip_begins2 (begins_tuple a its.toArray) (begins_list b its2.toArray) (show s1.heap.IsTuple a its.toArray from p1) p2.isList fun h' hz hTI hTO h1 h2 hsz hk => wpAny_pyIter_zip hz ?_
        have I2 : Inv X pins σ H1 { s1 with heap := h' } := I1.kept (t' := s1.toks) hk
        exact ⟨s1.heap.objs.size + 4, [s1.heap.objs.size + 4, s1.heap.objs.size + 2, s1.heap.objs.size + 3, s1.heap.objs.size, s1.heap.objs.size + 1], _, _, H1, rfl, I2, turn_zipM (PySem.W.ktu_apart s1.heap.objs.size a b (Heap.lt_size ho1) p2.lt), ⟨hz, hTI, ⟨_, _, hTO⟩, ⟨_, h1, rfl, rfl⟩, ⟨_, h2, rfl, rfl⟩⟩, fresh5, q⟩
end RZ
namespace Rt
open PySem PySem.Spec PyProof.Rows L2
section
variable {prog : Program} {w : World} {A : Around} {E : Value → Shared → Prop} {s : Shared}
theorem draw_list {it t : Addr} {items : Array Value} (hne : t ≠ it) : ∀ (n i : Nat) (s : Shared) (Q : List Value → Shared → Prop), s.heap.IsListIter it t i → s.heap.IsList t items → i + n ≤ items.size →
    (∀ h', h'.IsListIter it t (i + n) → Heap.SameBut it s.heap h' → Q ((items.toList.drop i).take n) { s with heap := h' }) → wpAny (model prog w) A (draw (.ref it) n) Q E s
  | 0, i, s, Q, hit, _, _, hQ => by
    show wpAny _ _ (pure []) Q E s
    exact wpAny_pure (by simpa using hQ s.heap hit (Heap.SameBut.refl ..))
  | n + 1, i, s, Q, hit, ht, hle, hQ => by
    have hlt : i < items.size := by omega
    show wpAny _ _ (pyNext (.ref it) >>= _) Q E s
    refine wpAny_bind (wpAny_pyNext_list_item hit ht (x := items[i]) (by simp [hlt]) fun h₁ hit₁ hs₁ => ?_)
    refine wpAny_bind (wpAny_holding (draw_list hne n (i + 1) _ _ hit₁ (ht.extBut hs₁.extBut hne) (by omega) fun h₂ hit₂ hs₂ => wpAny_pure ?_))
    have hd : items.toList.drop i = items[i] :: items.toList.drop (i + 1) := by simp [List.drop_eq_getElem_cons, hlt]
    have := hQ h₂ (by rw [show i + (n + 1) = i + 1 + n by omega]; exact hit₂) (hs₁.trans hs₂)
    rw [hd, List.take_succ_cons] at this
    exact this
theorem unpackItems_list {t : Addr} {items : Array Value} {Q : List Value → Shared → Prop} (hh : A.handled = none) (ht : s.heap.IsList t items)
    (hQ : ∀ h', Heap.ExtBut s.heap.objs.size s.heap h' → Q items.toList { s with heap := h' }) : wpAny (model prog w) A (unpackItems (.ref t) items.size none) Q E s := by
  have hlt : t ≠ s.heap.objs.size := by obtain ⟨o, ho, _⟩ := ht; exact Nat.ne_of_lt (Heap.lt_size ho)
  unfold unpackItems
  refine wpAny_bind ?_
  · unfold notIterableAtAll
    refine wpAny_bind (wpAny_specialOf ht.typeIs PySem.slot_list_iter.lookup ?_)
    refine wpAny_pure ?_
    simp only [Bool.false_eq_true, if_false]
    refine wpAny_bind (wpAny_holding (wpAny_pyIter_list ht ?_))
    have ht0 : (s.heap.push { cls := .type "list_iterator", data := .fields #[.ref t, .int 0 0] }).IsList t items := ht.at fun o q => Heap.get?_push_of_some _ q
    refine wpAny_bind (wpAny_holding (draw_list hlt items.size 0 _ _ ⟨_, Heap.get?_push_size _ rfl, rfl, rfl⟩ ht0 (by omega) fun h₁ hit₁ hs₁ => ?_))
    have hall : List.take items.size (List.drop 0 items.toList) = items.toList := by
      rw [List.drop_zero]; exact List.take_of_length_le (by simp)
    rw [hall]
    rw [if_neg (by simp)]
    have ht₁ : h₁.IsList t items := ht0.extBut hs₁.extBut hlt
    refine wpAny_bind (wpAny_holding (wpAny_pyNext_list_end hh hit₁ ht₁ (by simp) fun h₂ he₂ => ?_))
    simp only [Option.isSome_none, Bool.false_eq_true, if_false]
    refine wpAny_pure (hQ h₂ fun b o hb e => he₂ b o hb (hs₁.extBut b o hb (Heap.get?_push_of_some _ e)))
theorem assign_Tuple_list {env : PySem.Env} {elts : List Expr} {x1} {pos : Pos} {t : Addr} {items : Array Value} {Q : Unit → Shared → Prop} (hh : A.handled = none) (ht : s.heap.IsList t items)
    (hn : (assignEach elts env).length = items.size) (hstar : (assignEach elts env).findIdx? (·.1) = none)
    (h : ∀ h', Heap.ExtBut s.heap.objs.size s.heap h' → wpAny (model prog w) A (assignInOrder ((assignEach elts env).map (·.2)) items.toList) Q E { s with heap := h' }) :
    wpAny (model prog w) A (assign (.Tuple elts x1 pos) env (.ref t)) Q E s := by
  rw [assign_Tuple]
  refine wpAny_bind (wpAny_standAt ?_)
  unfold unpack
  rw [hn, hstar]
  exact wpAny_bind (wpAny_holding (unpackItems_list hh ht h))
end
/-- a tuple or a list is unpacked -/
def gTupA (K : PySem.W.Frag) (n : Nat) (t : TGs) : TG := fun v σ H Q => ∃ a xs, v = .ref a ∧ (SqT K H a xs ∨ SqL K H a xs) ∧ xs.length = n ∧ t xs σ H Q
theorem pg_tupA {X : Cx} {es : List Expr} {k : Nat} {t : TGs} {n : Nat} {pos : Pos} (hc : X.calm = true) (h : PGs X es t)
    (hn : (assignEach es X.env).length = n := by rfl) (hst : (assignEach es X.env).findIdx? (·.1) = none := by rfl) : PG X (.Tuple es k pos) (gTupA X.K n t) := by
  refine ⟨fun pins s σ H v u Q I r hw => ?_⟩
  obtain ⟨a, xs, e1, hq, hl, hw⟩ := hw
  subst e1
  cases r
  rcases hq with hq | hq
  · obtain ⟨its, rv, ht, hz⟩ := I.tuple hq
    refine assign_Tuple_tuple (I.ok.hd hc) ht (by simp [hn, ← hl, rv.length]) hst fun h' hx => ?_
    have I1 : Inv X pins σ H { s with heap := h' } := I.kept (t' := s.toks) fun b o e => hx b o (Nat.ne_of_lt (Heap.lt_size e)) e
    exact h.run pins _ σ H xs _ Q I1 (by simpa using rv) hw
  · obtain ⟨its, rv, ht, hz⟩ := I.list hq
    refine assign_Tuple_list (I.ok.hd hc) ht.isList (by simp [hn, ← hl, rv.length]) hst fun h' hx => ?_
    have I1 : Inv X pins σ H { s with heap := h' } := I.kept (t' := s.toks) fun b o e => hx b o (Nat.ne_of_lt (Heap.lt_size e)) e
    exact h.run pins _ σ H xs _ Q I1 (by simpa using rv) hw
def Tg.slots : Tg → List Nat
  | .name i => [i]
  | .tup2 a b => a.slots ++ b.slots
  | .tup3 a b c => a.slots ++ (b.slots ++ c.slots)
/-- outside of these slots all is as it was -/
def Off (vs : List Nat) (σ σ' : L2.St) : Prop := σ'.length = σ.length ∧ ∀ i, i ∉ vs → σ'[i]? = σ[i]?
theorem Off.trans {vs ws : List Nat} {a b c : L2.St} (x : Off vs a b) (y : Off ws b c) : Off (vs ++ ws) a c := by
  refine ⟨y.1.trans x.1, fun i h => ?_⟩
  rw [List.mem_append, not_or] at h
  exact (y.2 i h.2).trans (x.2 i h.1)
theorem wipe_get {σ : L2.St} : ∀ {vs : List Nat} {i : Nat}, i ∈ vs → i < σ.length → (L2.wipe σ vs)[i]? = some none
  | v :: vs, i, h, hl => by
    unfold L2.wipe
    by_cases e : v = i
    · subst e
      rw [List.getElem?_set_self (by rw [wipe_length]; exact hl)]
    · rw [List.getElem?_set_ne e]
      rcases List.mem_cons.mp h with z | z
      · exact absurd z.symm e
      · exact wipe_get z hl
theorem Off.wipe {vs ws : List Nat} {σ σ' : L2.St} (h : Off ws σ σ') (hs : ∀ i, i ∈ ws → i ∈ vs) : L2.wipe σ' vs = L2.wipe σ vs := by
  apply List.ext_getElem?
  intro i
  by_cases hi : i ∈ vs
  · by_cases hl : i < σ.length
    · rw [wipe_get hi hl, wipe_get hi (by rw [h.1]; exact hl)]
    · rw [List.getElem?_eq_none (by rw [wipe_length, h.1]; omega), List.getElem?_eq_none (by rw [wipe_length]; omega)]
  · rw [wipe_out hi, wipe_out hi]
    exact h.2 i (fun z => hi (hs i z))
def rdG (C : Cn) (tg : Tg) : TG := fun v σ H Q => ∃ H0 mu0 r st mu d r', Rel C H0 mu0 σ H r st mu ∧ Sd C.K H mu v d ∧ bindT tg d r = some r' ∧ ∀ σ', Rel C H0 mu0 σ' H r' st mu → Off tg.slots σ σ' → Q σ' H
def ckT (N : List Str) (ok : Str → Bool) : Tg → Expr → Bool
  | .name i, .Name x _ => decide (N[i]? = some x) && ok x
  | .tup2 a b, .Tuple [x, y] _ _ => ckT N ok a x && ckT N ok b y
  | .tup3 a b c, .Tuple [x, y, z] _ _ => ckT N ok a x && (ckT N ok b y && ckT N ok c z)
  | _, _ => false
theorem ckT_each {N : List Str} {ok : Str → Bool} {t : Tg} {e : Expr} {es : List Expr} {env : PySem.Env} (h : ckT N ok t e = true) : (assignEach (e :: es) env).map (·.2) = assign e env :: (assignEach es env).map (·.2) ∧ (assignEach (e :: es) env).length = (assignEach es env).length + 1 ∧ (assignEach (e :: es) env).findIdx? (·.1) = ((assignEach es env).findIdx? (·.1)).map (· + 1) := by
  cases e with
  | Name x p => exact ⟨rfl, rfl, by rw [show assignEach (.Name x p :: es) env = (false, assign (.Name x p) env) :: assignEach es env from rfl, List.findIdx?_cons]; rfl⟩
  | Tuple xs j p => exact ⟨rfl, rfl, by rw [show assignEach (.Tuple xs j p :: es) env = (false, assign (.Tuple xs j p) env) :: assignEach es env from rfl, List.findIdx?_cons]; rfl⟩
  | _ => cases t <;> simp [ckT] at h
section
variable {C : Cn} {G : Gam} {F : Nat → List D → Sto → Res D} {k : Nat} {X : Cx} {E : XK}
/-- a list of two, three data -/
theorem sndG (g : Good C G F k X E) {ok : Str → Bool} (hok : ∀ x, ok x = true → Loc X.env.scope x ∧ (X.fn x = true ∨ X.env.scope.names.lookup x = some .local)) : ∀ {tg : Tg} {e : Expr}, ckT G.N ok tg e = true → PG X e (rdG C tg)
  | .name i, .Name x p, h => by
    simp only [ckT, Bool.and_eq_true, decide_eq_true_eq] at h
    obtain ⟨h1, h2⟩ := hok x h.2
    refine pgImp (pg_name (i := i) (by rw [g.hN]; exact g.nd) (by rw [g.hN]; exact h.1) h1 h2) fun v σ H Q ⟨H0, mu0, r, st, mu, d, r', R, q, hb, w⟩ => ?_
    simp only [bindT] at hb
    cases hb
    exact w _ (R.set i q) ⟨by rw [List.length_set], fun j hj => List.getElem?_set_ne (fun z => hj (by simp [Tg.slots, z]))⟩
  | .tup2 a b, .Tuple [x, y] j p, h => by
    simp only [ckT, Bool.and_eq_true] at h
    obtain ⟨a1, a2, a3⟩ := ckT_each (es := [y]) (env := X.env) h.1
    obtain ⟨b1, b2, b3⟩ := ckT_each (es := []) (env := X.env) h.2
    refine pgImp (pg_tupA (n := 2) g.calm (pgs_cons (sndG g hok h.1) (pgs_cons (sndG g hok h.2) pgs_nil b1) a1) (by rw [a2, b2]; rfl) (by rw [a3, b3]; rfl)) fun v σ H Q ⟨H0, mu0, r, st, mu, d, r', R, q, hb, w⟩ => ?_
    cases d with
    | tup ds =>
      match ds, hb with
      | [d1, d2], hb =>
        simp only [bindT, Option.bind_eq_some_iff] at hb
        obtain ⟨r1, hb1, hb2⟩ := hb
        obtain ⟨ad, xs, rfl, hs, hd⟩ := q.cTup
        obtain ⟨v1, v2, rfl, q1, q2⟩ := hd.two
        refine ⟨ad, [v1, v2], rfl, by rw [g.hK]; exact .inl hs, rfl, v1, [v2], rfl, H0, mu0, r, st, mu, d1, r1, R, q1, hb1, fun σ1 R1 o1 => ?_⟩
        exact ⟨v2, [], rfl, H0, mu0, r1, st, mu, d2, r', R1, q2, hb2, fun σ2 R2 o2 => ⟨rfl, w σ2 R2 (o1.trans o2)⟩⟩
    | lst ds =>
      match ds, hb with
      | [d1, d2], hb =>
        simp only [bindT, Option.bind_eq_some_iff] at hb
        obtain ⟨r1, hb1, hb2⟩ := hb
        obtain ⟨ad, xs, rfl, hs, hd⟩ := q.cLst
        obtain ⟨v1, v2, rfl, q1, q2⟩ := hd.two
        refine ⟨ad, [v1, v2], rfl, by rw [g.hK]; exact .inr hs.sq, rfl, v1, [v2], rfl, H0, mu0, r, st, mu, d1, r1, R, q1, hb1, fun σ1 R1 o1 => ?_⟩
        exact ⟨v2, [], rfl, H0, mu0, r1, st, mu, d2, r', R1, q2, hb2, fun σ2 R2 o2 => ⟨rfl, w σ2 R2 (o1.trans o2)⟩⟩
    | _ => simp [bindT] at hb
  | .tup3 a b c, .Tuple [x, y, z] j p, h => by
    simp only [ckT, Bool.and_eq_true] at h
    obtain ⟨a1, a2, a3⟩ := ckT_each (es := [y, z]) (env := X.env) h.1
    obtain ⟨b1, b2, b3⟩ := ckT_each (es := [z]) (env := X.env) h.2.1
    obtain ⟨c1, c2, c3⟩ := ckT_each (es := []) (env := X.env) h.2.2
    refine pgImp (pg_tup (n := 3) g.calm (pgs_cons (sndG g hok h.1) (pgs_cons (sndG g hok h.2.1) (pgs_cons (sndG g hok h.2.2) pgs_nil c1) b1) a1) (by rw [a2, b2, c2]; rfl) (by rw [a3, b3, c3]; rfl)) fun v σ H Q ⟨H0, mu0, r, st, mu, d, r', R, q, hb, w⟩ => ?_
    cases d with
    | tup ds =>
      match ds, hb with
      | [d1, d2, d3], hb =>
        simp only [bindT, Option.bind_eq_some_iff] at hb
        obtain ⟨r2, ⟨r1, hb1, hb2⟩, hb3⟩ := hb
        obtain ⟨ad, xs, rfl, hs, hd⟩ := q.cTup
        cases hd with
        | cons q1 hd =>
          obtain ⟨v2, v3, rfl, q2, q3⟩ := hd.two
          rename_i v1
          refine ⟨ad, [v1, v2, v3], rfl, by rw [g.hK]; exact hs, rfl, v1, [v2, v3], rfl, H0, mu0, r, st, mu, d1, r1, R, q1, hb1, fun σ1 R1 o1 => ?_⟩
          refine ⟨v2, [v3], rfl, H0, mu0, r1, st, mu, d2, r2, R1, q2, hb2, fun σ2 R2 o2 => ?_⟩
          exact ⟨v3, [], rfl, H0, mu0, r2, st, mu, d3, r', R2, q3, hb3, fun σ3 R3 o3 => ⟨rfl, w σ3 R3 (o1.trans (o2.trans o3))⟩⟩
    | _ => simp [bindT] at hb
  | .name _, .BoolOp .., h | .name _, .NamedExpr .., h | .name _, .BinOp .., h | .name _, .UnaryOp .., h | .name _, .Lambda .., h | .name _, .IfExp .., h | .name _, .Dict .., h | .name _, .Set .., h | .name _, .ListComp .., h | .name _, .SetComp .., h | .name _, .DictComp .., h
  | .name _, .GeneratorExp .., h | .name _, .Await .., h | .name _, .Yield .., h | .name _, .YieldFrom .., h | .name _, .Compare .., h | .name _, .Call .., h | .name _, .FormattedValue .., h | .name _, .JoinedStr .., h | .name _, .Constant .., h | .name _, .Attribute .., h | .name _, .Subscript .., h
  | .name _, .Starred .., h | .name _, .List .., h | .name _, .Tuple .., h | .name _, .Slice .., h => by simp [ckT] at h
  | .tup2 _ _, .BoolOp .., h | .tup2 _ _, .NamedExpr .., h | .tup2 _ _, .BinOp .., h | .tup2 _ _, .UnaryOp .., h | .tup2 _ _, .Lambda .., h | .tup2 _ _, .IfExp .., h | .tup2 _ _, .Dict .., h | .tup2 _ _, .Set .., h | .tup2 _ _, .ListComp .., h | .tup2 _ _, .SetComp .., h | .tup2 _ _, .DictComp .., h
  | .tup2 _ _, .GeneratorExp .., h | .tup2 _ _, .Await .., h | .tup2 _ _, .Yield .., h | .tup2 _ _, .YieldFrom .., h | .tup2 _ _, .Compare .., h | .tup2 _ _, .Call .., h | .tup2 _ _, .FormattedValue .., h | .tup2 _ _, .JoinedStr .., h | .tup2 _ _, .Constant .., h | .tup2 _ _, .Attribute .., h | .tup2 _ _, .Subscript .., h
  | .tup2 _ _, .Starred .., h | .tup2 _ _, .List .., h | .tup2 _ _, .Name .., h | .tup2 _ _, .Slice .., h => by simp [ckT] at h
  | .tup2 _ _, .Tuple [] _ _, h | .tup2 _ _, .Tuple [_] _ _, h | .tup2 _ _, .Tuple (_ :: _ :: _ :: _) _ _, h => by simp [ckT] at h
  | .tup3 _ _ _, .BoolOp .., h | .tup3 _ _ _, .NamedExpr .., h | .tup3 _ _ _, .BinOp .., h | .tup3 _ _ _, .UnaryOp .., h | .tup3 _ _ _, .Lambda .., h | .tup3 _ _ _, .IfExp .., h | .tup3 _ _ _, .Dict .., h | .tup3 _ _ _, .Set .., h | .tup3 _ _ _, .ListComp .., h | .tup3 _ _ _, .SetComp .., h | .tup3 _ _ _, .DictComp .., h
  | .tup3 _ _ _, .GeneratorExp .., h | .tup3 _ _ _, .Await .., h | .tup3 _ _ _, .Yield .., h | .tup3 _ _ _, .YieldFrom .., h | .tup3 _ _ _, .Compare .., h | .tup3 _ _ _, .Call .., h | .tup3 _ _ _, .FormattedValue .., h | .tup3 _ _ _, .JoinedStr .., h | .tup3 _ _ _, .Constant .., h | .tup3 _ _ _, .Attribute .., h | .tup3 _ _ _, .Subscript .., h
  | .tup3 _ _ _, .Starred .., h | .tup3 _ _ _, .List .., h | .tup3 _ _ _, .Name .., h | .tup3 _ _ _, .Slice .., h => by simp [ckT] at h
  | .tup3 _ _ _, .Tuple [] _ _, h | .tup3 _ _ _, .Tuple [_] _ _, h | .tup3 _ _ _, .Tuple [_, _] _ _, h | .tup3 _ _ _, .Tuple (_ :: _ :: _ :: _ :: _) _ _, h => by simp [ckT] at h
/-- the iterator J walks the data ds, from (H1, mu1) on -/
def Walk (C : Cn) (H1 : Hp) (mu1 : List Addr) (J : L2.It) (ds : List D) : Prop := ∀ i H mu, ExtW mu1 mu H1 H → (ds.length ≤ i → i ≤ ds.length → J.stop i H) ∧ ∀ d, ds[i]? = some d → J.go i H ∧ ∀ x H', J.yld i H x H' → (∀ mu', Ext mu' mu' H H') ∧ (∀ mu' st, SRel C H mu' st → SRel C H' mu' st) ∧ Sd C.K H' mu x d
def RW (C : Cn) : Hp → List Addr → L2.It → List D → Prop := fun H mu J ds => Walk C H mu J ds
def rdI (C : Cn) (F : Nat → List D → Sto → Res D) (c : Rt.It) (E : XK) : TI := fun σ H R => ∃ H0 mu0 r st mu, Rel C H0 mu0 σ H r st mu ∧ Post C (RW C) (evi F c r st) H mu R E
theorem sqL_mono {K : PySem.W.Frag} {mu mu1 : List Addr} {H H1 : Hp} {a : Addr} {xs : List V} (e : ExtW mu mu1 H H1) (h : Fz K H a xs) : SqL K H1 a xs := (h.mono e).sq
theorem walk_list {H : Hp} {mu : List Addr} {a : Addr} {xs : List V} {ds : List D} (h : Fz C.K H a xs) (q : SdA C.K H mu xs ds) : Walk C H mu (Itl C.K a) ds := fun i H1 mu1 e => by
  refine ⟨fun hl _ => ⟨xs, sqL_mono e h, by rw [q.length]; exact hl⟩, fun d hd => ?_⟩
  obtain ⟨v, hv, hs⟩ := q.get hd
  refine ⟨⟨xs, v, sqL_mono e h, hv⟩, fun x H' ⟨e1, e2⟩ => ?_⟩
  subst e1
  have := e2 xs (sqL_mono e h)
  rw [hv] at this; cases this
  exact ⟨fun _ => .refl, fun _ _ s => s, Sd.monoW e hs⟩
theorem walk_tup {H : Hp} {mu : List Addr} {a : Addr} {xs : List V} {ds : List D} (h : SqT C.K H a xs) (q : SdA C.K H mu xs ds) : Walk C H mu (Itt C.K a) ds := fun i H1 mu1 e => by
  refine ⟨fun hl _ => ⟨xs, sqT_mono e h, by rw [q.length]; exact hl⟩, fun d hd => ?_⟩
  obtain ⟨v, hv, hs⟩ := q.get hd
  refine ⟨⟨xs, v, sqT_mono e h, hv⟩, fun x H' ⟨e1, e2⟩ => ?_⟩
  subst e1
  have := e2 xs (sqT_mono e h)
  rw [hv] at this; cases this
  exact ⟨fun _ => .refl, fun _ _ s => s, Sd.monoW e hs⟩
theorem rngD_get {lo : Int} {n : Nat} {c : Int} {i : Nat} {d : D} (h : (rngD lo n c)[i]? = some d) : i < n ∧ d = .int (lo + (i : Nat) * c) := by
  unfold rngD at h
  rw [List.getElem?_map] at h
  cases z : (List.range n)[i]? with
  | none => rw [z] at h; cases h
  | some j =>
    rw [z] at h
    cases h
    obtain ⟨h1, h2⟩ := List.getElem?_eq_some_iff.mp z
    rw [List.getElem_range] at h2
    subst h2
    exact ⟨by simpa using h1, rfl⟩
theorem rngD_len {lo : Int} {n : Nat} {c : Int} : (rngD lo n c).length = n := by unfold rngD; simp
theorem walk_rng {H : Hp} {mu : List Addr} {lo : Int} {n : Nat} : Walk C H mu (Itr lo n) (rngD lo n 1) := fun i H1 mu1 e => by
  refine ⟨fun hl _ => by rw [rngD_len] at hl; exact hl, fun d hd => ?_⟩
  obtain ⟨h1, rfl⟩ := rngD_get hd
  refine ⟨h1, fun x H' ⟨e1, e2⟩ => ?_⟩
  subst e1 e2
  refine ⟨fun _ => .refl, fun _ _ s => s, ?_⟩
  rw [Int.mul_one]
  exact .int _
theorem walk_rngC {H : Hp} {mu : List Addr} {lo c : Int} {n : Nat} : Walk C H mu (Itc lo c n) (rngD lo n c) := fun i H1 mu1 e => by
  refine ⟨fun hl _ => by rw [rngD_len] at hl; exact hl, fun d hd => ?_⟩
  obtain ⟨h1, rfl⟩ := rngD_get hd
  refine ⟨h1, fun x H' ⟨e1, e2⟩ => ?_⟩
  subst e1 e2
  exact ⟨fun _ => .refl, fun _ _ s => s, .int _⟩
theorem enumD_get : ∀ {ds : List D} {n i : Nat} {d : D}, (enumD n ds)[i]? = some d → ∃ e, ds[i]? = some e ∧ d = .tup [.int ((n + i : Nat) : Int), e]
  | [], _, _, _, h => by simp [enumD] at h
  | x :: r, n, 0, d, h => by simp [enumD] at h; exact ⟨x, rfl, by rw [← h]; rfl⟩
  | x :: r, n, i + 1, d, h => by
    simp only [enumD, List.getElem?_cons_succ] at h
    obtain ⟨e, h1, h2⟩ := enumD_get h
    exact ⟨e, by simpa using h1, by rw [h2, show n + 1 + i = n + (i + 1) by omega]⟩
theorem enumD_len : ∀ {ds : List D} {n : Nat}, (enumD n ds).length = ds.length
  | [], _ => rfl
  | x :: r, n => by simp [enumD, enumD_len (ds := r)]
theorem zipD_get : ∀ {ds es : List D} {i : Nat} {d : D}, (zipD ds es)[i]? = some d → ∃ x y, ds[i]? = some x ∧ es[i]? = some y ∧ d = .tup [x, y]
  | [], _, _, _, h => by simp [zipD] at h
  | _ :: _, [], _, _, h => by simp [zipD] at h
  | x :: r, y :: t, 0, d, h => by simp [zipD] at h; exact ⟨x, y, rfl, rfl, h.symm⟩
  | x :: r, y :: t, i + 1, d, h => by
    simp only [zipD, List.getElem?_cons_succ] at h
    obtain ⟨a, b, h1, h2, h3⟩ := zipD_get h
    exact ⟨a, b, by simpa using h1, by simpa using h2, h3⟩
theorem zipD_len : ∀ {ds es : List D}, (zipD ds es).length = min ds.length es.length
  | [], _ => by simp [zipD]
  | _ :: _, [] => by simp [zipD]
  | x :: r, y :: t => by simp [zipD, zipD_len (ds := r) (es := t)]
theorem walk_enumL {H : Hp} {mu : List Addr} {a : Addr} {xs : List V} {ds : List D} (h : Fz C.K H a xs) (q : SdA C.K H mu xs ds) : Walk C H mu (Ite C.K a) (enumD 0 ds) := fun i H1 mu1 e => by
  refine ⟨fun hl _ => ⟨xs, sqL_mono e h, by rw [enumD_len] at hl; rw [q.length]; exact hl⟩, fun d hd => ?_⟩
  obtain ⟨d', hd', rfl⟩ := enumD_get hd
  obtain ⟨v, hv, hs⟩ := q.get hd'
  refine ⟨⟨xs, v, sqL_mono e h, hv⟩, fun x H' ⟨T, y, e1, e2, e3, e4⟩ => ?_⟩
  subst e1 e3
  have := e4 xs (sqL_mono e h)
  rw [hv] at this; cases this
  refine ⟨fun _ => Ext.upd e2, fun _ _ s => s.upd e2, .tup (.inl (.inl upd_same)) (.cons ?_ (.cons (Sd.mono (Ext.upd e2) (Sd.monoW e hs)) .nil))⟩
  rw [Nat.zero_add]
  exact .int _
theorem walk_enumT {H : Hp} {mu : List Addr} {a : Addr} {xs : List V} {ds : List D} (h : SqT C.K H a xs) (q : SdA C.K H mu xs ds) : Walk C H mu (IteT C.K a) (enumD 0 ds) := fun i H1 mu1 e => by
  refine ⟨fun hl _ => ⟨xs, sqT_mono e h, by rw [enumD_len] at hl; rw [q.length]; exact hl⟩, fun d hd => ?_⟩
  obtain ⟨d', hd', rfl⟩ := enumD_get hd
  obtain ⟨v, hv, hs⟩ := q.get hd'
  refine ⟨⟨xs, v, sqT_mono e h, hv⟩, fun x H' ⟨T, y, e1, e2, e3, e4⟩ => ?_⟩
  subst e1 e3
  have := e4 xs (sqT_mono e h)
  rw [hv] at this; cases this
  refine ⟨fun _ => Ext.upd e2, fun _ _ s => s.upd e2, .tup (.inl (.inl upd_same)) (.cons ?_ (.cons (Sd.mono (Ext.upd e2) (Sd.monoW e hs)) .nil))⟩
  rw [Nat.zero_add]
  exact .int _
theorem walk_zipL {H : Hp} {mu : List Addr} {a b : Addr} {xs ys : List V} {ds es : List D} (h : Fz C.K H a xs) (q : SdA C.K H mu xs ds) (h' : Fz C.K H b ys) (q' : SdA C.K H mu ys es) : Walk C H mu (Itz C.K a b) (zipD ds es) := fun i H1 mu1 e => by
  refine ⟨fun hl _ => ⟨xs, ys, sqL_mono e h, sqL_mono e h', by rw [zipD_len] at hl; rw [q.length, q'.length]; omega⟩, fun d hd => ?_⟩
  obtain ⟨d1, d2, hd1, hd2, rfl⟩ := zipD_get hd
  obtain ⟨v, hv, hs⟩ := q.get hd1
  obtain ⟨w, hw, hs'⟩ := q'.get hd2
  refine ⟨⟨xs, ys, v, w, sqL_mono e h, sqL_mono e h', hv, hw⟩, fun x H' ⟨T, y, z, e1, e2, e3, e4, e5⟩ => ?_⟩
  subst e1 e3
  have := e4 xs (sqL_mono e h)
  rw [hv] at this; cases this
  have := e5 ys (sqL_mono e h')
  rw [hw] at this; cases this
  exact ⟨fun _ => Ext.upd e2, fun _ _ s => s.upd e2, .tup (.inl (.inl upd_same)) (.cons (Sd.mono (Ext.upd e2) (Sd.monoW e hs)) (.cons (Sd.mono (Ext.upd e2) (Sd.monoW e hs')) .nil))⟩
theorem walk_zipT {H : Hp} {mu : List Addr} {a b : Addr} {xs ys : List V} {ds es : List D} (h : SqT C.K H a xs) (q : SdA C.K H mu xs ds) (h' : SqT C.K H b ys) (q' : SdA C.K H mu ys es) : Walk C H mu (RZ.ItzT C.K a b) (zipD ds es) := fun i H1 mu1 e => by
  refine ⟨fun hl _ => ⟨xs, ys, sqT_mono e h, sqT_mono e h', by rw [zipD_len] at hl; rw [q.length, q'.length]; omega⟩, fun d hd => ?_⟩
  obtain ⟨d1, d2, hd1, hd2, rfl⟩ := zipD_get hd
  obtain ⟨v, hv, hs⟩ := q.get hd1
  obtain ⟨w, hw, hs'⟩ := q'.get hd2
  refine ⟨⟨xs, ys, v, w, sqT_mono e h, sqT_mono e h', hv, hw⟩, fun x H' ⟨T, y, z, e1, e2, e3, e4, e5⟩ => ?_⟩
  subst e1 e3
  have := e4 xs (sqT_mono e h)
  rw [hv] at this; cases this
  have := e5 ys (sqT_mono e h')
  rw [hw] at this; cases this
  exact ⟨fun _ => Ext.upd e2, fun _ _ s => s.upd e2, .tup (.inl (.inl upd_same)) (.cons (Sd.mono (Ext.upd e2) (Sd.monoW e hs)) (.cons (Sd.mono (Ext.upd e2) (Sd.monoW e hs')) .nil))⟩
/-- a list or a tuple -/
theorem walk_zipM {H : Hp} {mu : List Addr} {a b : Addr} {xs ys : List V} {ds es : List D} (h : SqT C.K H a xs) (q : SdA C.K H mu xs ds) (h' : Fz C.K H b ys) (q' : SdA C.K H mu ys es) : Walk C H mu (RZ.ItzM C.K a b) (zipD ds es) := fun i H1 mu1 e => by
  refine ⟨fun hl hl2 => ⟨xs, ys, sqT_mono e h, sqL_mono e h', by rw [zipD_len] at hl hl2; rw [q.length, q'.length]; omega⟩, fun d hd => ?_⟩
  obtain ⟨d1, d2, hd1, hd2, rfl⟩ := zipD_get hd
  obtain ⟨v, hv, hs⟩ := q.get hd1
  obtain ⟨w, hw, hs'⟩ := q'.get hd2
  refine ⟨⟨xs, ys, v, w, sqT_mono e h, sqL_mono e h', hv, hw⟩, fun x H' ⟨T, y, z, e1, e2, e3, e4, e5⟩ => ?_⟩
  subst e1 e3
  have := e4 xs (sqT_mono e h)
  rw [hv] at this; cases this
  have := e5 ys (sqL_mono e h')
  rw [hw] at this; cases this
  exact ⟨fun _ => Ext.upd e2, fun _ _ s => s.upd e2, .tup (.inl (.inl upd_same)) (.cons (Sd.mono (Ext.upd e2) (Sd.monoW e hs)) (.cons (Sd.mono (Ext.upd e2) (Sd.monoW e hs')) .nil))⟩
/-- a list or a tuple -/
theorem piSeq {tg l : Expr} {tl : TE} (hl : PE X l tl) : PI X tg l (fun σ H R => tl σ H fun x H1 => ∃ a xs, x = .ref a ∧ ((SqL X.K H1 a xs ∧ R (Itl X.K a) H1) ∨ (SqT X.K H1 a xs ∧ R (Itt X.K a) H1))) := by
  refine ⟨fun pins s σ H R I h => ?_⟩
  refine thn (hl.run pins s σ H _ I h) fun v s1 ⟨x, H1, I1, r1, q1⟩ => ?_
  obtain ⟨a, xs, e, q⟩ := q1
  subst e
  cases r1
  have fin : ∀ b, b ∈ [s1.heap.objs.size] → FpOk X pins H1 b := fun b hb => by
    have e : b = s1.heap.objs.size := by simpa using hb
    subst e
    exact I1.fpOk (Nat.le_refl _) (I1.hok.fresh (Nat.le_refl _))
  rcases q with ⟨hq, q⟩ | ⟨hq, q⟩
  · obtain ⟨its, rv, p, hz⟩ := I1.list hq
    refine wpAny_pyIter_list p.isList ?_
    exact ⟨s1.heap.objs.size, [s1.heap.objs.size], _, _, H1, rfl, I1.kept (t' := s1.toks) fun b o e => Heap.get?_push_of_some _ e, turn_list a _, ⟨_, Heap.get?_push_size _ rfl, rfl, rfl⟩, fin, q⟩
  · obtain ⟨its, rv, p, hz⟩ := I1.tuple hq
    refine wpAny_pyIter_tuple (show s1.heap.IsTuple a its.toArray from p) ?_
    exact ⟨s1.heap.objs.size, [s1.heap.objs.size], _, _, H1, rfl, I1.kept (t' := s1.toks) fun b o e => Heap.get?_push_of_some _ e, turn_tuple a _, ⟨_, Heap.get?_push_size _ rfl, rfl, rfl⟩, fin, q⟩
theorem iVal (g : Good C G F k X E) {tg l : Expr} {c : Rt.E} (hl : PE X l (rdE C F c E)) : PI X tg l (rdI C F (.val c) E) := by
  refine piImp (piSeq hl) fun σ H R ⟨H0, mu0, r, st, mu, R', h⟩ => ?_
  unfold evi at h
  refine ⟨H0, mu0, r, st, mu, R', Post.bind (Rl := RSd C) h fun x st1 v H1 mu1 e1 s1 q1 h1 => ?_⟩
  rw [g.hK]
  cases x with
  | tup ds =>
    obtain ⟨a, xs, rfl, hs, hd⟩ := Sd.cTup q1
    exact ⟨a, xs, rfl, .inr ⟨hs, Post.here h1 s1 (walk_tup hs hd)⟩⟩
  | lst ds =>
    obtain ⟨a, xs, rfl, hs, hd⟩ := Sd.cLst q1
    exact ⟨a, xs, rfl, .inl ⟨hs.sq, Post.here h1 s1 (walk_list hs hd)⟩⟩
  | _ => exact h1.elim
theorem small_ok {i : Int} (h : small i = true) : -(2 ^ 62) ≤ i ∧ i < 2 ^ 62 := by
  unfold small at h
  simp only [Bool.and_eq_true, decide_eq_true_eq] at h
  omega
theorem iRng1' (g : Good C G F k X E) {tg a : Expr} {c : Rt.E} {p pos : Pos} (hg : Gl X "range") (ha : PE X a (rdE C F c E)) (hp : plainE a = true) : PI X tg (.Call (.Name "range" p) [a] [] pos) (rdI C F (.rng1 c) E) := by
  refine piImp (pi_range1 hg (g.blt _ (by decide +kernel)) (pa_cons ha pa_nil (plain_star hp)) (by rw [plain_star hp]; rfl)) fun σ H R ⟨H0, mu0, r, st, mu, R', h⟩ => ?_
  unfold evi at h
  refine ⟨H0, mu0, r, st, mu, R', Post.bind (Rl := RSd C) h fun x st1 v H1 mu1 e1 s1 q1 h1 => ?_⟩
  split at h1
  · split at h1
    · next z =>
      cases Sd.cInt q1
      obtain ⟨b1, b2⟩ := small_ok z
      exact ⟨_, rfl, b1, b2, Post.here h1 s1 walk_rng⟩
    · exact h1.elim
  · exact h1.elim
theorem iRng2' (g : Good C G F k X E) {tg a b : Expr} {c d : Rt.E} {p pos : Pos} (hg : Gl X "range") (ha : PE X a (rdE C F c E)) (hp : plainE a = true) (hb : PE X b (rdE C F d E)) (hp2 : plainE b = true) : PI X tg (.Call (.Name "range" p) [a, b] [] pos) (rdI C F (.rng2 c d) E) := by
  refine piImp (pi_range2 hg (g.blt _ (by decide +kernel)) (pa_cons ha (pa_cons hb pa_nil (plain_star hp2)) (plain_star hp)) (by rw [plain_star hp, plain_star hp2]; rfl) (by rw [plain_star hp2]; rfl)) fun σ H R ⟨H0, mu0, r, st, mu, R', h⟩ => ?_
  unfold evi at h
  refine ⟨H0, mu0, r, st, mu, R', Post.bind (Rl := RSd C) h fun x st1 v H1 mu1 e1 s1 q1 h1 => ?_⟩
  refine ⟨H0, mu0, r, st1, mu1, R'.step e1 s1, Post.bind (Rl := RSd C) h1 fun y st2 w H2 mu2 e2 s2 q2 h2 => ?_⟩
  split at h2
  · split at h2
    · next z =>
      rw [Bool.and_eq_true] at z
      cases Sd.cInt q1
      cases Sd.cInt q2
      obtain ⟨b1, b2⟩ := small_ok z.1
      obtain ⟨b3, b4⟩ := small_ok z.2
      exact ⟨_, _, rfl, ⟨b1, b2, b3, b4⟩, Post.here h2 s2 walk_rng⟩
    · exact h2.elim
  · exact h2.elim
theorem iRng3' (g : Good C G F k X E) {tg a b c : Expr} {ca cb cc : Rt.E} {p pos : Pos} (hg : Gl X "range") (ha : PE X a (rdE C F ca E)) (hp : plainE a = true) (hb : PE X b (rdE C F cb E)) (hp2 : plainE b = true) (hc : PE X c (rdE C F cc E)) (hp3 : plainE c = true) :
    PI X tg (.Call (.Name "range" p) [a, b, c] [] pos) (rdI C F (.rng3 ca cb cc) E) := by
  refine piImp (pi_range3 hg (g.blt _ (by decide +kernel)) (pa_cons ha (pa_cons hb (pa_cons hc pa_nil (plain_star hp3)) (plain_star hp2)) (plain_star hp)) (plain_star hp) (plain_any (by simp [hp2, hp3]))) fun σ H R ⟨H0, mu0, r, st, mu, R', h⟩ => ?_
  unfold evi at h
  refine ⟨H0, mu0, r, st, mu, R', Post.bind (Rl := RSd C) h fun x st1 v H1 mu1 e1 s1 q1 h1 => ?_⟩
  refine ⟨H0, mu0, r, st1, mu1, R'.step e1 s1, Post.bind (Rl := RSd C) h1 fun y st2 w H2 mu2 e2 s2 q2 h2 => ?_⟩
  refine ⟨H0, mu0, r, st2, mu2, (R'.step e1 s1).step e2 s2, Post.bind (Rl := RSd C) h2 fun y st3 w H3 mu3 e3 s3 q3 h3 => ?_⟩
  split at h3
  · split at h3
    · next z =>
      rw [Bool.and_eq_true] at z
      cases Sd.cInt q1
      cases Sd.cInt q2
      cases Sd.cInt q3
      obtain ⟨b1, b2⟩ := small_ok z.1
      obtain ⟨b3, b4⟩ := small_ok z.2
      exact ⟨_, _, _, _, rfl, RgC.neg b1 b2 b3 b4, Post.here h3 s3 walk_rngC⟩
    · exact h3.elim
  · exact h3.elim
theorem iEnum' (g : Good C G F k X E) {elts : List Expr} {kk : Nat} {tpos : Pos} {a : Expr} {c : Rt.E} {p pos : Pos} (hg : Gl X "enumerate") (ha : PE X a (rdE C F c E)) (hp : plainE a = true) : PI X (.Tuple elts kk tpos) (.Call (.Name "enumerate" p) [a] [] pos) (rdI C F (.enum c) E) := by
  refine piImp (pi_enumA hg (g.blt _ (by decide +kernel)) (pa_cons ha pa_nil (plain_star hp)) (by rw [plain_star hp]; rfl)) fun σ H R ⟨H0, mu0, r, st, mu, R', h⟩ => ?_
  unfold evi at h
  refine ⟨H0, mu0, r, st, mu, R', Post.bind (Rl := RSd C) h fun x st1 v H1 mu1 e1 s1 q1 h1 => ?_⟩
  rw [g.hK]
  cases x with
  | tup ds =>
    obtain ⟨a, xs, rfl, hs, hd⟩ := Sd.cTup q1
    exact ⟨a, xs, rfl, .inr ⟨hs, Post.here h1 s1 (walk_enumT hs hd)⟩⟩
  | lst ds =>
    obtain ⟨a, xs, rfl, hs, hd⟩ := Sd.cLst q1
    exact ⟨a, xs, rfl, .inl ⟨hs.sq, Post.here h1 s1 (walk_enumL hs hd)⟩⟩
  | _ => exact h1.elim
theorem iZip' (g : Good C G F k X E) {elts : List Expr} {kk : Nat} {tpos : Pos} {a b : Expr} {c d : Rt.E} {p pos : Pos} (hg : Gl X "zip") (ha : PE X a (rdE C F c E)) (hp : plainE a = true) (hb : PE X b (rdE C F d E)) (hp2 : plainE b = true) :
    PI X (.Tuple elts kk tpos) (.Call (.Name "zip" p) [a, b] [] pos) (rdI C F (.zip c d) E) := by
  refine piImp (RZ.pi_zipB hg (g.blt _ (by decide +kernel)) (pa_cons ha (pa_cons hb pa_nil (plain_star hp2)) (plain_star hp)) (plain_star hp) (plain_any (by simp [hp2]))) fun σ H R ⟨H0, mu0, r, st, mu, R', h⟩ => ?_
  unfold evi at h
  refine ⟨H0, mu0, r, st, mu, R', Post.bind (Rl := RSd C) h fun x st1 v H1 mu1 e1 s1 q1 h1 => ?_⟩
  refine ⟨H0, mu0, r, st1, mu1, R'.step e1 s1, Post.bind (Rl := RSd C) h1 fun y st2 w H2 mu2 e2 s2 q2 h2 => ?_⟩
  rw [g.hK]
  have q1 := Sd.mono e2 q1
  split at h2
  · obtain ⟨a, xs, rfl, hs, hd⟩ := Sd.cTup q1
    obtain ⟨b, ys, rfl, hs', hd'⟩ := Sd.cTup q2
    exact ⟨a, b, xs, ys, rfl, .inr (.inl ⟨hs, hs', Post.here h2 s2 (walk_zipT hs hd hs' hd')⟩)⟩
  · obtain ⟨a, xs, rfl, hs, hd⟩ := Sd.cLst q1
    obtain ⟨b, ys, rfl, hs', hd'⟩ := Sd.cLst q2
    exact ⟨a, b, xs, ys, rfl, .inl ⟨hs.sq, hs'.sq, Post.here h2 s2 (walk_zipL hs hd hs' hd')⟩⟩
  · obtain ⟨a, xs, rfl, hs, hd⟩ := Sd.cTup q1
    obtain ⟨b, ys, rfl, hs', hd'⟩ := Sd.cLst q2
    exact ⟨a, b, xs, ys, rfl, .inr (.inr ⟨hs, hs'.sq, Post.here h2 s2 (walk_zipM hs hd hs' hd')⟩)⟩
  · exact h2.elim
end
end Rt
namespace Rt
open PySem PySem.Spec PyProof.Rows L2
theorem wipe_wipe {σ : L2.St} {vs : List Nat} : L2.wipe (L2.wipe σ vs) vs = L2.wipe σ vs := by
  apply List.ext_getElem?
  intro i
  by_cases hi : i ∈ vs
  · by_cases hl : i < σ.length
    · rw [wipe_get hi hl, wipe_get hi (by rw [wipe_length]; exact hl)]
    · rw [List.getElem?_eq_none (by rw [wipe_length, wipe_length]; omega), List.getElem?_eq_none (by rw [wipe_length]; omega)]
  · rw [wipe_out hi]
theorem mapR_noexc {f : D → Sto → Res (Option D)} : ∀ {ds : List D} {st : Sto} {c : Nat} {s : Sto}, mapR f ds st ≠ .exc c s
  | [], _, _, _, h => by simp [mapR] at h
  | d :: ds, st, c, s, h => by
    unfold mapR at h
    cases z : f d st with
    | ok o s1 =>
      rw [z] at h
      simp only [Res.bindN_ok] at h
      cases z2 : mapR f ds s1 with
      | ok ys s2 => rw [z2] at h; cases h
      | exc c' s2 => rw [z2] at h; cases h
      | bad => rw [z2] at h; cases h
    | exc c' s1 => rw [z] at h; cases h
    | bad => rw [z] at h; cases h
/-- one turn of mapR -/
theorem mapR_cons {f : D → Sto → Res (Option D)} {d : D} {ds ys : List D} {st sE : Sto} (h : mapR f (d :: ds) st = .ok ys sE) : ∃ o s1 ys', f d st = .ok o s1 ∧ mapR f ds s1 = .ok ys' sE ∧ ys = o.toList ++ ys' := by
  unfold mapR at h
  cases z : f d st with
  | ok o s1 =>
    rw [z] at h
    simp only [Res.bindN_ok] at h
    cases z2 : mapR f ds s1 with
    | ok ys' s2 =>
      rw [z2] at h
      simp only [Res.bindN_ok] at h
      cases h
      exact ⟨o, s1, ys', rfl, z2, rfl⟩
    | exc c' s2 => rw [z2] at h; cases h
    | bad => rw [z2] at h; cases h
  | exc c' s1 => rw [z] at h; cases h
  | bad => rw [z] at h; cases h
theorem mapR2_noexc {f : D → Sto → Res (List D)} : ∀ {ds : List D} {st : Sto} {c : Nat} {s : Sto}, mapR2 f ds st ≠ .exc c s
  | [], _, _, _, h => by simp [mapR2] at h
  | d :: ds, st, c, s, h => by
    unfold mapR2 at h
    cases z : f d st with
    | ok o s1 =>
      rw [z] at h
      simp only [Res.bindN_ok] at h
      cases z2 : mapR2 f ds s1 with
      | ok ys s2 => rw [z2] at h; cases h
      | exc c' s2 => rw [z2] at h; cases h
      | bad => rw [z2] at h; cases h
    | exc c' s1 => rw [z] at h; cases h
    | bad => rw [z] at h; cases h
theorem mapR2_cons {f : D → Sto → Res (List D)} {d : D} {ds ys : List D} {st sE : Sto} (h : mapR2 f (d :: ds) st = .ok ys sE) : ∃ o s1 ys', f d st = .ok o s1 ∧ mapR2 f ds s1 = .ok ys' sE ∧ ys = o ++ ys' := by
  unfold mapR2 at h
  cases z : f d st with
  | ok o s1 =>
    rw [z] at h
    simp only [Res.bindN_ok] at h
    cases z2 : mapR2 f ds s1 with
    | ok ys' s2 =>
      rw [z2] at h
      simp only [Res.bindN_ok] at h
      cases h
      exact ⟨o, s1, ys', rfl, z2, rfl⟩
    | exc c' s2 => rw [z2] at h; cases h
    | bad => rw [z2] at h; cases h
  | exc c' s1 => rw [z] at h; cases h
  | bad => rw [z] at h; cases h
theorem bind_ok_inv {a b : Type} {x : Res a} {f : a → Sto → Res b} {y : b} {s : Sto} (h : x.bind f = .ok y s) : ∃ z s1, x = .ok z s1 ∧ f z s1 = .ok y s := by
  cases x with
  | ok z s1 => exact ⟨z, s1, rfl, h⟩
  | exc c s1 => cases h
  | bad => cases h
theorem drop_get {a : Type} {ds : List a} {i : Nat} (h : i < ds.length) : ds.drop i = ds[i] :: ds.drop (i + 1) := List.drop_eq_getElem_cons h
section
variable {C : Cn} {G : Gam} {F : Nat → List D → Sto → Res D} {k : Nat} {X : Cx} {E : XK}
/-- the tests of a comprehension -/
def rdC (C : Cn) (F : Nat → List D → Sto → Res D) (c : Oe) (E : XK) : TT := fun σ H Q => match c with
  | .none => Q true H
  | .some c => rdT C F c E σ H Q
/-- a result that is known, as what is asked of it -/
theorem post_ok {a b : Type} {Rl : Hp → List Addr → b → a → Prop} {r : Res a} {d : a} {st : Sto} {H : Hp} {mu : List Addr} {Q : b → Hp → Prop} (e : r = .ok d st) (h : ∀ v H' mu', Ext mu mu' H H' → SRel C H' mu' st → Rl H' mu' v d → Q v H') : Post C Rl r H mu Q E := by
  rw [e]
  exact h
/-- the list so far: what a comprehension keeps -/
structure Acc (C : Cn) (mu1 : List Addr) (H1 : Hp) (Dl : Addr) (H : Hp) (mu : List Addr) (st : Sto) (acc : List V) (accD : List D) : Prop where
  at_ : H Dl = some (.lst acc)
  out : Dl ∉ mu
  ext : Ext mu1 mu H1 H
  rel : SRel C H mu st
  sd : SdA C.K H mu acc accD
theorem Acc.step {mu1 mu mu' : List Addr} {H1 H H' : Hp} {Dl : Addr} {st st' : Sto} {acc : List V} {accD : List D} (a : Acc C mu1 H1 Dl H mu st acc accD) (e : Ext mu mu' H H') (s : SRel C H' mu' st') : Acc C mu1 H1 Dl H' mu' st' acc accD :=
  ⟨e.keepL _ _ a.at_ a.out, e.notin a.at_ a.out, a.ext.trans e, s, a.sd.mono e⟩
theorem Acc.push {mu1 mu : List Addr} {H1 H : Hp} {Dl : Addr} {st : Sto} {acc : List V} {accD : List D} {y : V} {d : D} (a : Acc C mu1 H1 Dl H mu st acc accD) (hn : H1 Dl = none) (q : Sd C.K H mu y d) : Acc C mu1 H1 Dl (upd H Dl (.lst (acc ++ [y]))) mu st (acc ++ [y]) (accD ++ [d]) := by
  have w := ExtW.updL (mu := mu) (o := .lst (acc ++ [y])) a.at_
  refine ⟨upd_same, a.out, ?_, a.rel.updL a.at_ a.out, (a.sd.monoW w).append (.cons (Sd.monoW w q) .nil)⟩
  refine ⟨a.ext.pre, fun b o h n m => ?_, fun b xs h n => ?_, fun b ps h => ?_, a.ext.new⟩
  · rw [upd_ne (ne_of_none h hn)]; exact a.ext.keepN b o h n m
  · rw [upd_ne (ne_of_none h hn)]; exact a.ext.keepL b xs h n
  · rw [upd_ne (ne_of_none h hn)]; exact a.ext.keepT b ps h
theorem Acc.frz {mu1 mu : List Addr} {H1 H : Hp} {Dl : Addr} {st : Sto} {acc : List V} {accD : List D} (a : Acc C mu1 H1 Dl H mu st acc accD) (hn : H1 Dl = none) (o : Obj) :
    Ext mu1 mu H1 (upd H Dl (.frz o (.lst acc))) ∧ SRel C (upd H Dl (.frz o (.lst acc))) mu st ∧ Sd C.K (upd H Dl (.frz o (.lst acc))) mu (.ref Dl) (.lst accD) := by
  have w := ExtW.updL (mu := mu) (o := .frz o (.lst acc)) a.at_
  refine ⟨?_, a.rel.updL a.at_ a.out, .lst (.inl ⟨o, upd_same⟩) (a.sd.monoW w)⟩
  refine ⟨a.ext.pre, fun b o h n m => ?_, fun b xs h n => ?_, fun b ps h => ?_, a.ext.new⟩
  · rw [upd_ne (ne_of_none h hn)]; exact a.ext.keepN b o h n m
  · rw [upd_ne (ne_of_none h hn)]; exact a.ext.keepL b xs h n
  · rw [upd_ne (ne_of_none h hn)]; exact a.ext.keepT b ps h
theorem Acc.start {mu1 : List Addr} {H1 : Hp} {Dl : Addr} {st : Sto} (s : SRel C H1 mu1 st) (hn : H1 Dl = none) : Acc C mu1 H1 Dl (upd H1 Dl (.lst [])) mu1 st [] [] :=
  ⟨upd_same, notin_new s hn, Ext.upd hn, s.upd hn, .nil⟩
/-- the reading of a comprehension with one for -/
theorem compA {tg : Tg} {it : Rt.It} {cond : Oe} {elt : Rt.E} {own : List Nat} (hsl : ∀ i, i ∈ tg.slots → i ∈ own) {σ : L2.St} {H H0 : Hp} {mu0 mu : List Addr} {r : Env} {st : Sto} {Q2 : VK} (R : Rel C H0 mu0 σ H r st mu)
    (hb : ev F (.comp tg it cond elt own) r st ≠ .bad) (hx : ∀ c s, ev F (.comp tg it cond elt own) r st = .exc c s → ∀ H' mu', Ext mu mu' H H' → SRel C H' mu' s → E (.ref (C.ca c)) none H')
    (hQ : ∀ st1 H1 mu1 Dl H' mu' st' acc accD, Ext mu mu1 H H1 → SRel C H1 mu1 st1 → H1 Dl = none → Acc C mu1 H1 Dl H' mu' st' acc accD → ev F (.comp tg it cond elt own) r st = .ok (.lst accD) st' → Q2 (.ref Dl) H') :
    tLc (rdI C F it E) (rdG C tg) (rdC C F cond E0) (rdE C F elt E0) own σ H Q2 := by
  have hev : ev F (.comp tg it cond elt own) r st = (evi F it r st).bind fun ds s => (mapR (fun (d : D) (s : Sto) => match bindT tg d (wipeE r own) with
      | none => Res.bad
      | some r' => (evo F cond r' s).bind fun k s => match k with
        | none => (ev F elt r' s).bind fun y s => Res.ok (some y) s
        | some (.bl true) => (ev F elt r' s).bind fun y s => Res.ok (some y) s
        | some (.bl false) => Res.ok none s
        | _ => Res.bad) ds s).bind fun ys s => if ys.length ≤ sizeN then .ok (.lst ys) s else .bad := by rw [ev] <;> rfl
  refine ⟨H0, mu0, r, st, mu, R, ?_⟩
  generalize hf : (fun (d : D) (s : Sto) => match bindT tg d (wipeE r own) with
      | none => Res.bad
      | some r' => (evo F cond r' s).bind fun k s => match k with
        | none => (ev F elt r' s).bind fun y s => Res.ok (some y) s
        | some (.bl true) => (ev F elt r' s).bind fun y s => Res.ok (some y) s
        | some (.bl false) => Res.ok none s
        | _ => Res.bad) = f at hev
  cases hi0 : evi F it r st with
  | bad => exact absurd (by rw [hev, hi0]; rfl) hb
  | exc c s => exact hx c s (by rw [hev, hi0]; rfl)
  | ok ds st1 =>
  rw [hi0] at hev
  simp only [Res.bind_ok] at hev
  intro J H1 mu1 e1 s1 wk Dl hD
  cases hm : mapR f ds st1 with
  | exc c s => exact absurd hm mapR_noexc
  | bad => exact absurd (by rw [hev, hm]; rfl) hb
  | ok ys sE =>
    rw [hm] at hev
    simp only [Res.bind_ok] at hev
    split at hev
    case isFalse => exact absurd hev hb
    case isTrue hsz =>
      have R1 := R.step e1 s1
      refine ⟨fun i m H' => m = ds.length - i ∧ i ≤ ds.length ∧ ∃ st' mu' acc accD ys', Acc C mu1 H1 Dl H' mu' st' acc accD ∧ mapR f (ds.drop i) st' = .ok ys' sE ∧ accD ++ ys' = ys,
        ⟨ds.length, by simp, Nat.zero_le _, st1, mu1, [], [], ys, Acc.start s1 hD, by simpa using hm, rfl⟩, ?_⟩
      rintro i m H' ⟨rfl, hi, st', mu', acc, accD, ys', A, hm', hy⟩
      by_cases hlt : i < ds.length
      · right
        have hd : ds[i]? = some ds[i] := List.getElem?_eq_getElem hlt
        obtain ⟨go, yl⟩ := (wk i H' mu' A.ext.w).2 _ hd
        rw [drop_get hlt] at hm'
        obtain ⟨o, s2, ys2, hfo, hm2, hys⟩ := mapR_cons hm'
        refine ⟨go, fun H'' => ∃ st' mu' acc accD ys', Acc C mu1 H1 Dl H'' mu' st' acc accD ∧ mapR f (ds.drop (i + 1)) st' = .ok ys' sE ∧ accD ++ ys' = ys, fun H'' z => ⟨ds.length - (i + 1), by omega, rfl, hlt, z⟩, fun x H2 hyl => ?_⟩
        obtain ⟨ex, sx, sdx⟩ := yl x H2 hyl
        have A2 := A.step (ex mu') (sx mu' st' A.rel)
        rw [← hf] at hfo
        dsimp only at hfo
        split at hfo
        · cases hfo
        · next r' hb =>
          have Rw : Rel C H0 mu0 (L2.wipe σ own) H2 (wipeE r own) st' mu' := (R1.step A2.ext A2.rel).wipe own
          refine ⟨H0, mu0, wipeE r own, st', mu', ds[i], r', Rw, sdx, hb, fun σ2 R2 off => ⟨?_, ?_⟩⟩
          · rw [off.wipe hsl, wipe_wipe]
          · -- the element
            have fin : ∀ (H3 : Hp) (mu3 : List Addr) (st3 : Sto) (y : D), Acc C mu1 H1 Dl H3 mu3 st3 acc accD → Rel C H0 mu0 σ2 H3 r' st3 mu3 → ev F elt r' st3 = .ok y s2 → o = some y →
                rdE C F elt E0 σ2 H3 fun y H4 => ∃ acc, H4 Dl = some (.lst acc) ∧ acc.length < sizeLine ∧ ∃ st' mu' acc' accD ys', Acc C mu1 H1 Dl (upd H4 Dl (.lst (acc ++ [y]))) mu' st' acc' accD ∧ mapR f (ds.drop (i + 1)) st' = .ok ys' sE ∧ accD ++ ys' = ys := by
              intro H3 mu3 st3 y A3 R3 he ho
              refine ⟨H0, mu0, r', st3, mu3, R3, post_ok he fun v H4 mu4 e4 s4 q4 => ?_⟩
              have A4 := A3.step e4 s4
              subst ho
              refine ⟨acc, A4.at_, ?_, s2, mu4, acc ++ [v], accD ++ [y], ys2, A4.push hD q4, hm2, ?_⟩
              · have l1 := A4.sd.length
                have l2 : accD.length + 1 ≤ ys.length := by
                  rw [← hy, hys, List.length_append, List.length_append]
                  simp
                have l3 := sizeN_le
                omega
              · rw [← hy, hys]; simp
            have skip : ∀ (H3 : Hp) (mu3 : List Addr), Acc C mu1 H1 Dl H3 mu3 s2 acc accD → o = none → ∃ st' mu' acc accD ys', Acc C mu1 H1 Dl H3 mu' st' acc accD ∧ mapR f (ds.drop (i + 1)) st' = .ok ys' sE ∧ accD ++ ys' = ys := by
              intro H3 mu3 A3 ho
              subst ho
              exact ⟨s2, mu3, acc, accD, ys2, A3, hm2, by rw [← hy, hys]; rfl⟩
            cases cond with
            | none =>
              unfold evo at hfo
              simp only [Res.bind_ok] at hfo
              obtain ⟨y, s3, he, hk⟩ := bind_ok_inv hfo
              cases hk
              exact fin H2 mu' st' y A2 R2 he rfl
            | some c =>
              unfold evo at hfo
              obtain ⟨kd, s3, he, hk⟩ := bind_ok_inv hfo
              obtain ⟨kd', s3', he', hk'⟩ := bind_ok_inv he
              cases hk'
              refine ⟨H0, mu0, r', st', mu', R2, ?_⟩
              rw [he']
              cases kd' with
              | bl b =>
                intro v H3 mu3 e3 s3' q3
                cases q3
                cases b with
                | true =>
                  rw [if_pos rfl]
                  obtain ⟨y, s4, he4, hk4⟩ := bind_ok_inv hk
                  cases hk4
                  exact fin H3 mu3 s3 y (A2.step e3 s3') (R2.step e3 s3') he4 rfl
                | false =>
                  rw [if_neg Bool.false_ne_true]
                  cases hk
                  exact skip H3 mu3 (A2.step e3 s3') rfl
              | _ => cases hk
      · left
        have hie : i = ds.length := by omega
        rw [hie, List.drop_length] at hm'
        unfold mapR at hm'
        cases hm'
        rw [List.append_nil] at hy
        subst hy
        exact ⟨(wk i H' mu' A.ext.w).1 (by omega) (by omega), hQ st1 H1 mu1 Dl H' mu' _ acc _ e1 s1 hD A hev⟩
theorem compQ {tg : Tg} {it : Rt.It} {cond : Oe} {elt : Rt.E} {own : List Nat} (hsl : ∀ i, i ∈ tg.slots → i ∈ own) {σ : L2.St} {H H0 : Hp} {mu0 mu : List Addr} {r : Env} {st : Sto} {Q Q2 : VK} (R : Rel C H0 mu0 σ H r st mu) (h : Post C (RSd C) (ev F (.comp tg it cond elt own) r st) H mu Q E) (hQ : ∀ a xs H1, H1 a = some (.lst xs) → (∀ o, Q (.ref a) (upd H1 a (.frz o (.lst xs)))) → Q2 (.ref a) H1) :
    tLc (rdI C F it E) (rdG C tg) (rdC C F cond E0) (rdE C F elt E0) own σ H Q2 := by
  refine compA hsl R (fun z => by rw [z] at h; exact h) (fun c s z => by rw [z] at h; exact h) fun st1 H1 mu1 Dl H' mu' st' acc accD e1 s1 hD A z => ?_
  rw [z] at h
  refine hQ Dl acc H' A.at_ fun ob => ?_
  obtain ⟨x1, x2, x3⟩ := A.frz hD ob
  exact (h.mono e1) _ _ _ x1 x2 x3
theorem takesN0 {X : Cx} : L2N.Takes X (fun _ _ _ _ => False) := fun _ _ x => by
  obtain ⟨_, _, _, _, _, _, _, _, _, _, _, _, _, _, _, _, z⟩ := x
  exact z.elim
/-- a block's context is good -/
theorem Good.blk (g : Good C G F k X E) (s : Shared) (H : Hp) (scope : Scope) (cenv : PySem.Env) (fp : List Addr) : Good C G F k (X.blk s H scope cenv fp) E0 :=
  ⟨g.hK, g.hN, g.nd, g.dbg, g.calm, g.room, takesN0, PassesOwn.never, g.blt, g.fns, g.exf⟩
theorem sComp (g : Good C G F k X E) {tg : Tg} {it : Rt.It} {cond : Oe} {elt : Rt.E} {own : List Nat} {e tg' iter : Expr} {ifs : List Expr} {scope : Scope} {ownL : List (Str × Nat)} {pos : Pos} (hsl : ∀ i, i ∈ tg.slots → i ∈ own) (ho : ownL.map (·.2) = own)
    (hi : PI X tg' iter (rdI C F it E)) (ok : BlkOk X.N X.env.scope scope ownL) (hp : plainE iter = true)
    (hg : ∀ (s : Shared) (H : Hp) (C' : Addr) (cl : List (Str × Addr)) (fp : List Addr), PG (X.blk s H scope (compEnvC scope cl C' X.env) fp) tg' (rdG C tg))
    (ht : ∀ (s : Shared) (H : Hp) (C' : Addr) (cl : List (Str × Addr)) (fp : List Addr), PTs (X.blk s H scope (compEnvC scope cl C' X.env) fp) ifs (rdC C F cond E0))
    (he : ∀ (s : Shared) (H : Hp) (C' : Addr) (cl : List (Str × Addr)) (fp : List Addr), PE (X.blk s H scope (compEnvC scope cl C' X.env) fp) e (rdE C F elt E0)) :
    PE X (.ListComp e [⟨tg', iter, ifs, 0⟩] scope pos) (rdE C F (.comp tg it cond elt own) E) := by
  refine peImp (peFrz (pe_lc g.calm (by rw [g.hN]; exact g.nd) hi ok hg ht he (plain_set hp))) fun σ H Q ⟨H0, mu0, r, st, mu, R, h⟩ => ?_
  rw [ho]
  exact compQ hsl R h fun a xs H1 ha z => ⟨a, xs, rfl, ha, z⟩
end
end Rt
set_option maxHeartbeats 1000000
namespace Rt
open PySem PySem.Spec PyProof.Rows L2
theorem bindN_inv {a b : Type} {x : Res a} {f : a → Sto → Res b} {y : b} {s : Sto} (h : x.bindN f = .ok y s) : ∃ z s1, x = .ok z s1 ∧ f z s1 = .ok y s := by
  cases x with
  | ok z s1 => exact ⟨z, s1, rfl, h⟩
  | exc c s1 => cases h
  | bad => cases h
theorem set_own {r : Env} {i j : Nat} {d : D} {ds : List D} (h : (r.set i (.val d))[j]? = some (.own ds)) : r[j]? = some (.own ds) ∧ i ≠ j := by
  by_cases e : i = j
  · subst e
    have hi : i < r.length := by
      have := (List.getElem?_eq_some_iff.mp h).1
      simpa using this
    rw [List.getElem?_set_self hi] at h
    cases h
  · rw [List.getElem?_set_ne e] at h
    exact ⟨h, e⟩
theorem bindT_own : ∀ {tg : Tg} {d : D} {r r' : Env}, bindT tg d r = some r' → ∀ {i : Nat} {ds : List D}, r'[i]? = some (.own ds) → r[i]? = some (.own ds) ∧ i ∉ tg.slots
  | .name k, d, r, r', h, i, ds, hi => by
    simp only [bindT] at h
    cases h
    obtain ⟨a, b⟩ := set_own hi
    exact ⟨a, by simp only [Tg.slots, List.mem_singleton]; exact fun z => b z.symm⟩
  | .tup2 a b, .tup [x, y], r, r', h, i, ds, hi => by
    simp only [bindT] at h
    cases h1 : bindT a x r with
    | none => rw [h1] at h; cases h
    | some r1 =>
      rw [h1] at h
      obtain ⟨q1, q2⟩ := bindT_own (tg := b) h hi
      obtain ⟨q3, q4⟩ := bindT_own h1 q1
      exact ⟨q3, by simp only [Tg.slots, List.mem_append, not_or]; exact ⟨q4, q2⟩⟩
  | .tup2 a b, .lst [x, y], r, r', h, i, ds, hi => by
    simp only [bindT] at h
    cases h1 : bindT a x r with
    | none => rw [h1] at h; cases h
    | some r1 =>
      rw [h1] at h
      obtain ⟨q1, q2⟩ := bindT_own (tg := b) h hi
      obtain ⟨q3, q4⟩ := bindT_own h1 q1
      exact ⟨q3, by simp only [Tg.slots, List.mem_append, not_or]; exact ⟨q4, q2⟩⟩
  | .tup3 a b c, .tup [x, y, z], r, r', h, i, ds, hi => by
    simp only [bindT] at h
    cases h1 : bindT a x r with
    | none => rw [h1] at h; cases h
    | some r1 =>
      rw [h1] at h
      simp only [Option.bind_some] at h
      cases h2 : bindT b y r1 with
      | none => rw [h2] at h; cases h
      | some r2 =>
        rw [h2] at h
        obtain ⟨q1, q2⟩ := bindT_own (tg := c) h hi
        obtain ⟨q3, q4⟩ := bindT_own h2 q1
        obtain ⟨q5, q6⟩ := bindT_own h1 q3
        exact ⟨q5, by simp only [Tg.slots, List.mem_append, not_or]; exact ⟨q6, q4, q2⟩⟩
  | .tup2 a b, .non, r, r', h, _, _, _ => by simp [bindT] at h
  | .tup2 a b, .bl _, r, r', h, _, _, _ => by simp [bindT] at h
  | .tup2 a b, .int _, r, r', h, _, _, _ => by simp [bindT] at h
  | .tup2 a b, .str _, r, r', h, _, _, _ => by simp [bindT] at h
  | .tup2 a b, .lst [], r, r', h, _, _, _ => by simp [bindT] at h
  | .tup2 a b, .lst [_], r, r', h, _, _, _ => by simp [bindT] at h
  | .tup2 a b, .lst (_ :: _ :: _ :: _), r, r', h, _, _, _ => by simp [bindT] at h
  | .tup2 a b, .cell _, r, r', h, _, _, _ => by simp [bindT] at h
  | .tup2 a b, .tup [], r, r', h, _, _, _ => by simp [bindT] at h
  | .tup2 a b, .tup [_], r, r', h, _, _, _ => by simp [bindT] at h
  | .tup2 a b, .tup (_ :: _ :: _ :: _), r, r', h, _, _, _ => by simp [bindT] at h
  | .tup3 a b c, .non, r, r', h, _, _, _ => by simp [bindT] at h
  | .tup3 a b c, .bl _, r, r', h, _, _, _ => by simp [bindT] at h
  | .tup3 a b c, .int _, r, r', h, _, _, _ => by simp [bindT] at h
  | .tup3 a b c, .str _, r, r', h, _, _, _ => by simp [bindT] at h
  | .tup3 a b c, .lst _, r, r', h, _, _, _ => by simp [bindT] at h
  | .tup3 a b c, .cell _, r, r', h, _, _, _ => by simp [bindT] at h
  | .tup3 a b c, .tup [], r, r', h, _, _, _ => by simp [bindT] at h
  | .tup3 a b c, .tup [_], r, r', h, _, _, _ => by simp [bindT] at h
  | .tup3 a b c, .tup [_, _], r, r', h, _, _, _ => by simp [bindT] at h
  | .tup3 a b c, .tup (_ :: _ :: _ :: _ :: _), r, r', h, _, _, _ => by simp [bindT] at h
section
variable {C : Cn} {G : Gam} {F : Nat → List D → Sto → Res D} {k : Nat} {X : Cx} {E : XK}
/-- no owned slot lies at Dl -/
def NoAt (σ : L2.St) (r : Env) (Dl : Addr) : Prop := ∀ (i : Nat) (ds : List D), r[i]? = some (.own ds) → σ[i]? ≠ some (some (.ref Dl))
/-- a list that no slot owns is changed -/
theorem Rel.aside {H0 H : Hp} {mu0 mu : List Addr} {σ : L2.St} {r : Env} {st : Sto} {Dl : Addr} {xs ys : List V} (R : Rel C H0 mu0 σ H r st mu) (h0 : H0 Dl = none) (ha : H Dl = some (.lst xs)) (hm : Dl ∉ mu) (hn : NoAt σ r Dl) : Rel C H0 mu0 σ (upd H Dl (.lst ys)) r st mu := by
  have w := ExtW.updL (mu := mu) (o := .lst ys) ha
  refine ⟨R.len, fun i sl hi => ?_, R.dis, R.srel.updL ha hm, ⟨R.ext.pre, fun b o h n m => ?_, fun b zs h n => ?_, fun b ps h => ?_, R.ext.new⟩⟩
  · have q := R.slots i sl hi
    cases sl with
    | no => exact trivial
    | val d =>
      match hs : σ[i]?, q with
      | some (some v), q => exact Sd.monoW w q
    | own ds =>
      match hs : σ[i]?, q with
      | some (some (.ref a)), q =>
        obtain ⟨h1, h2, zs, h3, h4⟩ := q
        have ne : a ≠ Dl := fun z => hn i ds hi (by rw [hs, z])
        exact ⟨h1, h2, zs, by rw [upd_ne ne]; exact h3, h4.monoW w⟩
  · rw [upd_ne (ne_of_none h h0)]; exact R.ext.keepN b o h n m
  · rw [upd_ne (ne_of_none h h0)]; exact R.ext.keepL b zs h n
  · rw [upd_ne (ne_of_none h h0)]; exact R.ext.keepT b ps h
theorem noAt_of {H0 H : Hp} {mu0 mu : List Addr} {σ σ' : L2.St} {r r' : Env} {st : Sto} {Dl : Addr} {tg : Tg} {d : D} (R : Rel C H0 mu0 σ H r st mu) (hD : H Dl = none) (hb : bindT tg d r = some r') (off : Off tg.slots σ σ') : NoAt σ' r' Dl := by
  intro i ds hi z
  obtain ⟨q1, q2⟩ := bindT_own hb hi
  rw [off.2 i q2] at z
  have q := R.slots i _ q1
  rw [z] at q
  obtain ⟨_, _, xs, h3, _⟩ := q
  rw [hD] at h3
  cases h3
theorem comp2Q {tg tg2 : Tg} {it it2 : Rt.It} {elt : Rt.E} {own own2 : List Nat} (hsl : ∀ i, i ∈ tg.slots → i ∈ own) (hsl2 : ∀ i, i ∈ tg2.slots → i ∈ own2) {σ : L2.St} {H H0 : Hp} {mu0 mu : List Addr} {r : Env} {st : Sto} {Q Q2 : VK} (R : Rel C H0 mu0 σ H r st mu) (h : Post C (RSd C) (ev F (.comp2 tg it tg2 it2 elt own own2) r st) H mu Q E) (hQ : ∀ a xs H1, H1 a = some (.lst xs) → (∀ o, Q (.ref a) (upd H1 a (.frz o (.lst xs)))) → Q2 (.ref a) H1) :
    tLc2 (rdI C F it E) (rdG C tg) (rdC C F .none E0) (rdI C F it2 E0) (rdG C tg2) (rdC C F .none E0) (rdE C F elt E0) own own2 σ H Q2 := by
  unfold ev at h
  refine ⟨H0, mu0, r, st, mu, R, Post.bind h fun ds st1 J H1 mu1 e1 s1 wk h1 => ?_⟩
  intro Dl hD
  generalize hf : (fun (d : D) (s : Sto) => match bindT tg d (wipeE r own) with
      | none => Res.bad
      | some r' => (evi F it2 r' s).bindN fun ds2 s => mapR (fun d2 s => match bindT tg2 d2 (wipeE r' own2) with
        | none => Res.bad
        | some r2 => (ev F elt r2 s).bind fun y s => Res.ok (some y) s) ds2 s) = f at h1
  cases hm : mapR2 f ds st1 with
  | exc c s => exact absurd hm mapR2_noexc
  | bad => rw [hm] at h1; exact h1.elim
  | ok ys sE =>
    rw [hm] at h1
    simp only [Res.bind_ok] at h1
    split at h1
    case isFalse => exact h1.elim
    case isTrue hsz =>
      have R1 := R.step e1 s1
      have nDm : Dl ∉ mu1 := notin_new s1 hD
      have h0D : H0 Dl = none := R1.ext.isSome hD (fun z => nDm (R1.ext.mem z))
      refine ⟨fun i m H' => m = ds.length - i ∧ i ≤ ds.length ∧ ∃ st' mu' acc accD ys', Acc C mu1 H1 Dl H' mu' st' acc accD ∧ mapR2 f (ds.drop i) st' = .ok ys' sE ∧ accD ++ ys' = ys,
        ⟨ds.length, by simp, Nat.zero_le _, st1, mu1, [], [], ys, Acc.start s1 hD, by simpa using hm, rfl⟩, ?_⟩
      rintro i m H' ⟨rfl, hi, st', mu', acc, accD, ys', A, hm', hy⟩
      by_cases hlt : i < ds.length
      · right
        have hd : ds[i]? = some ds[i] := List.getElem?_eq_getElem hlt
        obtain ⟨go, yl⟩ := (wk i H' mu' A.ext.w).2 _ hd
        rw [drop_get hlt] at hm'
        obtain ⟨o, s2, ys2, hfo, hm2, hys⟩ := mapR2_cons hm'
        refine ⟨go, fun H'' => ∃ st' mu' acc accD ys', Acc C mu1 H1 Dl H'' mu' st' acc accD ∧ mapR2 f (ds.drop (i + 1)) st' = .ok ys' sE ∧ accD ++ ys' = ys, fun H'' z => ⟨ds.length - (i + 1), by omega, rfl, hlt, z⟩, fun x H2 hyl => ?_⟩
        obtain ⟨ex, sx, sdx⟩ := yl x H2 hyl
        have A2 := A.step (ex mu') (sx mu' st' A.rel)
        rw [← hf] at hfo
        dsimp only at hfo
        split at hfo
        · cases hfo
        · next r' hb =>
          have Rw1 : Rel C H0 mu0 (L2.wipe σ own) H1 (wipeE r own) st1 mu1 := R1.wipe own
          have Rw : Rel C H0 mu0 (L2.wipe σ own) H2 (wipeE r own) st' mu' := (R1.step A2.ext A2.rel).wipe own
          refine ⟨H0, mu0, wipeE r own, st', mu', ds[i], r', Rw, sdx, hb, fun σ2 R2 off => ⟨?_, ?_⟩⟩
          · rw [off.wipe hsl, wipe_wipe]
          · have nat : NoAt σ2 r' Dl := noAt_of Rw1 hD hb off
            obtain ⟨ds2, s3, hev, hmr⟩ := bindN_inv hfo
            generalize hf2 : (fun (d2 : D) (s : Sto) => match bindT tg2 d2 (wipeE r' own2) with
              | none => Res.bad
              | some r2 => (ev F elt r2 s).bind fun y s => Res.ok (some y) s) = f2 at hmr
            dsimp only [rdC]
            rw [if_pos rfl]
            refine ⟨H0, mu0, r', st', mu', R2, post_ok hev fun J1 H4 mu4 e4 s4 wk2 => ?_⟩
            have A4 := A2.step e4 s4
            have R4 := R2.step e4 s4
            refine ⟨fun j k' Hc => k' = ds2.length - j ∧ j ≤ ds2.length ∧ ∃ stc muc accc accDc os, Acc C mu1 H1 Dl Hc muc stc accc accDc ∧ ExtW mu4 muc H4 Hc ∧ Rel C H0 mu0 σ2 Hc r' stc muc ∧ mapR f2 (ds2.drop j) stc = .ok os s2 ∧ accDc ++ os = accD ++ o,
              ⟨ds2.length, by simp, Nat.zero_le _, s3, mu4, acc, accD, o, A4, .refl, R4, by simpa using hmr, rfl⟩, ?_⟩
            rintro j k' Hc ⟨rfl, hj, stc, muc, accc, accDc, os, Ac, xw, Rc, hmc, hoc⟩
            by_cases hjl : j < ds2.length
            · right
              have hd2 : ds2[j]? = some ds2[j] := List.getElem?_eq_getElem hjl
              obtain ⟨go2, yl2⟩ := (wk2 j Hc muc xw).2 _ hd2
              rw [drop_get hjl] at hmc
              obtain ⟨oy, s5, os2, hfy, hm5, hos⟩ := mapR_cons hmc
              refine ⟨go2, fun Hn => ∃ stc muc accc accDc os, Acc C mu1 H1 Dl Hn muc stc accc accDc ∧ ExtW mu4 muc H4 Hn ∧ Rel C H0 mu0 σ2 Hn r' stc muc ∧ mapR f2 (ds2.drop (j + 1)) stc = .ok os s2 ∧ accDc ++ os = accD ++ o, fun Hn z => ⟨ds2.length - (j + 1), by omega, rfl, hjl, z⟩, fun x2 H5 hyl2 => ?_⟩
              obtain ⟨ex2, sx2, sdx2⟩ := yl2 x2 H5 hyl2
              have A5 := Ac.step (ex2 muc) (sx2 muc stc Ac.rel)
              have R5 := Rc.step (ex2 muc) (sx2 muc stc Ac.rel)
              have xw5 : ExtW mu4 muc H4 H5 := xw.trans (ex2 muc).w
              rw [← hf2] at hfy
              dsimp only at hfy
              split at hfy
              · cases hfy
              · next r2 hb2 =>
                refine ⟨H0, mu0, wipeE r' own2, stc, muc, ds2[j], r2, R5.wipe own2, sdx2, hb2, fun σ3 R3 off2 => ⟨?_, ?_⟩⟩
                · rw [off2.wipe hsl2, wipe_wipe]
                · dsimp only [rdC]
                  rw [if_pos rfl]
                  obtain ⟨y, s6, hey, hky⟩ := bind_ok_inv hfy
                  cases hky
                  refine ⟨H0, mu0, r2, stc, muc, R3, post_ok hey fun v H7 mu7 e7 s7 q7 => ?_⟩
                  have A7 := A5.step e7 s7
                  have R7 := R5.step e7 s7
                  refine ⟨accc, A7.at_, ?_, s5, mu7, accc ++ [v], accDc ++ [y], os2, A7.push hD q7, ?_, R7.aside h0D A7.at_ A7.out nat, hm5, ?_⟩
                  · have l1 := A7.sd.length
                    have l2 : accDc.length + 1 ≤ ys.length := by
                      have e2 : (accDc ++ os).length = (accD ++ o).length := by rw [hoc]
                      rw [← hy, hys]
                      rw [hos] at e2
                      simp only [List.length_append, Option.toList, List.length_cons, List.length_nil] at e2 ⊢
                      omega
                    have l3 := sizeN_le
                    omega
                  · exact (xw5.trans e7.w).trans (ExtW.updL A7.at_)
                  · rw [← hoc, hos]; simp
            · left
              have hje : j = ds2.length := by omega
              rw [hje, List.drop_length] at hmc
              unfold mapR at hmc
              cases hmc
              rw [List.append_nil] at hoc
              refine ⟨(wk2 j Hc muc xw).1 (by omega) (by omega), s2, muc, accc, accDc, ys2, Ac, hm2, ?_⟩
              rw [hoc, ← hy, hys, List.append_assoc]
      · left
        have hie : i = ds.length := by omega
        refine ⟨(wk i H' mu' A.ext.w).1 (by omega) (by omega), hQ Dl acc H' A.at_ fun ob => ?_⟩
        obtain ⟨x1, x2, x3⟩ := A.frz hD ob
        rw [hie, List.drop_length] at hm'
        unfold mapR2 at hm'
        cases hm'
        rw [List.append_nil] at hy
        subst hy
        exact h1 _ _ _ x1 x2 x3
theorem sComp2 (g : Good C G F k X E) {tg tg2 : Tg} {it it2 : Rt.It} {elt : Rt.E} {own own2 : List Nat} {e tg' iter tg2' iter2 : Expr} {scope : Scope} {ownL : List (Str × Nat)} {pos : Pos} (hsl : ∀ i, i ∈ tg.slots → i ∈ own) (hsl2 : ∀ i, i ∈ tg2.slots → i ∈ own2) (hso : ∀ i, i ∈ own2 → i ∈ own) (ho : ownL.map (·.2) = own)
    (hi : PI X tg' iter (rdI C F it E)) (ok : BlkOk X.N X.env.scope scope ownL) (hp : plainE iter = true) (hp2 : plainE iter2 = true)
    (hg : ∀ (s : Shared) (H : Hp) (C' : Addr) (cl : List (Str × Addr)) (fp : List Addr), PG (X.blk s H scope (compEnvC scope cl C' X.env) fp) tg' (rdG C tg))
    (hi2 : ∀ (s : Shared) (H : Hp) (C' : Addr) (cl : List (Str × Addr)) (fp : List Addr), PI (X.blk s H scope (compEnvC scope cl C' X.env) fp) tg2' iter2 (rdI C F it2 E0))
    (hg2 : ∀ (s : Shared) (H : Hp) (C' : Addr) (cl : List (Str × Addr)) (fp : List Addr), PG (X.blk s H scope (compEnvC scope cl C' X.env) fp) tg2' (rdG C tg2))
    (he : ∀ (s : Shared) (H : Hp) (C' : Addr) (cl : List (Str × Addr)) (fp : List Addr), PE (X.blk s H scope (compEnvC scope cl C' X.env) fp) e (rdE C F elt E0)) :
    PE X (.ListComp e [⟨tg', iter, [], 0⟩, ⟨tg2', iter2, [], 0⟩] scope pos) (rdE C F (.comp2 tg it tg2 it2 elt own own2) E) := by
  refine peImp (peFrz (pe_lc2 (vs1 := own2) g.calm (by rw [g.hN]; exact g.nd) hi ok (by rw [ho]; exact hso) hg (fun _ _ _ _ _ => ⟨fun _ _ _ H _ I h => wpAny_tests_nil ⟨H, I, h⟩⟩) hi2 hg2 (fun _ _ _ _ _ => ⟨fun _ _ _ H _ I h => wpAny_tests_nil ⟨H, I, h⟩⟩) he (plain_set hp) (fun env x => plain_set hp2 x))) fun σ H Q ⟨H0, mu0, r, st, mu, R, h⟩ => ?_
  rw [ho]
  exact comp2Q hsl hsl2 R h fun a xs H1 ha z => ⟨a, xs, rfl, ha, z⟩
end
end Rt
set_option maxHeartbeats 4000000
namespace Rt
open PySem PySem.Spec PyProof.Rows L2
def visB (sc : Scope) (x : Str) : Bool := match sc.names.lookup x with
  | some .local => true
  | some .cell => true
  | some .free => true
  | _ => false
def glB (sc : Scope) (x : Str) : Bool := match sc.names.lookup x with
  | some .globalImplicit => true
  | _ => false
/-- a name that a block or a def may store -/
def locB (sc : Scope) (x : Str) : Bool := match sc.names.lookup x with
  | some .local => true
  | some .cell => true
  | _ => false
def ownL (N : List Str) (own : List Nat) : List (Str × Nat) := own.filterMap fun i => (N[i]?).map fun x => (x, i)
def opB : Bop → Operator → Bool
  | .add, .Add => true | .sub, .Sub => true | .mul, .Mult => true | .fdiv, .FloorDiv => true | .mod, .Mod => true | .pow, .Pow => true
  | _, _ => false
theorem opB_eq {a : Bop} {b : Operator} (h : opB a b = true) : b = opOf a := by cases a <;> cases b <;> first | rfl | cases h
def cmpB : Cop → CmpOp → Bool
  | .lt, .Lt => true | .le, .LtE => true | .gt, .Gt => true | .ge, .GtE => true | .eq, .Eq => true | .ne, .NotEq => true | .isn, .Is => true | .notn, .IsNot => true
  | _, _ => false
theorem cmpB_eq {a : Cop} {b : CmpOp} (h : cmpB a b = true) : b = cmpOf a := by cases a <;> cases b <;> first | rfl | cases h
section
variable (N : List Str) (fnm : Nat → Option Str)
mutual
def ckE : E → Scope → Expr → Bool
  | .var i, sc, .Name x _ => decide (N[i]? = some x) && visB sc x
  | .int i, _, .Constant (.int j) _ _ => decide (i = j)
  | .bl i, _, .Constant (.bool j) _ _ => decide (i = j)
  | .non, _, .Constant .none _ _ => true
  | .str i, _, .Constant (.str j) _ _ => decide (i = j)
  | .tup es, sc, .Tuple xs _ _ => decide (es.len ≤ 1000) && ckEs es sc xs
  | .lst es, sc, .List xs _ => decide (es.len ≤ 1000) && ckEs es sc xs
  | .cel es, sc, .List xs _ => decide (es.len ≤ 1000) && ckEs es sc xs
  | .bin op a b, sc, .BinOp x o y _ => opB op o && (ckE a sc x && ckE b sc y)
  | .rep es b, sc, .BinOp (.List xs _) .Mult y _ => decide (es.len ≤ 1000) && (ckEs es sc xs && ckE b sc y)
  | .neg a, sc, .UnaryOp .USub x _ => ckE a sc x
  | .not a, sc, .UnaryOp .Not x _ => ckE a sc x
  | .cmp op a b, sc, .Compare x [o] [y] _ => cmpB op o && (ckE a sc x && ckE b sc y)
  | .chain o1 o2 a b c, sc, .Compare x [p1, p2] [y, z] _ => cmpB o1 p1 && (cmpB o2 p2 && (ckE a sc x && (ckE b sc y && ckE c sc z)))
  | .and a b, sc, .BoolOp .And [x, y] _ => ckE a sc x && ckE b sc y
  | .and a b, sc, .BoolOp .And (x :: y :: z :: r) p => ckE a sc x && ckE b sc (.BoolOp .And (y :: z :: r) p)
  | .or a b, sc, .BoolOp .Or [x, y] _ => ckE a sc x && ckE b sc y
  | .or a b, sc, .BoolOp .Or (x :: y :: z :: r) p => ckE a sc x && ckE b sc (.BoolOp .Or (y :: z :: r) p)
  | .ite c a b, sc, .IfExp t x y _ => ckE c sc t && (ckE a sc x && ckE b sc y)
  | .slice a lo hi, sc, .Subscript x (.Slice l h none _) _ => ckE a sc x && (ckO lo sc l && ckO hi sc h)
  | .rev a, sc, .Subscript x (.Slice none none (some (.UnaryOp .USub (.Constant (.int 1) _ _) _)) _) _ => ckE a sc x
  | .sub a b, sc, .Subscript x y _ => ckE a sc x && ckE b sc y
  | .subo i b, sc, .Subscript (.Name x _) y _ => decide (N[i]? = some x) && (visB sc x && ckE b sc y)
  | .call f es, sc, .Call (.Name x _) (e :: r) [] _ => decide (fnm f = some x) && (glB sc x && ckEs es sc (e :: r))
  | .bi (.isi t) (.cons c .nil), sc, .Call (.Name x _) [e, .Name y _] [] _ => decide (x = "isinstance") && (decide (y = tyName t) && (glB sc x && (glB sc y && ckE c sc e)))
  | .bi b es, sc, .Call (.Name x _) (e :: r) [] _ => decide ((biName b).map (·.1) = some x) && (glB sc x && ckEs es sc (e :: r))
  | .comp tg it cond elt own, sc, .ListComp e [⟨tg', iter, ifs, n⟩] scope _ => decide (n = 0) && (blkC N sc scope (ownL N own) && (decide ((ownL N own).map (·.2) = own) && (tg.slots.all (fun i => decide (i ∈ own)) && (ckT N (locB scope) tg tg' &&
      (ckI it sc tg' iter && (ckC cond (relS scope sc) ifs && ckE elt (relS scope sc) e))))))
  | .comp2 tg it tg2 it2 elt own own2, sc, .ListComp e [⟨tg', iter, [], n⟩, ⟨tg2', iter2, [], n2⟩] scope _ => decide (n = 0) && (decide (n2 = 0) && (blkC N sc scope (ownL N own) && (decide ((ownL N own).map (·.2) = own) && (tg.slots.all (fun i => decide (i ∈ own)) && (tg2.slots.all (fun i => decide (i ∈ own2)) && (own2.all (fun i => decide (i ∈ own)) &&
      (ckT N (locB scope) tg tg' && (ckT N (locB scope) tg2 tg2' && (ckI it sc tg' iter && (ckI it2 (relS scope sc) tg2' iter2 && ckE elt (relS scope sc) e))))))))))
  | _, _, _ => false
def ckEs : Es → Scope → List Expr → Bool
  | .nil, _, [] => true
  | .cons c cs, sc, e :: es => ckE c sc e && ckEs cs sc es
  | _, _, _ => false
def ckO : Oe → Scope → Option Expr → Bool
  | .none, _, none => true
  | .some c, sc, some e => ckE c sc e
  | _, _, _ => false
def ckC : Oe → Scope → List Expr → Bool
  | .none, _, [] => true
  | .some c, sc, [e] => ckE c sc e
  | _, _, _ => false
def ckI : It → Scope → Expr → Expr → Bool
  | .val c, sc, _, e => ckE c sc e
  | .rng1 a, sc, _, .Call (.Name x _) [e] [] _ => decide (x = "range") && (glB sc x && ckE a sc e)
  | .rng2 a b, sc, _, .Call (.Name x _) [e, f] [] _ => decide (x = "range") && (glB sc x && (ckE a sc e && ckE b sc f))
  | .rng3 a b c, sc, _, .Call (.Name x _) [e, f, g] [] _ => decide (x = "range") && (glB sc x && (ckE a sc e && (ckE b sc f && ckE c sc g)))
  | .enum a, sc, .Tuple _ _ _, .Call (.Name x _) [e] [] _ => decide (x = "enumerate") && (glB sc x && ckE a sc e)
  | .zip a b, sc, .Tuple _ _ _, .Call (.Name x _) [e, f] [] _ => decide (x = "zip") && (glB sc x && (ckE a sc e && ckE b sc f))
  | _, _, _, _ => false
end
end
theorem vis_of {sc : Scope} {x : Str} (h : visB sc x = true) : Vis sc x := by
  unfold visB at h
  split at h
  · next z => exact .inl z
  · next z => exact .inr (.inl z)
  · next z => exact .inr (.inr z)
  · cases h
theorem gl_of {X : Cx} {x : Str} (h : glB X.env.scope x = true) : Gl X x := by
  unfold glB at h
  split at h
  · next z => exact z
  · cases h
theorem ck_plain {N : List Str} {fnm : Nat → Option Str} {c : E} {sc : Scope} {e : Expr} (h : ckE N fnm c sc e = true) : plainE e = true := by
  cases e with
  | Starred a p => cases c <;> unfold ckE at h <;> first | cases h | (split at h <;> contradiction)
  | Slice a b c' p => cases c <;> unfold ckE at h <;> first | cases h | (split at h <;> contradiction)
  | Set a b p => cases c <;> unfold ckE at h <;> first | cases h | (split at h <;> contradiction)
  | _ => rfl
theorem cks_plain {N : List Str} {fnm : Nat → Option Str} : ∀ {cs : Es} {sc : Scope} {es : List Expr}, ckEs N fnm cs sc es = true → es.all plainE = true
  | .nil, _, [], _ => rfl
  | .nil, _, _ :: _, h => by simp [ckEs] at h
  | .cons _ _, _, [], h => by simp [ckEs] at h
  | .cons c cs, sc, e :: es, h => by
    simp only [ckEs, Bool.and_eq_true] at h
    rw [List.all_cons, ck_plain h.1, cks_plain h.2]; rfl
theorem cki_plain {N : List Str} {fnm : Nat → Option Str} {c : It} {sc : Scope} {tg e : Expr} (h : ckI N fnm c sc tg e = true) : plainE e = true := by
  cases c with
  | val c => simp only [ckI] at h; exact ck_plain h
  | _ => unfold ckI at h; split at h <;> first | rfl | contradiction
theorem loc_blk {sc scope : Scope} {x : Str} (h : locB scope x = true) : Loc (relS scope sc) x ∧ ((scope.names.lookup x == some .cell) = true ∨ (relS scope sc).names.lookup x = some .local) := by
  unfold locB at h
  split at h
  · next z =>
    have := lookup_relS_keep (sc := sc) (k := .local) (by decide) z
    exact ⟨.inl this, .inr this⟩
  · next z =>
    have := lookup_relS_keep (sc := sc) (k := .cell) (by decide) z
    exact ⟨.inr this, .inl (by rw [z]; decide)⟩
  · cases h
section
variable {C : Cn} {G : Gam} {F : Nat → List D → Sto → Res D} {k : Nat}
abbrev Both (C : Cn) (F : Nat → List D → Sto → Res D) (X : Cx) (E : XK) (c : Rt.E) (e : Expr) : Prop := PE X e (rdE C F c E) ∧ PT X e (rdT C F c E)
theorem pt_pw {X : Cx} {op : BoolOp} {es : List Expr} {pos : Pos} {t : TT} (h : PT X (.BoolOp op es pos) t) : PW X (.BoolOp op es pos) t := ⟨fun wh pins s σ H Q I q => by
  have e1 : PySem.isTrue (.BoolOp op es pos) X.env wh = PySem.isTrue (.BoolOp op es pos) X.env (eval (.BoolOp op es pos) X.env) := by rw [PySem.isTrue, PySem.isTrue]
  rw [e1]
  exact h.run pins s σ H Q I q⟩
theorem both {X : Cx} {E : XK} {c : Rt.E} {e : Expr} (h : PE X e (rdE C F c E)) (he : ∀ whole, PySem.isTrue e X.env whole = (do let v ← whole; standAt e.pos; holding [v] (truthy v))) : Both C F X E c e := ⟨h, tVal h he⟩
mutual
theorem sndE : ∀ (c : Rt.E) (X : Cx) (E : XK) (e : Expr), Good C G F k X E → ckE G.N G.fnm c X.env.scope e = true → Both C F X E c e
  | .var i, X, E, e, g, h => by
    unfold ckE at h
    split at h <;> first | contradiction | skip
    all_goals (rename_i z; cases z)
    simp only [Bool.and_eq_true, decide_eq_true_eq] at h
    exact both (sVar g h.1 (vis_of h.2)) fun _ => rfl
  | .int i, X, E, e, g, h => by
    unfold ckE at h
    split at h <;> first | contradiction | skip
    all_goals (rename_i z; cases z)
    simp only [decide_eq_true_eq] at h
    subst h
    exact both sInt fun _ => rfl
  | .bl i, X, E, e, g, h => by
    unfold ckE at h
    split at h <;> first | contradiction | skip
    all_goals (rename_i z; cases z)
    simp only [decide_eq_true_eq] at h
    subst h
    exact both sBl fun _ => rfl
  | .non, X, E, e, g, h => by
    unfold ckE at h
    split at h <;> first | contradiction | skip
    all_goals (rename_i z; cases z)
    exact both sNon fun _ => rfl
  | .str i, X, E, e, g, h => by
    unfold ckE at h
    split at h <;> first | contradiction | skip
    all_goals (rename_i z; cases z)
    simp only [decide_eq_true_eq] at h
    subst h
    exact both sStr fun _ => rfl
  | .tup es, X, E, e, g, h => by
    unfold ckE at h
    split at h <;> first | contradiction | skip
    all_goals (rename_i z; cases z)
    simp only [Bool.and_eq_true, decide_eq_true_eq] at h
    exact both (sTup (sndEs es X E _ g h.2) h.1) fun _ => rfl
  | .lst es, X, E, e, g, h => by
    unfold ckE at h
    split at h <;> first | contradiction | skip
    all_goals (rename_i z; cases z)
    simp only [Bool.and_eq_true, decide_eq_true_eq] at h
    exact both (sLst (sndEs es X E _ g h.2) h.1) fun _ => rfl
  | .cel es, X, E, e, g, h => by
    unfold ckE at h
    split at h <;> first | contradiction | skip
    all_goals (rename_i z; cases z)
    simp only [Bool.and_eq_true, decide_eq_true_eq] at h
    exact both (sCel (sndEs es X E _ g h.2) h.1) fun _ => rfl
  | .bin op a b, X, E, e, g, h => by
    unfold ckE at h
    split at h <;> first | contradiction | skip
    all_goals (rename_i z; cases z)
    simp only [Bool.and_eq_true] at h
    rw [opB_eq h.1]
    exact both (sBin g (sndE a X E _ g h.2.1).1 (sndE b X E _ g h.2.2).1) fun _ => rfl
  | .rep es b, X, E, e, g, h => by
    unfold ckE at h
    split at h <;> first | contradiction | skip
    all_goals (rename_i z; cases z)
    simp only [Bool.and_eq_true, decide_eq_true_eq] at h
    exact both (sRep (sndEs es X E _ g h.2.1) h.1 (sndE b X E _ g h.2.2).1) fun _ => rfl
  | .neg a, X, E, e, g, h => by
    unfold ckE at h
    split at h <;> first | contradiction | skip
    all_goals (rename_i z; cases z)
    exact both (sNeg (sndE a X E _ g h).1) fun _ => rfl
  | .not a, X, E, e, g, h => by
    unfold ckE at h
    split at h <;> first | contradiction | skip
    all_goals (rename_i z; cases z)
    have := sndE a X E _ g h
    exact ⟨sNot this.1, tNot' this.2⟩
  | .cmp op a b, X, E, e, g, h => by
    unfold ckE at h
    split at h <;> first | contradiction | skip
    all_goals (rename_i z; cases z)
    simp only [Bool.and_eq_true] at h
    rw [cmpB_eq h.1]
    have ha := (sndE a X E _ g h.2.1).1
    have hb := (sndE b X E _ g h.2.2).1
    have hm := plain_mark (op := cmpOf op) (ck_plain h.2.2)
    exact ⟨sCmp g ha hb hm, tCmp g ha hb hm⟩
  | .chain o1 o2 a b c, X, E, e, g, h => by
    unfold ckE at h
    split at h <;> first | contradiction | skip
    all_goals (rename_i z; cases z)
    simp only [Bool.and_eq_true] at h
    rw [cmpB_eq h.1, cmpB_eq h.2.1]
    have ha := (sndE a X E _ g h.2.2.1).1
    have hb := (sndE b X E _ g h.2.2.2.1).1
    have hc := (sndE c X E _ g h.2.2.2.2).1
    exact ⟨sChain g ha hb hc (plain_last (ck_plain h.2.2.2.2)), tChain' g ha hb hc (plain_last (ck_plain h.2.2.2.2))⟩
  | .and a b, X, E, e, g, h => by
    unfold ckE at h
    split at h <;> first | contradiction | skip
    all_goals (rename_i z; cases z)
    · simp only [Bool.and_eq_true] at h
      have ha := sndE a X E _ g h.1
      have hb := sndE b X E _ g h.2
      exact ⟨sAnd ha.1 (pe_one hb.1), (tAnd' ha.2 (pw_and1 hb.2)).pt⟩
    · simp only [Bool.and_eq_true] at h
      have ha := sndE a X E _ g h.1
      have hb := sndE b X E _ g h.2
      exact ⟨sAnd ha.1 hb.1, (tAnd' ha.2 (pt_pw hb.2)).pt⟩
  | .or a b, X, E, e, g, h => by
    unfold ckE at h
    split at h <;> first | contradiction | skip
    all_goals (rename_i z; cases z)
    · simp only [Bool.and_eq_true] at h
      have ha := sndE a X E _ g h.1
      have hb := sndE b X E _ g h.2
      exact ⟨sOr ha.1 (pe_one hb.1), (tOr' ha.2 (pw_or1 hb.2)).pt⟩
    · simp only [Bool.and_eq_true] at h
      have ha := sndE a X E _ g h.1
      have hb := sndE b X E _ g h.2
      exact ⟨sOr ha.1 hb.1, (tOr' ha.2 (pt_pw hb.2)).pt⟩
  | .ite c a b, X, E, e, g, h => by
    unfold ckE at h
    split at h <;> first | contradiction | skip
    all_goals (rename_i z; cases z)
    simp only [Bool.and_eq_true] at h
    have hc := (sndE c X E _ g h.1).2
    have ha := sndE a X E _ g h.2.1
    have hb := sndE b X E _ g h.2.2
    exact ⟨sIte hc ha.1 hb.1, tIte hc ha.2 hb.2⟩
  | .slice a lo hi, X, E, e, g, h => by
    unfold ckE at h
    split at h <;> first | contradiction | skip
    all_goals (rename_i z; cases z)
    simp only [Bool.and_eq_true] at h
    exact both (sSlice g (sndE a X E _ g h.1).1 (sndO lo X E _ g h.2.1) (sndO hi X E _ g h.2.2)) fun _ => rfl
  | .sub a b, X, E, e, g, h => by
    unfold ckE at h
    split at h <;> first | contradiction | skip
    all_goals (rename_i z; cases z)
    simp only [Bool.and_eq_true] at h
    exact both (sSub g (sndE a X E _ g h.1).1 (sndE b X E _ g h.2).1 (ck_plain h.2)) fun _ => rfl
  | .subo i b, X, E, e, g, h => by
    unfold ckE at h
    split at h <;> first | contradiction | skip
    all_goals (rename_i z; cases z)
    simp only [Bool.and_eq_true, decide_eq_true_eq] at h
    exact both (sSubo g h.1 (vis_of h.2.1) (sndE b X E _ g h.2.2).1 (ck_plain h.2.2)) fun _ => rfl
  | .call f es, X, E, e, g, h => by
    unfold ckE at h
    split at h <;> first | contradiction | skip
    all_goals (rename_i z; cases z)
    simp only [Bool.and_eq_true, decide_eq_true_eq] at h
    exact both (sCall g h.1 (gl_of h.2.1) (sndEs es X E _ g h.2.2) (cks_plain h.2.2)) fun _ => rfl
  | .bi b es, X, E, e, g, h => by
    unfold ckE at h
    split at h <;> first | contradiction | skip
    all_goals (rename_i z; cases z)
    · simp only [Bool.and_eq_true, decide_eq_true_eq] at h
      obtain ⟨rfl, rfl, h1, h2, h3⟩ := h
      exact both (sIsi g (gl_of h1) (gl_of h2) (sndE _ X E _ g h3).1 (ck_plain h3)) fun _ => rfl
    · simp only [Bool.and_eq_true, decide_eq_true_eq] at h
      cases z : biName b with
      | none => rw [z] at h; cases h.1
      | some p =>
        rw [z] at h
        have h1 := h.1
        simp only [Option.map_some, Option.some.injEq] at h1
        subst h1
        exact both (sBi g (t := p.2) z (gl_of h.2.1) (sndEs es X E _ g h.2.2) (cks_plain h.2.2)) fun _ => rfl
  | .comp tg it cond elt own, X, E, e, g, h => by
    unfold ckE at h
    split at h <;> first | contradiction | skip
    all_goals (rename_i z; cases z)
    simp only [Bool.and_eq_true, decide_eq_true_eq] at h
    obtain ⟨h0, h1, h2, h3, h4, h5, h6, h7⟩ := h
    subst h0
    refine both (sComp g (ownL := ownL G.N own) (fun i hi => ?_) h2 (sndI it X E _ _ g h5) (blkOk_by (by rw [g.hN]; exact h1)) (cki_plain h5) (fun s H C' cl fp => ?_) (fun s H C' cl fp => ?_) (fun s H C' cl fp => ?_)) fun _ => rfl
    · have := List.all_eq_true.mp h3 i hi
      simpa using this
    · exact sndG (g.blk s H _ _ fp) (fun x hx => loc_blk hx) h4
    · exact sndC cond _ E0 _ (g.blk s H _ (compEnvC _ cl C' X.env) fp) h6
    · exact (sndE elt _ E0 _ (g.blk s H _ (compEnvC _ cl C' X.env) fp) h7).1
  | .rev a, X, E, e, g, h => by
    unfold ckE at h
    split at h <;> first | contradiction | skip
    all_goals (rename_i z; cases z)
    exact both (sRev g (sndE a X E _ g h).1) fun _ => rfl
  | .comp2 tg it tg2 it2 elt own own2, X, E, e, g, h => by
    unfold ckE at h
    split at h <;> first | contradiction | skip
    all_goals (rename_i z; cases z)
    simp only [Bool.and_eq_true, decide_eq_true_eq] at h
    obtain ⟨h0, h00, h1, h2, h3, h3b, h3c, h4, h4b, h5, h5b, h7⟩ := h
    subst h0 h00
    refine both (sComp2 g (ownL := ownL G.N own) (fun i hi => ?_) (fun i hi => ?_) (fun i hi => ?_) h2 (sndI it X E _ _ g h5) (blkOk_by (by rw [g.hN]; exact h1)) (cki_plain h5) (cki_plain h5b) (fun s H C' cl fp => ?_) (fun s H C' cl fp => ?_) (fun s H C' cl fp => ?_) (fun s H C' cl fp => ?_)) fun _ => rfl
    · have := List.all_eq_true.mp h3 i hi
      simpa using this
    · have := List.all_eq_true.mp h3b i hi
      simpa using this
    · have := List.all_eq_true.mp h3c i hi
      simpa using this
    · exact sndG (g.blk s H _ _ fp) (fun x hx => loc_blk hx) h4
    · exact sndI it2 _ E0 _ _ (g.blk s H _ (compEnvC _ cl C' X.env) fp) h5b
    · exact sndG (g.blk s H _ _ fp) (fun x hx => loc_blk hx) h4b
    · exact (sndE elt _ E0 _ (g.blk s H _ (compEnvC _ cl C' X.env) fp) h7).1
  | .told a, X, E, e, g, h => by unfold ckE at h; cases h
theorem sndEs : ∀ (c : Es) (X : Cx) (E : XK) (es : List Expr), Good C G F k X E → ckEs G.N G.fnm c X.env.scope es = true → PA X es (rdEs C F c E)
  | .nil, X, E, [], g, h => sNil
  | .nil, X, E, _ :: _, g, h => by simp [ckEs] at h
  | .cons _ _, X, E, [], g, h => by simp [ckEs] at h
  | .cons c cs, X, E, e :: es, g, h => by
    simp only [ckEs, Bool.and_eq_true] at h
    exact sCons (sndE c X E e g h.1).1 (sndEs cs X E es g h.2) (plain_star (ck_plain h.1))
theorem sndO : ∀ (c : Oe) (X : Cx) (E : XK) (e : Option Expr), Good C G F k X E → ckO G.N G.fnm c X.env.scope e = true → PartOk C F X E e c
  | .none, X, E, none, g, h => .none
  | .none, X, E, some _, g, h => by simp [ckO] at h
  | .some _, X, E, none, g, h => by simp [ckO] at h
  | .some c, X, E, some e, g, h => by
    simp only [ckO] at h
    exact .some (sndE c X E e g h).1
theorem sndC : ∀ (c : Oe) (X : Cx) (E : XK) (es : List Expr), Good C G F k X E → ckC G.N G.fnm c X.env.scope es = true → PTs X es (rdC C F c E)
  | .none, X, E, [], g, h => ⟨fun pins s σ H Q I h => pts_nil.run pins s σ H Q I h⟩
  | .none, X, E, _ :: _, g, h => by simp [ckC] at h
  | .some _, X, E, [], g, h => by simp [ckC] at h
  | .some _, X, E, _ :: _ :: _, g, h => by simp [ckC] at h
  | .some c, X, E, [e], g, h => by
    simp only [ckC] at h
    have := pts_one (sndE c X E e g h).2
    exact ⟨fun pins s σ H Q I h => this.run pins s σ H Q I h⟩
theorem sndI : ∀ (c : Rt.It) (X : Cx) (E : XK) (tg e : Expr), Good C G F k X E → ckI G.N G.fnm c X.env.scope tg e = true → PI X tg e (rdI C F c E)
  | .val c, X, E, tg, e, g, h => by
    simp only [ckI] at h
    exact iVal g (sndE c X E e g h).1
  | .rng1 a, X, E, tg, e, g, h => by
    unfold ckI at h
    split at h <;> first | contradiction | skip
    all_goals (rename_i z; cases z)
    simp only [Bool.and_eq_true, decide_eq_true_eq] at h
    obtain ⟨rfl, h1, h2⟩ := h
    exact iRng1' g (gl_of h1) (sndE a X E _ g h2).1 (ck_plain h2)
  | .rng2 a b, X, E, tg, e, g, h => by
    unfold ckI at h
    split at h <;> first | contradiction | skip
    all_goals (rename_i z; cases z)
    simp only [Bool.and_eq_true, decide_eq_true_eq] at h
    obtain ⟨rfl, h1, h2, h3⟩ := h
    exact iRng2' g (gl_of h1) (sndE a X E _ g h2).1 (ck_plain h2) (sndE b X E _ g h3).1 (ck_plain h3)
  | .rng3 a b c, X, E, tg, e, g, h => by
    unfold ckI at h
    split at h <;> first | contradiction | skip
    all_goals (rename_i z; cases z)
    simp only [Bool.and_eq_true, decide_eq_true_eq] at h
    obtain ⟨rfl, h1, h2, h3, h4⟩ := h
    exact iRng3' g (gl_of h1) (sndE a X E _ g h2).1 (ck_plain h2) (sndE b X E _ g h3).1 (ck_plain h3) (sndE c X E _ g h4).1 (ck_plain h4)
  | .enum a, X, E, tg, e, g, h => by
    unfold ckI at h
    split at h <;> first | contradiction | skip
    all_goals (rename_i z; cases z)
    simp only [Bool.and_eq_true, decide_eq_true_eq] at h
    obtain ⟨rfl, h1, h2⟩ := h
    exact iEnum' g (gl_of h1) (sndE a X E _ g h2).1 (ck_plain h2)
  | .zip a b, X, E, tg, e, g, h => by
    unfold ckI at h
    split at h <;> first | contradiction | skip
    all_goals (rename_i z; cases z)
    simp only [Bool.and_eq_true, decide_eq_true_eq] at h
    obtain ⟨rfl, h1, h2, h3⟩ := h
    exact iZip' g (gl_of h1) (sndE a X E _ g h2).1 (ck_plain h2) (sndE b X E _ g h3).1 (ck_plain h3)
end
end
end Rt
set_option maxHeartbeats 4000000
namespace Rt
open PySem PySem.Spec PyProof.Rows L2
/-- what is asked of a statement's result; H0, mu0: the def's entry -/
def PostS (C : Cn) (E : XK) (H0 : Hp) (mu0 : List Addr) (x : Res Flow) (D : Ends) (H : Hp) (mu : List Addr) : Prop := match x with
  | .ok (.next r) st => ∀ σ' H' mu', Rel C H0 mu0 σ' H' r st mu' → ExtW mu mu' H H' → D.nx σ' H'
  | .ok (.ret d) st => ∀ v H' mu', Ext mu0 mu' H0 H' → SRel C H' mu' st → Sd C.K H' mu' v d → D.rt v H'
  | .exc c st => ∀ H' mu', Ext mu0 mu' H0 H' → SRel C H' mu' st → E (.ref (C.ca c)) none H'
  | .bad => False
section
variable (C : Cn) (F : Nat → List D → Sto → Res D) (W : Nat)
def rdS (c : S) (E : XK) : TS := fun D σ H => ∃ H0 mu0 r st mu, Rel C H0 mu0 σ H r st mu ∧ PostS C E H0 mu0 (exec F W c r st) D H mu
def rdSs (c : Ss) (E : XK) : TS := fun D σ H => ∃ H0 mu0 r st mu, Rel C H0 mu0 σ H r st mu ∧ PostS C E H0 mu0 (execs F W c r st) D H mu
end
section
variable {C : Cn} {G : Gam} {F : Nat → List D → Sto → Res D} {W : Nat} {k : Nat} {X : Cx} {E : XK} {H0 H H1 : Hp} {mu0 mu mu1 : List Addr} {σ : L2.St} {r : Env} {st : Sto} {D : Ends}
theorem PostS.mono {x : Res Flow} (h : PostS C E H0 mu0 x D H mu) (e : ExtW mu mu1 H H1) : PostS C E H0 mu0 x D H1 mu1 := by
  cases x with
  | ok f st =>
    cases f with
    | next r => exact fun σ' H' mu' R w => h σ' H' mu' R (e.trans w)
    | ret d => exact h
  | exc c st => exact h
  | bad => exact h
/-- an expression, then the rest of a statement -/
theorem PostS.bind {a b : Type} {Rl : Hp → List Addr → b → a → Prop} {x : Res a} {f : a → Sto → Res Flow} {Q : b → Hp → Prop} (R : Rel C H0 mu0 σ H r st mu) (h : PostS C E H0 mu0 (x.bind f) D H mu)
    (w : ∀ d st1 v H1 mu1, Ext mu mu1 H H1 → SRel C H1 mu1 st1 → Rl H1 mu1 v d → PostS C E H0 mu0 (f d st1) D H1 mu1 → Q v H1) : Post C Rl x H mu Q E := by
  cases x with
  | ok d st1 => exact fun v H' mu' e s q => w d st1 v H' mu' e s q (PostS.mono h e.w)
  | exc c st1 => exact fun H' mu' e s => h H' mu' (R.ext.trans e) s
  | bad => exact h
/-- .. of an argument list whose length is known -/
theorem PostS.bindLen {es : Es} {f : List Rt.D → Sto → Res Flow} {Q : List V → Hp → Prop} (R : Rel C H0 mu0 σ H r st mu) (h : PostS C E H0 mu0 ((evs F es r st).bind f) D H mu)
    (w : ∀ d st1 v H1 mu1, d.length = es.len → Ext mu mu1 H H1 → SRel C H1 mu1 st1 → SdA C.K H1 mu1 v d → PostS C E H0 mu0 (f d st1) D H1 mu1 → Q v H1) : Post C (RSdA C) (evs F es r st) H mu Q E := by
  cases q : evs F es r st with
  | ok d st1 =>
    rw [q] at h
    exact fun v H' mu' e s z => w d st1 v H' mu' (evs_len q) e s z (PostS.mono h e.w)
  | exc c st1 =>
    rw [q] at h
    exact fun H' mu' e s => h H' mu' (R.ext.trans e) s
  | bad => rw [q] at h; exact h
theorem PostS.next {r' : Env} (h : PostS C E H0 mu0 (.ok (.next r') st) D H mu) {σ' : L2.St} {H' : Hp} {mu' : List Addr} (R : Rel C H0 mu0 σ' H' r' st mu') (e : ExtW mu mu' H H') : D.nx σ' H' := h σ' H' mu' R e
/-- one statement, then others -/
theorem PostS.seq {x : Res Flow} {f : Env → Sto → Res Flow} {nx : L2.St → Hp → Prop} (h : PostS C E H0 mu0 (seqR x f) D H mu)
    (w : ∀ r' st' σ' H' mu', Rel C H0 mu0 σ' H' r' st' mu' → ExtW mu mu' H H' → PostS C E H0 mu0 (f r' st') D H' mu' → nx σ' H') : PostS C E H0 mu0 x { D with nx := nx } H mu := by
  cases x with
  | ok fl st =>
    cases fl with
    | next r => exact fun σ' H' mu' R e => w r st σ' H' mu' R e (PostS.mono h e)
    | ret d => exact h
  | exc c st => exact h
  | bad => exact h
theorem PostS.ends {x : Res Flow} {D' : Ends} (h : PostS C E H0 mu0 x D H mu) (e1 : ∀ σ H, D.nx σ H → D'.nx σ H) (e2 : ∀ v H, D.rt v H → D'.rt v H) : PostS C E H0 mu0 x D' H mu := by
  cases x with
  | ok fl st =>
    cases fl with
    | next r => exact fun σ' H' mu' R e => e1 _ _ (h σ' H' mu' R e)
    | ret d => exact fun v H' mu' e s q => e2 _ _ (h v H' mu' e s q)
  | exc c st => exact h
  | bad => exact h
theorem zNil : PSs X [] (rdSs C F W .nil E) := pssImp pss_nil fun D σ H ⟨H0, mu0, r, st, mu, R, h⟩ => by
  unfold execs at h
  exact PostS.next h R .refl
theorem zCons {s : S} {ss : Ss} {t : Stmt} {ts : List Stmt} (h1 : PS X t (rdS C F W s E)) (h2 : PSs X ts (rdSs C F W ss E)) : PSs X (t :: ts) (rdSs C F W (.cons s ss) E) := by
  refine pssImp (pss_cons h1 h2) fun D σ H ⟨H0, mu0, r, st, mu, R, h⟩ => ?_
  unfold execs at h
  exact ⟨H0, mu0, r, st, mu, R, PostS.seq h fun r' st' σ' H' mu' R' e h' => ⟨H0, mu0, r', st', mu', R', h'⟩⟩
theorem zFrz {i : Nat} {ss : Ss} {ts : List Stmt} (h2 : PSs X ts (rdSs C F W ss E)) : PSs X ts (rdSs C F W (.cons (.frz i) ss) E) := by
  refine pssImp (pssFrz h2) fun D σ H ⟨H0, mu0, r, st, mu, R, h⟩ => ?_
  unfold execs exec at h
  cases z : getO r i with
  | none => rw [z] at h; exact h.elim
  | some ds =>
    rw [z] at h
    obtain ⟨a, xs, hs, h0, hm, hx, hq⟩ := R.own z
    have hi : r[i]? = some (.own ds) := by
      unfold getO at z
      split at z
      · next q => cases z; exact q
      · cases z
    refine ⟨a, xs, hx, fun o => ?_⟩
    refine ⟨H0, mu0, _, st, mu, R.frz (o := o) hi hs hx, ?_⟩
    exact PostS.mono h (ExtW.updL hx)
theorem zPass {p : Pos} : PS X (.Pass p) (rdS C F W .pass E) := psImp ps_pass fun D σ H ⟨H0, mu0, r, st, mu, R, h⟩ => by
  unfold exec at h
  exact PostS.next h R .refl
theorem zEx {e : Expr} {c : Rt.E} {p : Pos} (he : PE X e (rdE C F c E)) (hs : swapsWith e none p.line X.env = pure false) : PS X (.Expr e p) (rdS C F W (.ex c) E) := by
  refine psImp (ps_expr he hs) fun D σ H ⟨H0, mu0, r, st, mu, R, h⟩ => ?_
  unfold exec at h
  exact ⟨H0, mu0, r, st, mu, R, PostS.bind R h fun d st1 v H1 mu1 e1 s1 q1 h1 => PostS.next h1 (R.step e1 s1) .refl⟩
theorem zRet {e : Expr} {c : Rt.E} {p : Pos} (he : PE X e (rdE C F c E)) : PS X (.Return (some e) p) (rdS C F W (.ret c) E) := by
  refine psImp (ps_ret he) fun D σ H ⟨H0, mu0, r, st, mu, R, h⟩ => ?_
  unfold exec at h
  exact ⟨H0, mu0, r, st, mu, R, PostS.bind R h fun d st1 v H1 mu1 e1 s1 q1 h1 => h1 v H1 mu1 (R.ext.trans e1) s1 q1⟩
theorem zAsg (g : Good C G F k X E) {i : Nat} {x : Str} {e : Expr} {c : Rt.E} {p p2 : Pos} (hi : G.N[i]? = some x) (hx : Loc X.env.scope x) (hf : X.fn x = true ∨ X.env.scope.names.lookup x = some .local) (he : PE X e (rdE C F c E)) (hs : swapsWith e (some (.Name x p2)) p.line X.env = pure false) :
    PS X (.Assign [.Name x p2] e p) (rdS C F W (.asg i c) E) := by
  refine psImp (ps_set (i := i) (by rw [g.hN]; exact g.nd) (by rw [g.hN]; exact hi) hx he hs hf) fun D σ H ⟨H0, mu0, r, st, mu, R, h⟩ => ?_
  unfold exec at h
  exact ⟨H0, mu0, r, st, mu, R, PostS.bind R h fun d st1 v H1 mu1 e1 s1 q1 h1 => PostS.next h1 ((R.step e1 s1).set i q1) .refl⟩
theorem zAsgL (g : Good C G F k X E) {i : Nat} {x : Str} {es : List Expr} {cs : Es} {p p2 p3 : Pos} (hi : G.N[i]? = some x) (hx : Loc X.env.scope x) (hf : X.fn x = true ∨ X.env.scope.names.lookup x = some .local) (he : PA X es (rdEs C F cs E)) (hl : cs.len ≤ 1000) :
    PS X (.Assign [.Name x p2] (.List es p3) p) (rdS C F W (.asgL i cs) E) := by
  refine psImp (ps_set (i := i) (by rw [g.hN]; exact g.nd) (by rw [g.hN]; exact hi) hx (pe_lst he) rfl hf) fun D σ H ⟨H0, mu0, r, st, mu, R, h⟩ => ?_
  unfold exec at h
  refine ⟨H0, mu0, r, st, mu, R, PostS.bindLen R h fun d st1 vs H1 mu1 len e1 s1 q1 h1 => ?_⟩
  refine ⟨by rw [q1.length, len]; exact small_line hl, fun q hq => ?_⟩
  exact PostS.next h1 ((R.step e1 s1).setOwn i hq q1) (Ext.upd hq).w
theorem zAsgR (g : Good C G F k X E) {i : Nat} {x : Str} {es : List Expr} {b : Expr} {cs : Es} {cb : Rt.E} {p p2 p3 p4 : Pos} (hi : G.N[i]? = some x) (hx : Loc X.env.scope x) (hf : X.fn x = true ∨ X.env.scope.names.lookup x = some .local) (he : PA X es (rdEs C F cs E)) (hl : cs.len ≤ 1000) (hb : PE X b (rdE C F cb E)) :
    PS X (.Assign [.Name x p2] (.BinOp (.List es p3) .Mult b p4) p) (rdS C F W (.asgR i cs cb) E) := by
  refine psImp (ps_set (i := i) (by rw [g.hN]; exact g.nd) (by rw [g.hN]; exact hi) hx (pe_op op_rep (pe_lst he) hb) rfl hf) fun D σ H ⟨H0, mu0, r, st, mu, R, h⟩ => ?_
  unfold exec at h
  -- the value first, then the store
  have h' : Post C (fun _ _ _ d => True) ((evs F cs r st).bind fun ds s => (ev F cb r s).bind fun y s => repD s ds y) H mu (fun (_ : Unit) _ => True) E ∨ True := .inr trivial
  refine ⟨H0, mu0, r, st, mu, R, PostS.bindLen R h fun ds st1 vs H1 mu1 len e1 s1 q1 h1 => ?_⟩
  refine ⟨by rw [q1.length, len]; exact small_line hl, fun q hq => ?_⟩
  have ex : Ext mu1 mu1 H1 (upd H1 q (.lst vs)) := Ext.upd hq
  have s2 := s1.upd (o := .lst vs) hq
  have R2 := (R.step e1 s1).step ex s2
  refine ⟨H0, mu0, r, st1, mu1, R2, PostS.bind R2 (h1.mono ex.w) fun y st2 w H2 mu2 e2 s3 q2 h2 => ?_⟩
  unfold repD at h2
  split at h2
  · split at h2
    · next z =>
      have hp2 : H2 q = some (.lst vs) := e2.keepL q vs upd_same (notin_new s1 hq)
      have hw := Sd.cInt q2
      subst hw
      refine ⟨q, _, vs, rfl, rfl, hp2, by omega, by omega, ?_, fun p' hp' => ?_⟩
      · rw [q1.length]
        refine small_line_mul z.2.2 ?_
        omega
      · exact PostS.next h2 ((R2.step e2 s3).setOwn i hp' (((q1.mono ex).mono e2).rep _)) (Ext.upd hp').w
    · exact h2.elim
  · exact h2.elim
theorem zAsgC (g : Good C G F k X E) {i : Nat} {x : Str} {a b : Expr} {ca cb : Rt.E} {p p2 p4 : Pos} (hi : G.N[i]? = some x) (hx : Loc X.env.scope x) (hf : X.fn x = true ∨ X.env.scope.names.lookup x = some .local) (ha : PE X a (rdE C F ca E)) (hb : PE X b (rdE C F cb E)) :
    PS X (.Assign [.Name x p2] (.BinOp a .Add b p4) p) (rdS C F W (.asgC i ca cb) E) := by
  refine psImp (ps_set (i := i) (by rw [g.hN]; exact g.nd) (by rw [g.hN]; exact hi) hx (pe_op op_catX ha hb) rfl hf) fun D σ H ⟨H0, mu0, r, st, mu, R, h⟩ => ?_
  unfold exec at h
  refine ⟨H0, mu0, r, st, mu, R, PostS.bind R h fun x st1 v H1 mu1 e1 s1 q1 h1 => ?_⟩
  refine ⟨H0, mu0, r, st1, mu1, R.step e1 s1, PostS.bind (R.step e1 s1) h1 fun y st2 w H2 mu2 e2 s2 q2 h2 => ?_⟩
  have q1 := Sd.mono e2 q1
  cases x with
  | lst da =>
    cases y with
    | lst db =>
      simp only [binD] at h2
      split at h2
      · next hz =>
        obtain ⟨a1, xs, rfl, h3, h4⟩ := Sd.cLst q1
        obtain ⟨b1, ys, rfl, h5, h6⟩ := Sd.cLst q2
        refine ⟨a1, b1, xs, ys, rfl, rfl, by rw [g.hK]; exact h3.sq, by rw [g.hK]; exact h5.sq, ?_, fun q hq => ?_⟩
        · rw [h4.length, h6.length]; exact Nat.le_trans hz sizeN_le
        · exact PostS.next h2 (((R.step e1 s1).step e2 s2).setOwn i hq (h4.append h6)) (Ext.upd hq).w
      · exact h2.elim
    | _ => exact h2.elim
  | tup da =>
    cases y with
    | tup db =>
      simp only [binD] at h2
      split at h2
      · exact h2.elim
      · exact h2.elim
    | _ => exact h2.elim
  | int da =>
    cases y with
    | int db => exact h2.elim
    | _ => exact h2.elim
  | _ => cases y <;> exact h2.elim
theorem zUnp (g : Good C G F k X E) {tg : Tg} {t e : Expr} {c : Rt.E} {p : Pos} (hg : PG X t (rdG C tg)) (he : PE X e (rdE C F c E)) (hs : swapsWithSole [t] e p.line X.env = pure false) (hw : swappedStores [t] e X.env = pure none) (h1 : (assignEach [t] X.env).map (·.2) = [assign t X.env]) :
    PS X (.Assign [t] e p) (rdS C F W (.unp tg c) E) := by
  refine psImp (ps_asg he hg hs hw h1) fun D σ H ⟨H0, mu0, r, st, mu, R, h⟩ => ?_
  unfold exec at h
  refine ⟨H0, mu0, r, st, mu, R, PostS.bind R h fun d st1 v H1 mu1 e1 s1 q1 h1 => ?_⟩
  split at h1
  · next r' hb => exact ⟨H0, mu0, r, st1, mu1, d, r', R.step e1 s1, q1, hb, fun σ' R' _ => PostS.next h1 R' .refl⟩
  · exact h1.elim
theorem zApp (g : Good C G F k X E) {i : Nat} {x : Str} {e : Expr} {c : Rt.E} {p p1 p2 p3 : Pos} (hi : G.N[i]? = some x) (hv : Vis X.env.scope x) (he : PE X e (rdE C F c E)) (hp : plainE e = true) (hl : (p2.endLine == p3.line) = true) :
    PS X (.Expr (.Call (.Attribute (.Name x p1) "append" p2) [e] [] p3) p) (rdS C F W (.app i c) E) := by
  have hd := g.dbg x (List.mem_of_getElem? hi)
  have hpe : PE X (.Call (.Attribute (.Name x p1) "append" p2) [e] [] p3) _ := pe_bm PySem.F.plainAttrs_list PySem.F.slot_list_append PySem.F.type_list_append mt_append (pe_var (i := i) (by rw [g.hN]; exact hi) hv hd.1 hd.2) (pa_cons he pa_nil (plain_star hp)) rfl
    (by rw [plain_star hp]; rfl) hl (plain_star hp) rfl
  refine psImp (ps_expr hpe rfl) fun D σ H ⟨H0, mu0, r, st, mu, R, h⟩ => ?_
  unfold exec at h
  cases z : getO r i with
  | none => rw [z] at h; exact h.elim
  | some ds =>
    rw [z] at h
    obtain ⟨a, xs, hs, h0, hm, hx, hq⟩ := R.own z
    have hi' : r[i]? = some (.own ds) := by
      unfold getO at z
      split at z
      · next q => cases z; exact q
      · cases z
    refine ⟨.ref a, hs, .inl ⟨rfl, xs, SqL.of hx⟩, H0, mu0, r, st, mu, R, PostS.bind R h fun d st1 v H1 mu1 e1 s1 q1 h1 => ?_⟩
    split at h1
    · next hlt =>
      have hx1 := e1.keepL _ _ hx hm
      have R1 := R.step e1 s1
      refine ⟨a, xs, v, rfl, rfl, hx1, ?_, ?_⟩
      · rw [hq.length]; exact Nat.lt_of_lt_of_le hlt sizeN_le
      · exact PostS.next h1 (R1.grow hi' hs ((hq.mono e1).append (.cons q1 .nil))) (ExtW.updL hx1)
    · exact h1.elim
/-- x += e (ints) -/
theorem zAug (g : Good C G F k X E) {i : Nat} {x : Str} {e : Expr} {c : Rt.E} {p p2 : Pos} (hi : G.N[i]? = some x) (hx : Loc X.env.scope x) (hf : X.fn x = true ∨ X.env.scope.names.lookup x = some .local) (he : PE X e (rdE C F c E)) :
    PS X (.AugAssign (.Name x p2) .Add e p) (rdS C F W (.aug i c) E) := by
  refine psImp (ps_aug (i := i) (by rw [g.hN]; exact g.nd) (by rw [g.hN]; exact hi) hx he ip_add hf) fun D σ H ⟨H0, mu0, r, st, mu, R, h⟩ => ?_
  unfold exec at h
  split at h
  · next a z =>
    obtain ⟨v, hs, q⟩ := R.val z
    refine ⟨v, hs, H0, mu0, r, st, mu, R, PostS.bind R h fun d st1 w H1 mu1 e1 s1 q1 h1 => ?_⟩
    split at h1
    · cases Sd.cInt q1
      exact ⟨_, _, q.cInt, rfl, PostS.next h1 ((R.step e1 s1).set i (.int _)) .refl⟩
    · exact h1.elim
  · exact h.elim
theorem nodup_at {α : Type} {l : List α} (hN : l.Nodup) {i j : Nat} {x : α} (a : l[i]? = some x) (b : l[j]? = some x) : i = j := by
  obtain ⟨h1, e1⟩ := List.getElem?_eq_some_iff.mp a
  obtain ⟨h2, e2⟩ := List.getElem?_eq_some_iff.mp b
  exact (List.getElem_inj hN).mp (e1.trans e2.symm)
/-- a cell is changed -/
theorem Rel.cellSet (R : Rel C H0 mu0 σ H r st mu) {n : Nat} {a : Addr} {xs ys : List V} {es : List Rt.D} (hn : mu[n]? = some a) (hx : H a = some (.lst xs)) (q : SdA C.K H mu ys es) : Rel C H0 mu0 σ (upd H a (.lst ys)) r (st.set n es) mu := by
  have w := ExtW.updL (mu := mu) (o := .lst ys) hx
  have ha : a ∈ mu := List.mem_of_getElem? hn
  have nl : ∀ b o, H b = some o → (∀ zs, o ≠ .lst zs) → b ≠ a := fun b o h m z => by
    subst z; rw [hx] at h; cases h; exact m xs rfl
  refine ⟨R.len, fun i sl hi => ?_, R.dis, ⟨by rw [List.length_set]; exact R.srel.len, R.srel.nd, fun m b ds' h1 h2 => ?_, fun p hp => ?_⟩, ⟨R.ext.pre, fun b o h m1 m2 => ?_, fun b zs h m => ?_, fun b ps h => ?_, R.ext.new⟩⟩
  · have hq := R.slots i sl hi
    cases sl with
    | no => exact trivial
    | val d =>
      match hs' : σ[i]?, hq with
      | some (some v), hq => exact Sd.monoW w hq
    | own ds' =>
      match hs' : σ[i]?, hq with
      | some (some (.ref b)), ⟨q1, q2, zs, q3, q4⟩ =>
        have nb : b ≠ a := fun z => by subst z; exact q2 ha
        exact ⟨q1, q2, zs, by rw [upd_ne nb]; exact q3, q4.monoW w⟩
  · by_cases e : m = n
    · subst e
      rw [hn] at h1; cases h1
      have hl : m < st.length := by rw [← R.srel.len]; exact (List.getElem?_eq_some_iff.mp hn).1
      rw [List.getElem?_set_self hl] at h2
      cases h2
      exact ⟨ys, upd_same, q.monoW w⟩
    · rw [List.getElem?_set_ne (Ne.symm e)] at h2
      obtain ⟨zs, z1, z2⟩ := R.srel.cel m b ds' h1 h2
      have nb : b ≠ a := fun z => by
        subst z
        exact e (nodup_at R.srel.nd h1 hn)
      exact ⟨zs, by rw [upd_ne nb]; exact z1, z2.monoW w⟩
  · obtain ⟨ps, a1, a2, a3⟩ := R.srel.tabs p hp
    refine ⟨ps, by rw [upd_ne (nl _ _ a1 (fun _ z => by cases z))]; exact a1, a2, fun pos cv hc => ?_⟩
    obtain ⟨c, e1, e2⟩ := a3 pos cv hc
    exact ⟨c, e1, by rw [upd_ne (nl _ _ e2 (fun _ z => by unfold LamX.CodeO at z; cases z))]; exact e2⟩
  · have h' := R.ext.keepN b o h m1 m2
    rw [upd_ne (nl b o h' m1)]; exact h'
  · have h' := R.ext.keepL b zs h m
    have nb : b ≠ a := fun z => by
      subst z
      rw [R.ext.new b ha m] at h; cases h
    rw [upd_ne nb]; exact h'
  · obtain ⟨p', h'⟩ := R.ext.keepT b ps h
    exact ⟨p', by rw [upd_ne (nl b _ h' (fun _ z => by cases z))]; exact h'⟩
/-- x[k] = e: a cell, or an owned list -/
theorem putQ {i : Nat} {kx d : Rt.D} {o kv v : V} (R : Rel C H0 mu0 σ H r st mu) (hs : σ[i]? = some (some o)) (hk : Sd C.K H mu kv kx) (hd : Sd C.K H mu v d) (h : PostS C E H0 mu0 (putD r st i kx d) D H mu) : rSetL o kv v H fun H' => D.nx σ H' := by
  unfold putD at h
  split at h
  · cases hk.cInt
    split at h
    · next z =>
      split at h
      · next j hj =>
        have hq := R.slots i _ z
        rw [hs] at hq
        match o, hq with
        | .ref a, ⟨h0, hm, xs, hx, hd'⟩ =>
          refine ⟨a, xs, _, j, rfl, rfl, hx, by rw [hd'.length]; exact hj, ?_⟩
          exact PostS.next h (R.grow z hs (hd'.set hd j)) (ExtW.updL hx)
      · exact h.elim
    · next n z =>
      split at h
      · next ds hn =>
        split at h
        · next j hj =>
          have hq := R.slots i _ z
          rw [hs] at hq
          obtain ⟨a, ea, hmu⟩ := Sd.cCell hq
          subst ea
          obtain ⟨xs, hx, hd'⟩ := R.srel.cel n a ds hmu hn
          refine ⟨a, xs, _, j, rfl, rfl, hx, by rw [hd'.length]; exact hj, ?_⟩
          exact PostS.next h (R.cellSet hmu hx (hd'.set hd j)) (ExtW.updL hx)
        · exact h.elim
      · exact h.elim
    · exact h.elim
  · exact h.elim
theorem slotB_get (R : Rel C H0 mu0 σ H r st mu) {i : Nat} (h : slotB r i = true) : ∃ v, σ[i]? = some (some v) := by
  unfold slotB at h
  split at h
  · next ds z =>
    have := R.slots i _ z
    match hs : σ[i]?, this with
    | some (some (.ref a)), _ => exact ⟨_, rfl⟩
  · next n z =>
    have := R.slots i _ z
    match hs : σ[i]?, this with
    | some (some v), _ => exact ⟨_, rfl⟩
  · cases h
theorem zSetI (g : Good C G F k X E) {i : Nat} {x : Str} {ix e : Expr} {cx c : Rt.E} {p p1 p2 : Pos} (hi : G.N[i]? = some x) (hv : Vis X.env.scope x) (hx : PE X ix (rdE C F cx E)) (hpx : plainE ix = true) (he : PE X e (rdE C F c E)) :
    PS X (.Assign [.Subscript (.Name x p1) ix p2] e p) (rdS C F W (.setI i cx c) E) := by
  have hd := g.dbg x (List.mem_of_getElem? hi)
  have ha : ∀ v, assign (.Subscript (.Name x p1) ix p2) X.env v = (do
      let ov ← holding [v] (eval (.Name x p1) X.env)
      let iv ← holding [v, ov] (eval ix X.env)
      standAt p2
      holding [v, ov, iv] (setItem ov iv v)
      release [v, ov, iv] []) := by
    intro v
    cases ix <;> first | rfl | cases hpx
  have hs : swapsWithSole [.Subscript (.Name x p1) ix p2] e p.line X.env = pure false := by
    cases e <;> rfl
  have hw : swappedStores [.Subscript (.Name x p1) ix p2] e X.env = pure none := by
    cases e <;> rfl
  refine psImp (ps_asg he (pg_sub (pe_var (i := i) (by rw [g.hN]; exact hi) hv hd.1 hd.2) hx set_list ha) hs hw rfl) fun D σ H ⟨H0, mu0, r, st, mu, R, h⟩ => ?_
  unfold exec at h
  split at h
  · exact h.elim
  · next z =>
    rw [Bool.not_eq_false] at z
    refine ⟨H0, mu0, r, st, mu, R, PostS.bind R h fun d st1 v H1 mu1 e1 s1 q1 h1 => ?_⟩
    have R1 := R.step e1 s1
    obtain ⟨o, ho⟩ := slotB_get R1 z
    refine ⟨o, ho, H0, mu0, r, st1, mu1, R1, PostS.bind R1 h1 fun kx st2 kv H2 mu2 e2 s2 q2 h2 => ?_⟩
    exact putQ (R1.step e2 s2) ho q2 (Sd.mono e2 q1) h2
theorem zIf {t : Expr} {c : Rt.E} {a b : List Stmt} {ca cb : Ss} {p : Pos} (hc : PT X t (rdT C F c E)) (ha : PSs X a (rdSs C F W ca E)) (hb : PSs X b (rdSs C F W cb E)) : PS X (.If t a b p) (rdS C F W (.ifs c ca cb) E) := by
  refine psImp (ps_if hc ha hb) fun D σ H ⟨H0, mu0, r, st, mu, R, h⟩ => ?_
  unfold exec at h
  refine ⟨H0, mu0, r, st, mu, R, PostS.bind R h fun d st1 b' H1 mu1 e1 s1 q1 h1 => ?_⟩
  have e : b' = d := q1
  subst e
  cases b' with
  | true => rw [if_pos rfl] at h1 ⊢; exact ⟨H0, mu0, r, st1, mu1, R.step e1 s1, h1⟩
  | false => rw [if_neg Bool.false_ne_true] at h1 ⊢; exact ⟨H0, mu0, r, st1, mu1, R.step e1 s1, h1⟩
theorem zFor (g : Good C G F k X E) {tg : Tg} {t iter : Expr} {it : Rt.It} {b : List Stmt} {cb : Ss} {p : Pos} (hi : PI X t iter (rdI C F it E)) (hp : plainE iter = true) (hg : PG X t (rdG C tg)) (hb : PSs X b (rdSs C F W cb E)) : PS X (.For t iter b [] p) (rdS C F W (.fors tg it cb) E) := by
  refine psImp (ps_for g.own g.calm hi hg hb (plain_set hp)) fun D σ H ⟨H0, mu0, r, st, mu, R, h⟩ => ?_
  unfold exec at h
  refine ⟨H0, mu0, r, st, mu, R, PostS.bind R h fun ds st1 J H1 mu1 e1 s1 wk h1 => ?_⟩
  generalize hf : (fun (d : Rt.D) (r : Env) (s : Sto) => match bindT tg d r with | some r => execs F W cb r s | none => Res.bad) = f at h1
  refine ⟨fun i m σ' H' => m = ds.length - i ∧ i ≤ ds.length ∧ ∃ r' st' mu', Rel C H0 mu0 σ' H' r' st' mu' ∧ ExtW mu1 mu' H1 H' ∧ PostS C E H0 mu0 (forR f (ds.drop i) r' st') D H' mu',
    ⟨ds.length, by simp, Nat.zero_le _, r, st1, mu1, R.step e1 s1, .refl, by simpa using h1⟩, ?_⟩
  rintro i m σ' H' ⟨rfl, hi, r', st', mu', R', w', h'⟩
  by_cases hlt : i < ds.length
  · right
    have hd : ds[i]? = some ds[i] := List.getElem?_eq_getElem hlt
    obtain ⟨go, yl⟩ := (wk i H' mu' w').2 _ hd
    rw [drop_get hlt] at h'
    unfold forR at h'
    refine ⟨go, fun σ'' H'' => ∃ r' st' mu', Rel C H0 mu0 σ'' H'' r' st' mu' ∧ ExtW mu1 mu' H1 H'' ∧ PostS C E H0 mu0 (forR f (ds.drop (i + 1)) r' st') D H'' mu', fun σ'' H'' z => ⟨ds.length - (i + 1), by omega, rfl, hlt, z⟩, fun x H2 hyl => ?_⟩
    obtain ⟨ex, sx, sdx⟩ := yl x H2 hyl
    have R2 := R'.step (ex mu') (sx mu' st' R'.srel)
    have h2 := h'.mono (ex mu').w
    rw [← hf] at h2
    dsimp only at h2
    split at h2
    · next r2 hb2 =>
      refine ⟨H0, mu0, r', st', mu', ds[i], r2, R2, sdx, hb2, fun σ3 R3 _ => ⟨H0, mu0, r2, st', mu', R3, ?_⟩⟩
      refine PostS.ends (PostS.seq h2 fun r4 st4 σ4 H4 mu4 R4 e4 h4 => ?_) (fun _ _ z => z) (fun _ _ z => z)
      rw [hf] at h4
      exact ⟨r4, st4, mu4, R4, (w'.trans (ex mu').w).trans e4, h4⟩
    · exact h2.elim
  · left
    have hie : i = ds.length := by omega
    refine ⟨(wk i H' mu' w').1 (by omega) (by omega), ?_⟩
    rw [hie, List.drop_length] at h'
    unfold forR at h'
    exact PostS.next h' R' .refl
theorem zWhile (g : Good C G F k X E) {t : Expr} {c : Rt.E} {b : List Stmt} {cb : Ss} {p : Pos} (hc : PT X t (rdT C F c E)) (hb : PSs X b (rdSs C F W cb E)) : PS X (.While t b [] p) (rdS C F W (.whl c cb) E) := by
  refine psImp (ps_while g.own hc hb) fun D σ H ⟨H0, mu0, r, st, mu, R, h⟩ => ?_
  unfold exec at h
  refine ⟨fun m σ' H' => ∃ r' st' mu', Rel C H0 mu0 σ' H' r' st' mu' ∧ PostS C E H0 mu0 (whileR (fun r s => tst (ev F c r s)) (fun r s => execs F W cb r s) m r' st') D H' mu', ⟨W, r, st, mu, R, h⟩, ?_⟩
  rintro m σ' H' ⟨r', st', mu', R', h'⟩
  cases m with
  | zero => unfold whileR at h'; exact h'.elim
  | succ m =>
    unfold whileR at h'
    refine ⟨H0, mu0, r', st', mu', R', PostS.bind R' h' fun d st1 b' H1 mu1 e1 s1 q1 h1 => ?_⟩
    have e : b' = d := q1
    subst e
    cases b' with
    | true =>
      rw [if_pos rfl] at h1 ⊢
      refine ⟨fun σ'' H'' => ∃ r' st' mu', Rel C H0 mu0 σ'' H'' r' st' mu' ∧ PostS C E H0 mu0 (whileR (fun r s => tst (ev F c r s)) (fun r s => execs F W cb r s) m r' st') D H'' mu', fun σ'' H'' z => ⟨m, Nat.lt_succ_self _, z⟩, H0, mu0, r', st1, mu1, R'.step e1 s1, ?_⟩
      exact PostS.ends (PostS.seq h1 fun r4 st4 σ4 H4 mu4 R4 e4 h4 => ⟨r4, st4, mu4, R4, h4⟩) (fun _ _ z => z) (fun _ _ z => z)
    | false =>
      rw [if_neg Bool.false_ne_true] at h1 ⊢
      exact PostS.next h1 (R'.step e1 s1) .refl
theorem zRaise (g : Good C G F k X E) {c : Nat} {x m : Str} {j : Nat} {p p1 p2 p3 : Pos} (hx : G.exn c = some x) (hg : Gl X x) : PS X (.Raise (some (.Call (.Name x p1) [.Constant (.str m) j p2] [] p3)) none p) (rdS C F W (.raise c) E) := by
  obtain ⟨hdb, hm, hq, hk, hs, ht⟩ := g.exf c x hx
  refine psImp (L2N.ps_raise g.calm g.tk (L2N.pmk_own PySem.F.excBase_ValueError hq hm hk (raises_own hs ht) hg hdb)) fun D σ H ⟨H0, mu0, r, st, mu, R, h⟩ => ?_
  unfold exec at h
  exact h H mu R.ext R.srel
theorem psFrz {t : Stmt} {ts : TS} (h : PS X t ts) : PS X t (fun D σ H => ts { D with nx := fun σ' H' => ∃ a xs, H' a = some (.lst xs) ∧ ∀ o, D.nx σ' (upd H' a (.frz o (.lst xs))) } σ H) := by
  refine ⟨fun pins s σ H D I q => thn (h.run pins s σ H _ I q) fun f s1 z => ?_⟩
  cases f with
  | next =>
    obtain ⟨σ', H', I', a, xs, ha, q1⟩ := z
    obtain ⟨o, I2⟩ := I'.lock (u := .lst xs) ha trivial
    exact ⟨σ', _, I2, q1 o⟩
  | ret v => exact z
  | brk => exact z
  | cont => exact z
theorem zAsgLc (g : Good C G F k X E) {i : Nat} {x : Str} {p2 spos : Pos} {tg : Tg} {it : Rt.It} {cond : Oe} {elt : Rt.E} {own : List Nat} {e tg' iter : Expr} {ifs : List Expr} {scope : Scope} {ownL : List (Str × Nat)} {pos : Pos} (hi' : G.N[i]? = some x) (hx : X.env.scope.names.lookup x = some .local)
    (hsw : swapsWith (.ListComp e [⟨tg', iter, ifs, 0⟩] scope pos) (some (.Name x p2)) spos.line X.env = pure true) (hsl : ∀ i, i ∈ tg.slots → i ∈ own) (ho : ownL.map (·.2) = own)
    (hi : PI X tg' iter (rdI C F it E)) (ok : BlkOk X.N X.env.scope scope ownL) (hp : plainE iter = true)
    (hg : ∀ (s : Shared) (H : Hp) (C' : Addr) (cl : List (Str × Addr)) (fp : List Addr), PG (X.blk s H scope (compEnvC scope cl C' X.env) fp) tg' (rdG C tg))
    (ht : ∀ (s : Shared) (H : Hp) (C' : Addr) (cl : List (Str × Addr)) (fp : List Addr), PTs (X.blk s H scope (compEnvC scope cl C' X.env) fp) ifs (rdC C F cond E0))
    (he : ∀ (s : Shared) (H : Hp) (C' : Addr) (cl : List (Str × Addr)) (fp : List Addr), PE (X.blk s H scope (compEnvC scope cl C' X.env) fp) e (rdE C F elt E0)) :
    PS X (.Assign [.Name x p2] (.ListComp e [⟨tg', iter, ifs, 0⟩] scope pos) spos) (rdS C F W (.asg i (.comp tg it cond elt own)) E) := by
  refine psImp (psFrz (ps_setLc (i := i) g.calm (by rw [g.hN]; exact g.nd) (by rw [g.hN]; exact hi') hx hsw hi ok hg ht he (plain_set hp))) fun D σ H ⟨H0, mu0, r, st, mu, R, h⟩ => ?_
  rw [ho]
  unfold exec at h
  refine compQ (Q := fun v H' => D.nx (σ.set i (some v)) H') hsl R (PostS.bind R h fun d st1 v H1 mu1 e1 s1 q1 h1 => ?_) fun a xs H1 ha z => ⟨a, xs, ha, z⟩
  exact PostS.next h1 ((R.step e1 s1).set i q1) .refl
theorem zAsgLc2 (g : Good C G F k X E) {i : Nat} {x : Str} {p2 spos : Pos} {tg tg2 : Tg} {it it2 : Rt.It} {elt : Rt.E} {own own2 : List Nat} {e tg' iter tg2' iter2 : Expr} {scope : Scope} {ownL : List (Str × Nat)} {pos : Pos} (hi' : G.N[i]? = some x) (hx : X.env.scope.names.lookup x = some .local)
    (hsw : swapsWith (.ListComp e [⟨tg', iter, [], 0⟩, ⟨tg2', iter2, [], 0⟩] scope pos) (some (.Name x p2)) spos.line X.env = pure true) (hsl : ∀ i, i ∈ tg.slots → i ∈ own) (hsl2 : ∀ i, i ∈ tg2.slots → i ∈ own2) (hso : ∀ i, i ∈ own2 → i ∈ own) (ho : ownL.map (·.2) = own)
    (hi : PI X tg' iter (rdI C F it E)) (ok : BlkOk X.N X.env.scope scope ownL) (hp : plainE iter = true) (hp2 : plainE iter2 = true)
    (hg : ∀ (s : Shared) (H : Hp) (C' : Addr) (cl : List (Str × Addr)) (fp : List Addr), PG (X.blk s H scope (compEnvC scope cl C' X.env) fp) tg' (rdG C tg))
    (hi2 : ∀ (s : Shared) (H : Hp) (C' : Addr) (cl : List (Str × Addr)) (fp : List Addr), PI (X.blk s H scope (compEnvC scope cl C' X.env) fp) tg2' iter2 (rdI C F it2 E0))
    (hg2 : ∀ (s : Shared) (H : Hp) (C' : Addr) (cl : List (Str × Addr)) (fp : List Addr), PG (X.blk s H scope (compEnvC scope cl C' X.env) fp) tg2' (rdG C tg2))
    (he : ∀ (s : Shared) (H : Hp) (C' : Addr) (cl : List (Str × Addr)) (fp : List Addr), PE (X.blk s H scope (compEnvC scope cl C' X.env) fp) e (rdE C F elt E0)) :
    PS X (.Assign [.Name x p2] (.ListComp e [⟨tg', iter, [], 0⟩, ⟨tg2', iter2, [], 0⟩] scope pos) spos) (rdS C F W (.asg i (.comp2 tg it tg2 it2 elt own own2)) E) := by
  refine psImp (psFrz (ps_setLc2 (i := i) (vs1 := own2) g.calm (by rw [g.hN]; exact g.nd) (by rw [g.hN]; exact hi') hx hsw hi ok (by rw [ho]; exact hso) hg (fun _ _ _ _ _ => ⟨fun _ _ _ H _ I h => wpAny_tests_nil ⟨H, I, h⟩⟩) hi2 hg2 (fun _ _ _ _ _ => ⟨fun _ _ _ H _ I h => wpAny_tests_nil ⟨H, I, h⟩⟩) he (plain_set hp) (fun env x => plain_set hp2 x))) fun D σ H ⟨H0, mu0, r, st, mu, R, h⟩ => ?_
  rw [ho]
  unfold exec at h
  refine comp2Q (Q := fun v H' => D.nx (σ.set i (some v)) H') hsl hsl2 R (PostS.bind R h fun d st1 v H1 mu1 e1 s1 q1 h1 => ?_) fun a xs H1 ha z => ⟨a, xs, ha, z⟩
  exact PostS.next h1 ((R.step e1 s1).set i q1) .refl
theorem zPar2 (g : Good C G F k X E) {i j : Nat} {x y : Str} {a b : Expr} {cs : Es} {px py pt pt2 p : Pos} {kt k2 : Nat} (hi : G.N[i]? = some x) (hj : G.N[j]? = some y) (hij : i ≠ j) (hx : X.env.scope.names.lookup x = some .local) (hy : X.env.scope.names.lookup y = some .local) (ha : PA X [a, b] (rdEs C F cs E))
    (hw : swappedStores [.Tuple [.Name x px, .Name y py] kt pt] (.Tuple [a, b] k2 pt2) X.env = pure (some [x, y])) : PS X (.Assign [.Tuple [.Name x px, .Name y py] kt pt] (.Tuple [a, b] k2 pt2) p) (rdS C F W (.par [i, j] cs) E) := by
  refine psImp (ps_par (i := i) (j := j) g.calm (by rw [g.hN]; exact g.nd) (by rw [g.hN]; exact hi) (by rw [g.hN]; exact hj) hij hx hy ha hw rfl) fun D σ H ⟨H0, mu0, r, st, mu, R, h⟩ => ?_
  unfold exec at h
  refine ⟨H0, mu0, r, st, mu, R, PostS.bind R h fun ds st1 vs H1 mu1 e1 s1 q1 h1 => ?_⟩
  split at h1
  · next r' hb =>
    match ds, hb with
    | [d1, d2], hb =>
      obtain ⟨v1, v2, rfl, q2, q3⟩ := SdA.two q1
      simp only [setAll] at hb
      cases hb
      exact ⟨v1, v2, rfl, PostS.next h1 (((R.step e1 s1).set i q2).set j q3) .refl⟩
    | [], hb => simp [setAll] at hb
    | [_], hb => simp [setAll] at hb
    | _ :: _ :: _ :: _, hb => simp [setAll] at hb
  · exact h1.elim
theorem ps_par3 {i j l : Nat} {x y z : Str} {a b c : Expr} {ta : TA} {px py pz pt pos : Pos} {kt k2 : Nat} {pt2 : Pos} (hc : X.calm = true) (hN : X.N.Nodup) (hi : X.N[i]? = some x) (hj : X.N[j]? = some y) (hl : X.N[l]? = some z) (hij : i ≠ j) (hil : i ≠ l) (hjl : j ≠ l)
    (hx : X.env.scope.names.lookup x = some .local) (hy : X.env.scope.names.lookup y = some .local) (hz : X.env.scope.names.lookup z = some .local) (ha : PA X [a, b, c] ta)
    (hw : swappedStores [.Tuple [.Name x px, .Name y py, .Name z pz] kt pt] (.Tuple [a, b, c] k2 pt2) X.env = pure (some [x, y, z]))
    (hs : swapsWithSole [.Tuple [.Name x px, .Name y py, .Name z pz] kt pt] (.Tuple [a, b, c] k2 pt2) pos.line X.env = pure false := by rfl) :
    PS X (.Assign [.Tuple [.Name x px, .Name y py, .Name z pz] kt pt] (.Tuple [a, b, c] k2 pt2) pos) (fun D σ H => ta σ H fun vs H1 => ∃ v w u, vs = [v, w, u] ∧ D.nx (((σ.set i (some v)).set j (some w)).set l (some u)) H1) := by
  refine ⟨fun pins s σ H D I h => ?_⟩
  rw [exec_Assign_arm]
  refine wpAny_bind (wpAny_standAt ?_)
  rw [hs]
  refine wpAny_bind (wpAny_pure ?_)
  rw [if_neg (by decide)]
  refine wpAny_bind (Tuple_ (thn (ha.run _ pins s σ H _ I h) fun us s1 ⟨vs, H1, I1, r1, q1⟩ => ?_))
  obtain ⟨v, w, u, e1, q1⟩ := q1
  subst e1
  obtain ⟨u1, u2, u3, rfl, rv, rw', ru⟩ : ∃ u1 u2 u3, us = [u1, u2, u3] ∧ RelV v u1 ∧ RelV w u2 ∧ RelV u u3 := by
    cases r1 with
    | cons p q =>
      cases q with
      | cons p' q' =>
        cases q' with
        | cons p2 q2 =>
          cases q2
          exact ⟨_, _, _, rfl, p, p', p2⟩
  refine wpAny_newObj_type ?_ (by show 3 ≤ sizeLine; decide)
  have I2 : L2.Inv X pins σ H1 { s1 with heap := s1.heap.push { cls := .type "tuple", data := .seq [u1, u2, u3].toArray } } := I1.kept (t' := s1.toks) fun b o e => Heap.get?_push_of_some _ e
  rw [hw]
  refine wpAny_bind (wpAny_pure ?_)
  show wpAny (model X.prog X.w) X.A (do rule "assign.swapped-stores"; let items ← unpackItems (.ref s1.heap.objs.size) 3 none; assignInOrder [fun v => bindName X.env z v, fun v => bindName X.env y v, fun v => bindName X.env x v] items.reverse; pure PySem.Flow.next) _ _ _
  refine wpAny_bind (wpAny_rule (wpAny_bind (unpackItems_tuple (items := #[u1, u2, u3]) (I.ok.hd hc) (IsTup.new s1.heap _) fun h' hx' => ?_)))
  have I3 := I2.kept (h' := h') (t' := s1.toks) fun b o e => hx' b o (Nat.ne_of_lt (Heap.lt_size e)) e
  show wpAny _ _ (assignInOrder [fun v => bindName X.env z v, fun v => bindName X.env y v, fun v => bindName X.env x v] [u3, u2, u1] >>= fun _ => pure PySem.Flow.next) _ _ _
  refine wpAny_bind (assignInOrder_cons (wpAny_bindName (store_ok I3 hN hl (.inl hz) ru (fun s2 I4 => ?_) (.inr hz))))
  refine assignInOrder_cons (wpAny_bindName (store_ok I4 hN hj (.inl hy) rw' (fun s3 I5 => ?_) (.inr hy)))
  refine assignInOrder_cons (wpAny_bindName (store_ok I5 hN hi (.inl hx) rv (fun s4 I6 => assignInOrder_nil (wpAny_pure ?_)) (.inr hx)))
  have e : (((σ.set l (some u)).set j (some w)).set i (some v)) = (((σ.set i (some v)).set j (some w)).set l (some u)) := by
    rw [List.set_comm _ _ (Ne.symm hij), List.set_comm (some u) (some v) (Ne.symm hil), List.set_comm (some u) (some w) (Ne.symm hjl)]
  rw [e] at I6
  exact ⟨_, H1, I6, q1⟩
theorem zPar3 (g : Good C G F k X E) {i j l : Nat} {x y z : Str} {a b c : Expr} {cs : Es} {px py pz pt pt2 p : Pos} {kt k2 : Nat} (hi : G.N[i]? = some x) (hj : G.N[j]? = some y) (hl : G.N[l]? = some z) (hij : i ≠ j) (hil : i ≠ l) (hjl : j ≠ l)
    (hx : X.env.scope.names.lookup x = some .local) (hy : X.env.scope.names.lookup y = some .local) (hz : X.env.scope.names.lookup z = some .local) (ha : PA X [a, b, c] (rdEs C F cs E))
    (hw : swappedStores [.Tuple [.Name x px, .Name y py, .Name z pz] kt pt] (.Tuple [a, b, c] k2 pt2) X.env = pure (some [x, y, z])) : PS X (.Assign [.Tuple [.Name x px, .Name y py, .Name z pz] kt pt] (.Tuple [a, b, c] k2 pt2) p) (rdS C F W (.par [i, j, l] cs) E) := by
  refine psImp (ps_par3 (i := i) (j := j) (l := l) g.calm (by rw [g.hN]; exact g.nd) (by rw [g.hN]; exact hi) (by rw [g.hN]; exact hj) (by rw [g.hN]; exact hl) hij hil hjl hx hy hz ha hw rfl) fun D σ H ⟨H0, mu0, r, st, mu, R, h⟩ => ?_
  unfold exec at h
  refine ⟨H0, mu0, r, st, mu, R, PostS.bind R h fun ds st1 vs H1 mu1 e1 s1 q1 h1 => ?_⟩
  split at h1
  · next r' hb =>
    match ds, hb with
    | [d1, d2, d3], hb =>
      cases q1 with
      | cons q0 q1 =>
        obtain ⟨v1, v2, rfl, q2, q3⟩ := SdA.two q1
        simp only [setAll] at hb
        cases hb
        exact ⟨_, v1, v2, rfl, PostS.next h1 ((((R.step e1 s1).set i q0).set j q2).set l q3) .refl⟩
    | [], hb => simp [setAll] at hb
    | [_], hb => simp [setAll] at hb
    | [_, _], hb => simp [setAll] at hb
    | _ :: _ :: _ :: _ :: _, hb => simp [setAll] at hb
  · exact h1.elim
end
end Rt
namespace Rt
open PySem PySem.Spec PyProof.Rows L2
theorem slot_set {r : Env} {i : Nat} {ds : List D} {sl : Slot} (h : r[i]? = some sl) : slotB (r.set i (.own ds)) i = true := by
  unfold slotB
  rw [List.getElem?_set_self (List.getElem?_eq_some_iff.mp h).1]
theorem putD_slot {r r' : Env} {s s' : Sto} {i : Nat} {x d : D} (h : putD r s i x d = .ok (.next r') s') : slotB r' i = true := by
  unfold putD at h
  split at h
  · split at h
    · next ds hr =>
      split at h
      · cases h; exact slot_set hr
      · cases h
    · next n hr =>
      split at h
      · split at h
        · cases h
          unfold slotB
          rw [hr]
        · cases h
      · cases h
    · cases h
  · cases h
section
variable {C : Cn} {G : Gam} {F : Nat → List D → Sto → Res D} {W : Nat} {k : Nat} {X : Cx} {E : XK} {H0 H H1 : Hp} {mu0 mu mu1 : List Addr} {σ : L2.St} {r : Env} {st : Sto} {D : Ends}
theorem PostS.seqE {x : Res Flow} {f : Env → Sto → Res Flow} {nx : L2.St → Hp → Prop} (h : PostS C E H0 mu0 (seqR x f) D H mu)
    (w : ∀ r' st' σ' H' mu', x = .ok (.next r') st' → Rel C H0 mu0 σ' H' r' st' mu' → ExtW mu mu' H H' → PostS C E H0 mu0 (f r' st') D H' mu' → nx σ' H') : PostS C E H0 mu0 x { D with nx := nx } H mu := by
  cases x with
  | ok fl st =>
    cases fl with
    | next r => exact fun σ' H' mu' R e => w r st σ' H' mu' rfl R e (PostS.mono h e)
    | ret d => exact h
  | exc c st => exact h
  | bad => exact h
theorem sub_assign {o ix : Expr} {p2 : Pos} {env : PySem.Env} (hpx : plainE ix = true) : ∀ v, assign (.Subscript o ix p2) env v = (do
      let ov ← holding [v] (eval o env)
      let iv ← holding [v, ov] (eval ix env)
      standAt p2
      holding [v, ov, iv] (setItem ov iv v)
      release [v, ov, iv] []) := by
  intro v
  cases ix <;> first | rfl | cases hpx
theorem zSetI2 (g : Good C G F k X E) {i : Nat} {x : Str} {ix iy e f : Expr} {cx cy c cf : Rt.E} {p p1 p2 p3 p4 pt pt2 : Pos} {kt k2 : Nat} (hi : G.N[i]? = some x) (hv : Vis X.env.scope x) (hx : PE X ix (rdE C F cx E)) (hpx : plainE ix = true) (hy : PE X iy (rdE C F cy E)) (hpy : plainE iy = true) (hes : PA X [e, f] (rdEs C F (.cons c (.cons cf .nil)) E)) :
    PS X (.Assign [.Tuple [.Subscript (.Name x p1) ix p2, .Subscript (.Name x p3) iy p4] kt pt] (.Tuple [e, f] k2 pt2) p) (rdS C F W (.setI2 i cx cy c cf) E) := by
  have hd := g.dbg x (List.mem_of_getElem? hi)
  have hw : swappedStores [.Tuple [.Subscript (.Name x p1) ix p2, .Subscript (.Name x p3) iy p4] kt pt] (.Tuple [e, f] k2 pt2) X.env = pure none := by
    unfold swappedStores
    simp
  have hpg := pg_tup (pos := pt) (k := kt) g.calm (pgs_cons (pg_sub (pos := p2) (pe_var (pos := p1) (i := i) (by rw [g.hN]; exact hi) hv hd.1 hd.2) hx set_list (sub_assign hpx)) (pgs_cons (pg_sub (pos := p4) (pe_var (pos := p3) (i := i) (by rw [g.hN]; exact hi) hv hd.1 hd.2) hy set_list (sub_assign hpy)) pgs_nil))
  refine psImp (ps_asg (sTup hes (show (2 : Nat) ≤ 1000 by decide)) hpg rfl hw rfl) fun D σ H ⟨H0, mu0, r, st, mu, R, h⟩ => ?_
  unfold exec at h
  split at h
  · exact h.elim
  · next z =>
    rw [Bool.not_eq_false] at z
    have e0 : ((ev F c r st).bind fun d s => (ev F cf r s).bind fun d2 s => (ev F cx r s).bind fun k s => seqR (putD r s i k d) fun r s => (ev F cy r s).bind fun k2 s => putD r s i k2 d2) =
        (ev F (.tup (.cons c (.cons cf .nil))) r st).bind fun t s => match t with
          | .tup [d, d2] => (ev F cx r s).bind fun k s => seqR (putD r s i k d) fun r s => (ev F cy r s).bind fun k2 s => putD r s i k2 d2
          | _ => .bad := by
      simp only [ev, evs]
      cases ev F c r st with
      | ok d s1 =>
        simp only [Res.bind_ok]
        cases ev F cf r s1 <;> rfl
      | exc a b => rfl
      | bad => rfl
    rw [e0] at h
    refine ⟨H0, mu0, r, st, mu, R, PostS.bind R h fun dt st1 v H1 mu1 e1 s1 q1 h1 => ?_⟩
    have R1 := R.step e1 s1
    split at h1
    · next d d2 =>
      obtain ⟨a, xs, rfl, sq, sa⟩ := Sd.cTup q1
      obtain ⟨v1, v2, rfl, sd1, sd2⟩ := sa.two
      rw [← g.hK] at sq
      obtain ⟨o, ho⟩ := slotB_get R1 z
      refine ⟨a, [v1, v2], rfl, sq, rfl, v1, [v2], rfl, o, ho, H0, mu0, r, st1, mu1, R1, PostS.bind R1 h1 fun kx st2 kv H2 mu2 e2 s2 q2 h2 => ?_⟩
      have R2 := R1.step e2 s2
      refine putQ (D := { D with nx := fun σ' H' => gCons (gSub (tVar i) (rdE C F cy E) rSetL) gNil [v2] σ' H' D.nx }) R2 ho q2 (Sd.mono e2 sd1) (PostS.seqE h2 fun r' st' σ' H' mu' hp R' ew h3 => ?_)
      obtain ⟨o', ho'⟩ := slotB_get R' (putD_slot hp)
      refine ⟨v2, [], rfl, o', ho', H0, mu0, r', st', mu', R', PostS.bind R' h3 fun kx' st3 kv' H3 mu3 e3 s3 q3 h4 => ?_⟩
      have := putQ (R'.step e3 s3) ho' q3 (Sd.mono e3 (Sd.monoW ew (Sd.mono e2 sd2))) (PostS.ends (D' := { D with nx := fun σ' H' => gNil [] σ' H' D.nx }) h4 (fun σ H q => ⟨rfl, q⟩) (fun _ _ q => q))
      exact this
    · exact h1.elim
end
end Rt
set_option maxHeartbeats 4000000
namespace Rt
open PySem PySem.Spec PyProof.Rows L2
section
variable {C : Cn} {G : Gam} {F : Nat → List D → Sto → Res D} {W : Nat} {k : Nat} {X : Cx} {E : XK}
theorem zAsgO (g : Good C G F k X E) {i : Nat} {x : Str} {p2 spos : Pos} {tg : Tg} {it : Rt.It} {cond : Oe} {elt : Rt.E} {own : List Nat} {e tg' iter : Expr} {ifs : List Expr} {scope : Scope} {ownL : List (Str × Nat)} {pos : Pos} (hi' : G.N[i]? = some x) (hx : X.env.scope.names.lookup x = some .local)
    (hsw : swapsWith (.ListComp e [⟨tg', iter, ifs, 0⟩] scope pos) (some (.Name x p2)) spos.line X.env = pure true) (hsl : ∀ i, i ∈ tg.slots → i ∈ own) (ho : ownL.map (·.2) = own)
    (hi : PI X tg' iter (rdI C F it E)) (ok : BlkOk X.N X.env.scope scope ownL) (hp : plainE iter = true)
    (hg : ∀ (s : Shared) (H : Hp) (C' : Addr) (cl : List (Str × Addr)) (fp : List Addr), PG (X.blk s H scope (compEnvC scope cl C' X.env) fp) tg' (rdG C tg))
    (ht : ∀ (s : Shared) (H : Hp) (C' : Addr) (cl : List (Str × Addr)) (fp : List Addr), PTs (X.blk s H scope (compEnvC scope cl C' X.env) fp) ifs (rdC C F cond E0))
    (he : ∀ (s : Shared) (H : Hp) (C' : Addr) (cl : List (Str × Addr)) (fp : List Addr), PE (X.blk s H scope (compEnvC scope cl C' X.env) fp) e (rdE C F elt E0)) :
    PS X (.Assign [.Name x p2] (.ListComp e [⟨tg', iter, ifs, 0⟩] scope pos) spos) (rdS C F W (.asgO i (.comp tg it cond elt own)) E) := by
  refine psImp (ps_setLc (i := i) g.calm (by rw [g.hN]; exact g.nd) (by rw [g.hN]; exact hi') hx hsw hi ok hg ht he (plain_set hp)) fun D σ H ⟨H0, mu0, r, st, mu, R, h⟩ => ?_
  rw [ho]
  unfold exec at h
  refine compA hsl R (fun z => by rw [z] at h; exact h) (fun c s z H' mu' e q => by rw [z] at h; exact h H' mu' (R.ext.trans e) q) fun st1 H1 mu1 Dl H' mu' st' acc accD e1 s1 hD A z => ?_
  rw [z] at h
  simp only [Res.bind_ok] at h
  exact PostS.next h ((R.step e1 s1).ownAt i hD A.ext A.rel A.at_ A.out A.sd) (e1.trans A.ext).w
theorem zParA (g : Good C G F k X E) {i j : Nat} {x y : Str} {a : Expr} {c : Rt.E} {px py pt pt2 pl p : Pos} {kt k2 : Nat} (hi : G.N[i]? = some x) (hj : G.N[j]? = some y) (hij : i ≠ j) (hx : X.env.scope.names.lookup x = some .local) (hy : X.env.scope.names.lookup y = some .local) (ha : PE X a (rdE C F c E)) (hpa : plainE a = true)
    (hw : swappedStores [.Tuple [.Name x px, .Name y py] kt pt] (.Tuple [a, .List [] pl] k2 pt2) X.env = pure (some [x, y])) : PS X (.Assign [.Tuple [.Name x px, .Name y py] kt pt] (.Tuple [a, .List [] pl] k2 pt2) p) (rdS C F W (.parA i j c) E) := by
  refine psImp (ps_par (i := i) (j := j) g.calm (by rw [g.hN]; exact g.nd) (by rw [g.hN]; exact hi) (by rw [g.hN]; exact hj) hij hx hy (pa_cons ha (pa_cons (pe_lst pa_nil) pa_nil (plain_star rfl)) (plain_star hpa)) hw rfl) fun D σ H ⟨H0, mu0, r, st, mu, R, h⟩ => ?_
  unfold exec at h
  refine ⟨H0, mu0, r, st, mu, R, PostS.bind R h fun d st1 v H1 mu1 e1 s1 q1 h1 => ⟨Nat.zero_le _, fun q hq => ⟨v, .ref q, rfl, ?_⟩⟩⟩
  exact PostS.next h1 (((R.step e1 s1).set i q1).setOwn j hq .nil) (Ext.upd hq).w
theorem zParB (g : Good C G F k X E) {i j : Nat} {x y : Str} {a : Expr} {c : Rt.E} {px py pt pt2 pl p : Pos} {kt k2 : Nat} (hi : G.N[i]? = some x) (hj : G.N[j]? = some y) (hij : i ≠ j) (hx : X.env.scope.names.lookup x = some .local) (hy : X.env.scope.names.lookup y = some .local) (ha : PE X a (rdE C F c E)) (hpa : plainE a = true)
    (hw : swappedStores [.Tuple [.Name x px, .Name y py] kt pt] (.Tuple [.List [] pl, a] k2 pt2) X.env = pure (some [x, y])) : PS X (.Assign [.Tuple [.Name x px, .Name y py] kt pt] (.Tuple [.List [] pl, a] k2 pt2) p) (rdS C F W (.parB i j c) E) := by
  refine psImp (ps_par (i := i) (j := j) g.calm (by rw [g.hN]; exact g.nd) (by rw [g.hN]; exact hi) (by rw [g.hN]; exact hj) hij hx hy (pa_cons (pe_lst pa_nil) (pa_cons ha pa_nil (plain_star hpa)) (plain_star rfl)) hw rfl) fun D σ H ⟨H0, mu0, r, st, mu, R, h⟩ => ?_
  unfold exec at h
  refine ⟨Nat.zero_le _, fun q hq => ?_⟩
  have ex : Ext mu mu H (upd H q (.lst [])) := Ext.upd hq
  have s0 := R.srel.upd (o := .lst []) hq
  refine ⟨H0, mu0, r, st, mu, R.step ex s0, PostS.bind (R.step ex s0) (h.mono ex.w) fun d st1 v H1 mu1 e1 s1 q1 h1 => ⟨.ref q, v, rfl, ?_⟩⟩
  have hx1 : H1 q = some (.lst []) := e1.keepL q [] upd_same (notin_new R.srel hq)
  exact PostS.next h1 ((R.ownAt i hq (ex.trans e1) s1 hx1 (e1.notin upd_same (notin_new R.srel hq)) .nil).set j q1) .refl
/-- .. names among them that are cells -/
theorem zParC (g : Good C G F k X E) {i j : Nat} {x y : Str} {a : Expr} {c : Rt.E} {px py pt pt2 pl p : Pos} {kt k2 : Nat} (hi : G.N[i]? = some x) (hj : G.N[j]? = some y) (hx : Loc X.env.scope x ∧ (X.fn x = true ∨ X.env.scope.names.lookup x = some .local)) (hy : Loc X.env.scope y ∧ (X.fn y = true ∨ X.env.scope.names.lookup y = some .local)) (ha : PE X a (rdE C F c E)) (hpa : plainE a = true)
    (hw : swappedStores [.Tuple [.Name x px, .Name y py] kt pt] (.Tuple [a, .List [] pl] k2 pt2) X.env = pure none) : PS X (.Assign [.Tuple [.Name x px, .Name y py] kt pt] (.Tuple [a, .List [] pl] k2 pt2) p) (rdS C F W (.parA i j c) E) := by
  have hpg := pg_tup (X := X) (n := 2) (pos := pt) (k := kt) g.calm (pgs_cons (pg_name (pos := px) (i := i) (by rw [g.hN]; exact g.nd) (by rw [g.hN]; exact hi) hx.1 hx.2) (pgs_cons (pg_name (pos := py) (i := j) (by rw [g.hN]; exact g.nd) (by rw [g.hN]; exact hj) hy.1 hy.2) pgs_nil))
  refine psImp (ps_asg (pe_tup (pa_cons ha (pa_cons (pe_lst pa_nil) pa_nil (plain_star rfl)) (plain_star hpa))) hpg rfl hw rfl) fun D σ H ⟨H0, mu0, r, st, mu, R, h⟩ => ?_
  unfold exec at h
  refine ⟨H0, mu0, r, st, mu, R, PostS.bind R h fun d st1 v H1 mu1 e1 s1 q1 h1 => ⟨Nat.zero_le _, fun q hq => ⟨small_line (show (2 : Nat) ≤ 1000 by decide), fun t ht => ?_⟩⟩⟩
  refine ⟨t, [v, .ref q], rfl, .inl (.inl upd_same), rfl, v, [.ref q], rfl, .ref q, [], rfl, rfl, ?_⟩
  have R2 := ((R.step e1 s1).set i q1).setOwn j hq .nil
  exact PostS.next h1 (R2.step (Ext.upd ht) (R2.srel.upd ht)) ((Ext.upd hq).trans (Ext.upd ht)).w
end
end Rt
set_option maxHeartbeats 2000000
namespace Rt
open PySem PySem.Spec PyProof.Rows L2 LamX
/-- tables stay tables -/
def TabK (H H' : Hp) : Prop := ∀ b ps, H b = some (.tbl ps) → ∃ ps', H' b = some (.tbl ps')
section
variable {X : Cx} {pins : List (Addr × Obj)} {σ : L2.St} {H : Hp} {s : Shared}
theorem lam_make3 {T : List (Addr × Str)} {c P : Addr} {params : Arguments} {body : Expr} {scope : Scope} {pos : Pos} {E : Value → Shared → Prop} {Q : Value → Shared → Prop} (I : Inv X pins σ H s) (TB : TabB X.base X.mg c P) (hcode : X.env.code = .ref c)
    (hm : (P, X.env.qual ++ "<lambda>") ∈ T) (hu : ∀ p ∈ T, p.1 = P → p.2 = X.env.qual ++ "<lambda>") (hT : Tabs T H) (hdef : defaultsOf params X.env = ([], [])) (hfree : ∀ y ∈ scope.names, y.2 = .free → ∃ c, X.env.cells.lookup y.1 = some c)
    (h : ∀ (f c' : Addr) (pm ctv : Value) (H1 : Hp) (s' : Shared), Inv X pins σ H1 s' → ExtN H H1 → TabK H H1 → Tabs T H1 →
      s'.heap.get? f = some (PySem.W.kla_obj "<lambda>" (X.env.qual ++ "<lambda>") params body scope (cloFrom X.env.cells scope.names []) pm c' ctv) → H1 f = none → f ∉ frs X.stack → H1 c' = some (CodeO c' (X.env.qual ++ "<lambda>")) → Q (.ref f) s') :
    wpAny (model X.prog X.w) X.A (eval (.Lambda params body scope pos) X.env) Q E s := by
  obtain ⟨ps, hP, ht, ha⟩ := hT _ hm
  have bP : s.heap.BuiltinsAt X.mg P := TB.bm.keeps I.bk
  have hP' : s.heap.get? P = some { cls := .none, data := .fields ps } := I.hok P _ hP
  have nofr : ∀ f, s.heap.objs.size ≤ f → f ∉ frs X.stack := fun f hf z => by
    rcases List.mem_cons.mp (I.stkSub _ z) with e | e
    · have h1 := I.lt
      rw [← e] at h1
      exact Nat.lt_irrefl _ (Nat.lt_of_lt_of_le h1 hf)
    · exact I.nofs hf e
  refine PySem.W.kla_eval hdef ?_
  cases hc : codeAmong pos ps.toList with
  | some cv =>
    obtain ⟨c', e, hco⟩ := ha pos cv hc
    subst e
    refine PySem.W.kla_makeFunctionHit (mg := X.mg) (c := c) (P := P) (ps := ps) (closure_ok hfree) I.ok.glob (I.mod.glob.keeps I.bk) hcode (TB.code.keeps I.bk) hP' ht hc bP fun ctv h' tk hx hsz => ?_
    have I1 : Inv X pins σ H { s with heap := h'.push (PySem.W.kla_obj "<lambda>" (X.env.qual ++ "<lambda>") params body scope (cloFrom X.env.cells scope.names []) ((X.mg "__name__").getD .none) c' ctv), toks := tk } := I.kept fun b o e => Heap.get?_push_of_some _ (hx b o e)
    exact h h'.objs.size c' ((X.mg "__name__").getD .none) ctv H _ I1 (ExtN.refl H) (fun b ps e => ⟨ps, e⟩) hT (Heap.get?_push_size _ rfl) (I.hok.fresh hsz) (nofr _ hsz) hco
  | none =>
    refine PySem.W.kla_makeFunction (mg := X.mg) (c := c) (P := P) (ps := ps) (closure_ok hfree) I.ok.glob (I.mod.glob.keeps I.bk) hcode (TB.code.keeps I.bk) hP' ht hc TB.gP bP fun c' ctv h' tk hx hge hlt hrec htb => ?_
    obtain ⟨c2, oc, vs, t, e2, hoc, hd, hv⟩ := hrec
    cases e2
    have hsz : s.heap.objs.size ≤ h'.objs.size := Nat.le_trans hge (Nat.le_of_lt hlt)
    have nC : H c' = none := I.hok.fresh hge
    generalize hH1 : upd (upd H P (.tbl (ps ++ #[rawInt pos.line, rawInt pos.col, .ref c']))) c' (CodeO c' (X.env.qual ++ "<lambda>")) = H1
    have at_ : ∀ b, b ≠ c' → b ≠ P → H1 b = H b := fun b n1 n2 => by rw [← hH1, upd_ne n1, upd_ne n2]
    have atC : H1 c' = some (CodeO c' (X.env.qual ++ "<lambda>")) := by rw [← hH1]; exact upd_same
    have atP : H1 P = some (.tbl (ps ++ #[rawInt pos.line, rawInt pos.col, .ref c'])) := by rw [← hH1, upd_ne (ne_of_none hP nC), upd_same]
    have I1 := inv_table (t' := tk) (more := #[rawInt pos.line, rawInt pos.col, .ref c']) (h' := h'.push (PySem.W.kla_obj "<lambda>" (X.env.qual ++ "<lambda>") params body scope (cloFrom X.env.cells scope.names []) ((X.mg "__name__").getD .none) c' ctv)) I hP
      (fun b o hb e => Heap.get?_push_of_some _ (hx b o hb e)) (Heap.get?_push_of_some _ htb) hge ⟨oc, vs, t, Heap.get?_push_of_some _ hoc, hd, hv⟩
    rw [hH1] at I1
    have hE : ExtN H H1 := fun b o e n => by
      rw [at_ b (ne_of_none e nC) (fun z => n ps (Option.some.inj (e.symm.trans (by rw [z]; exact hP))))]
      exact e
    have hK : TabK H H1 := fun b qs e => by
      by_cases hb : b = P
      · rw [hb]; exact ⟨_, atP⟩
      · rw [at_ b (ne_of_none e nC) hb]; exact ⟨qs, e⟩
    have eL : (ps ++ #[rawInt pos.line, rawInt pos.col, .ref c']).toList = ps.toList ++ [rawInt pos.line, rawInt pos.col, .ref c'] := by simp
    refine h h'.objs.size c' ((X.mg "__name__").getD .none) ctv H1 _ I1 hE hK (fun p hp => ?_) (Heap.get?_push_size _ rfl) ?_ (nofr _ hsz) atC
    · by_cases hb : p.1 = P
      · rw [hu p hp hb, hb]
        refine ⟨_, atP, by rw [eL]; exact PySem.TriplesOk_snoc _ _ _ _ ht, fun p' cv hcv => ?_⟩
        rw [eL] at hcv
        rcases among_app _ ht hcv with z | z
        · obtain ⟨c0, e1, e2⟩ := ha p' cv z
          exact ⟨c0, e1, hE _ _ e2 codeO_ne⟩
        · exact ⟨c', z, atC⟩
      · obtain ⟨ps', a1, a2, a3⟩ := hT p hp
        refine ⟨ps', by rw [at_ _ (ne_of_none a1 nC) hb]; exact a1, a2, fun p' cv hcv => ?_⟩
        obtain ⟨c0, e1, e2⟩ := a3 p' cv hcv
        exact ⟨c0, e1, hE _ _ e2 codeO_ne⟩
    · have n2 : h'.objs.size ≠ P := Nat.ne_of_gt (Nat.lt_of_lt_of_le (Heap.lt_size hP') hsz)
      rw [at_ _ (Nat.ne_of_gt hlt) n2]
      exact I.hok.fresh hsz
end
/-- the lambda's body: what it lets out has the context None -/
def lamCxN (X : Cx) (A : Around) (outer : List PySem.Env) (s : Shared) (H : Hp) (E : XK) (scope : Scope) (f c' : Addr) : Cx :=
  (lamCx X A outer s H E scope f c').tr [] (fun e s' => wpAny (model X.prog X.w) (A.deeper (lamEnv X scope s.heap.objs.size f c')) (leaving (lamEnv X scope s.heap.objs.size f c') e)
    (fun _ s'' => L2N.CX X.prog X.w outer H s E e s'') (fun e' s'' => L2N.CX X.prog X.w outer H s E e' s'') s')
section
variable {X : Cx} {pins : List (Addr × Obj)} {σ : L2.St} {H : Hp} {s : Shared}
theorem lam_takes {A : Around} {outer : List PySem.Env} {E : XK} {scope : Scope} {f c' : Addr} : L2N.Takes (lamCxN X A outer s H E scope f c') (fun cls d _ H => E cls d H) := L2N.takes_of rfl rfl rfl rfl
theorem lam_own {A : Around} {outer : List PySem.Env} {E : XK} {scope : Scope} {f c' : Addr} : PassesOwn (model X.prog X.w) (lamCxN X A outer s H E scope f c').A (lamCxN X A outer s H E scope f c').env (lamCxN X A outer s H E scope f c').xe := passes_of rfl
/-- x(), in the def that got the lambda -/
theorem pe_actN {CXg : CXT} {Eg : XK} {Ng : List Str} {qg : Str} {sg : Scope} {g f c' : Addr} {cdg pm ctv : Value} {params : Arguments} {body : Expr} {scope : Scope} {k i : Nat} {a : Str} {pn : List (Addr × Obj)} {xe : Value → Shared → Prop} {W : WX} {E : XK} {tb : TE} {p1 p2 : Pos}
    (I : Inv X pins σ H s) (L : LamS X.env.scope scope) (hf : s.heap.get? f = some (PySem.W.kla_obj "<lambda>" (X.env.qual ++ "<lambda>") params body scope (cloFrom X.env.cells scope.names []) pm c' ctv)) (hfn : H f = none) (hfr : f ∉ frs X.stack)
    (hbind : bindArgs (PySem.W.kla_fn "<lambda>" (X.env.qual ++ "<lambda>") params body scope (cloFrom X.env.cells scope.names []) pm (.ref c') ctv) ⟨[], []⟩ = pure [])
    (tk : L2N.Takes ((cxOf CXg X.prog X.w X.K X.mg X.base Ng qg sg g cdg X.A X.stack s H Eg).tr pn xe) W) (hW : ∀ cls d σ' H', E cls d H' → W cls d σ' H') (hr : Room (k + 1) (X.A.deeper (envOfC qg sg s.heap.objs.size g cdg)))
    (hbody : ∀ (A : Around) (outer : List PySem.Env) (s : Shared) (H : Hp), Room k (A.deeper (lamEnv X scope s.heap.objs.size f c')) → PE (lamCxN X A outer s H E scope f c') body tb)
    (hN : Ng[i]? = some a) (hv : Vis sg a) (hd : (a == ("__debug__" : Str)) = false) (hcd : (a == ("__classdict__" : Str)) = false) :
    PE ((cxOf CXg X.prog X.w X.K X.mg X.base Ng qg sg g cdg X.A X.stack s H Eg).tr pn xe) (.Call (.Name a p1) [] [] p2)
      (fun σZ HZ Q => σZ[i]? = some (some (.ref f)) ∧ HZ c' = some (CodeO c' (X.env.qual ++ "<lambda>")) ∧ tb σ HZ Q) := by
  refine ⟨fun pinsZ sZ σZ HZ Q IZ h => ?_⟩
  obtain ⟨hs, hc, ht⟩ := h
  refine wpAny_Call_Name_kw (thn ((pe_var (pos := p1) (i := i) hN hv hd hcd).run pinsZ sZ σZ HZ (fun v H1 => v = .ref f ∧ H1 = HZ) IZ ⟨.ref f, hs, rfl, rfl⟩) fun u s1 ⟨v, H1, I1, r1, ev, eH⟩ => ?_)
  subst ev
  rw [eH] at I1
  obtain rfl : u = Value.ref f := r1
  have of1 : s1.heap.get? f = some (PySem.W.kla_obj "<lambda>" (X.env.qual ++ "<lambda>") params body scope (cloFrom X.env.cells scope.names []) pm c' ctv) := I1.base.keep f _ hf hfn hfr (fun z => nomatch (show f ∈ ([] : List Addr) from z))
  refine PySem.W.callWith_F0 ⟨_, _, _, _, of1⟩ ?_
  have un : Un (frs X.stack) [] H HZ s.heap s1.heap := I1.base
  obtain ⟨⟨oc, vs, t, hoc, hdc, hvc⟩, _, _⟩ := I1.hok c' _ hc
  have rc : codeAny (model X.prog X.w) (X.A.deeper (envOfC qg sg s.heap.objs.size g cdg)) (.call (.ref f) ⟨[], []⟩) (CR (L2N.CX X.prog X.w) (envOfC qg sg s.heap.objs.size g cdg :: X.stack) X.prog X.w HZ s1 Q E) s1 := by
    refine PySem.W.kla_callFunE hr.depth of1 rfl L.co L.gen rfl ⟨c', oc, vs, t, rfl, hoc, hdc, hvc⟩ ?_
    rw [hbind]
    refine wpAny_pure (wpAny_newFunctionEnv (fun y hy => (L.own y hy).2) (fun y hy => absurd hy (by simp)) (fun h₁ hns hsb => ⟨I1.nolimit.fresh _ hsb, ?_⟩) L.kind)
    show codeAny _ _ (.expr body (lamEnv X scope s1.heap.objs.size f c')) _ _
    have kp : ∀ b o, s1.heap.get? b = some o → h₁.get? b = some o := fun b o e => hsb.extBut b o (Nat.ne_of_lt (Heap.lt_size e)) (Heap.get?_push_of_some _ e)
    have J0 := (lam_start2 (E := E) (f := f) (c' := c') (A := X.A.deeper (envOfC qg sg s.heap.objs.size g cdg)) (outer := envOfC qg sg s.heap.objs.size g cdg :: X.stack) (tk := s1.toks + ([] : List (Str × Value)).length) I L I1.env0 hr.hd un hns kp)
    have J : Inv (lamCxN X (X.A.deeper (envOfC qg sg s.heap.objs.size g cdg)) (envOfC qg sg s.heap.objs.size g cdg :: X.stack) s1 HZ E scope f c') [] σ HZ { s1 with heap := h₁, toks := s1.toks + ([] : List (Str × Value)).length } := J0.toTry _
    refine PySem.W.kla_codeExpr (wpAny_mono ((hbody _ _ s1 HZ (hr.deeper _)).run [] _ _ HZ Q J ht) (fun v s' hq => ?_) fun e s' hq => hq)
    obtain ⟨w', H', J', rv, q⟩ := hq
    exact ⟨w', H', J'.os, J'.bare, J'.base, J'.hok, rv, q⟩
  have hx := L2N.passes_call tk hW
  refine wpAny_call (codeAny_mono rc fun r s' hq => ?_)
  cases r with
  | error e => exact hx pinsZ σZ HZ s1 e s' I1 hq
  | ok fl =>
    cases fl with
    | ret u => exact I1.after hq
    | next => exact False.elim hq
    | brk => exact False.elim hq
    | cont => exact False.elim hq
end
end Rt
set_option maxHeartbeats 2000000
namespace Rt
open PySem PySem.Spec PyProof.Rows L2 HotX L2H
section
variable {prog : Program} {w : World} {A : Around} {E : Value → Shared → Prop} {s : Shared}
theorem pyNext_list_end_hot {it l x1 : Addr} {i : Nat} {items : Array Value} {Q : Option Value → Shared → Prop} (hot : HotAt A x1 s.heap) (hne : x1 ≠ it)
    (hit : s.heap.IsListIter it l i) (hl : s.heap.IsList l items) (hx : items[i]? = none)
    (hQ : ∀ h', Heap.ExtBut it s.heap h' → Q none { s with heap := h' }) : wpAny (model prog w) A (pyNext (.ref it)) Q E s := by
  obtain ⟨o, ho, hc, hd⟩ := id hit
  obtain ⟨ol, hol, _, nl, hdl⟩ := hl
  obtain ⟨hh, o1, vs1, h1, d1, c1⟩ := hot
  unfold pyNext
  refine wpAny_bind (wpAny_attempt (wpAny_callSpecial?_slot (name := Str.ofString "__next__") hit.typeIs slot_listiter_next
    (wpAny_call_entry slot_listiter_next hit.typeIs entry_listiter_next ?_ (args_listiter_next _))))
  show wpAny _ _ (field (.ref it) 0 >>= _) _ _ s
  refine wpAny_bind (wpAny_field ho hd (x := .ref l) rfl ?_)
  show wpAny _ _ (if (Value.ref l == Value.none) = true then _ else _) _ _ s
  rw [if_neg (show ¬ ((Value.ref l == Value.none) = true) from Bool.false_ne_true)]
  show wpAny _ _ (field (.ref it) 1 >>= _) _ _ s
  refine wpAny_bind (wpAny_field ho hd (x := .int i 0) rfl ?_)
  show wpAny _ _ (seqItems? (.ref l) >>= _) _ _ s
  refine wpAny_bind (wpAny_seqItems hol hdl ?_)
  simp only [Int.toNat_natCast, hx]
  refine wpAny_bind (wpAny_rule (wpAny_bind (wpAny_setField ho hd (by simp) ?_)))
  show wpAny _ _ (newExc (.type "StopIteration") [] >>= _) _ _ _
  refine wpAny_bind ?_
  simp only [newExc, newTuple]
  refine wpAny_bind (wpAny_newObj_type ?_ (by size_fits))
  refine wpAny_bind (m := firstArgMember _ _) (wpAny_of_eq (a := Value.none) (by first | rfl | (simp only [firstArgMember]; rfl)) ?_)
  refine wpAny_newObj_type ?_ (by size_fits)
  have k1 := (Heap.get?_update_other s.heap (Obj.mapFields (·.setIfInBounds 0 Value.none)) (Ne.symm hne)).trans h1
  refine raiseNew_hot ⟨hh, o1, vs1, Heap.get?_push_of_some _ (Heap.get?_push_of_some _ k1), d1, c1⟩ (Nat.ne_of_lt (Heap.lt_size (Heap.get?_push_of_some _ k1))) (Heap.get?_push_size _ rfl) rfl (by first | (simp; done) | (simp; omega) | (simp only [Array.size_append]; simp; omega)) ?_
  refine wpAny_bind (wpAny_isInstance (T := "StopIteration") (b := true) ⟨_, Heap.get?_update_self _ (Heap.get?_push_size _ rfl) rfl, rfl⟩ isSubtype_stop ?_)
  refine wpAny_pure (hQ _ fun b o hb e => ?_)
  have e1 := (Heap.get?_update_other s.heap (Obj.mapFields (·.setIfInBounds 0 Value.none)) (Ne.symm hb)).trans e
  rw [Heap.get?_update_other _ _ (Nat.ne_of_gt (Heap.lt_size (Heap.get?_push_of_some _ e1)))]
  exact Heap.get?_push_of_some _ (Heap.get?_push_of_some _ e1)
/-- a list is walked: as Walks.list, the handled exception stands by -/
theorem walks_listH {x1 : Addr} (hh : A.handled = some (.ref x1)) (I ax : Addr) (hne : ax ≠ I) (hx : x1 ≠ I) (items : Array Value) :
    Walks prog w A I [I, ax, x1] [I] items.size (fun i v => items[i]? = some v) (fun i h => h.IsListIter I ax i ∧ h.IsList ax items ∧ HotAt A x1 h) where
  sub := fun b hb => by simp at hb; simp [hb]
  frame := fun _ _ _ st hk => ⟨st.1.at fun o e => hk I (by simp) o e, st.2.1.at fun o e => hk ax (by simp) o e, by
    obtain ⟨_, _, h3, o, vs, q, d, c⟩ := st
    exact ⟨h3, o, vs, hk x1 (by simp) o q, d, c⟩⟩
  item := fun i s Q E hi st hQ => by
    obtain ⟨h1, h2, h3, o, vs, q, d, c⟩ := st
    refine wpAny_pyNext_list_item h1 h2 (x := items[i]) (by simp [hi]) fun h' hit' hs' => ?_
    exact hQ _ h' s.toks (by simp [hi]) ⟨hit', h2.extBut hs'.extBut hne, h3, o, vs, hs'.extBut x1 o hx q, d, c⟩ fun b o hb e => hs'.extBut b o (fun h => hb (by simp [h])) e
  done := fun s Q E st hQ => pyNext_list_end_hot st.2.2 hx st.1 st.2.1 (by simp) fun h' he' => hQ h' s.toks fun b o hb e => he' b o (fun h => hb (by simp [h])) e
  self := fun _ _ _ _ st hQ => wpAny_pyIter_listiter st.1 hQ
theorem sum_hot {x1 l : Addr} {its : List Value} {ns : List Int} {Q : Value → Shared → Prop} (hot : HotAt A x1 s.heap) (hl : s.heap.IsList l its.toArray) (hi : IntsAre its ns)
    (h : ∀ h' tk t', (∀ b o, s.heap.get? b = some o → h'.get? b = some o) → Q (.int ns.sum t') { s with heap := h', toks := tk }) : wpAny (model prog w) A (call (.builtin "sum") [.ref l]) Q E s := by
  obtain ⟨xs, e⟩ := hi.allInts.items
  have hn : numsOf (intItems xs).toList = ns := by rw [← e]; exact hi.numsOf
  rw [nums_intItems] at hn
  rw [e] at hl
  obtain ⟨h3, o, vs, q, d, c⟩ := hot
  have hx : x1 ≠ s.heap.objs.size := Nat.ne_of_lt (Heap.lt_size q)
  refine call_sum_walkG (iter_intList hl fun s₂ e2 st hfp hlI => ?_)
  subst e2
  refine ⟨_, _, _, _, _, _, numAt xs, rfl, walks_listH (A := A.in1) (x1 := x1) h3 _ l hlI hx (intItems xs), ⟨st.1, st.2, h3, o, vs, Heap.get?_push_of_some _ q, d, c⟩, fun b hb => ?_, (fun _ _ => intItems_at), fun h' tk t' hk => ?_⟩
  · by_cases hb1 : b = x1
    · rw [hb1]; exact Heap.lt_size (Heap.get?_push_of_some _ q)
    · exact hfp b (by simp [hb1] at hb ⊢; exact hb)
  · have := h h' tk t' (old_kept hk)
    rw [preSum_eq, List.take_of_length_le (by simp [intItems]), hn]
    exact this
end
end Rt
set_option maxHeartbeats 2000000
namespace Rt
open PySem PySem.Spec PyProof.Rows L2 HotX L2H
def bI (b : Bool) : Int := if b then 1 else 0
/-- the scope of such a block -/
def flagScope (scope : Scope) (x : Str) : Bool := decide (scope.kind = .function) && (decide (scope.names.lookup x = some .local) && (decide (scope.names.lookup ("int" : Str) = some .globalImplicit) &&
  scope.names.all fun y => decide (y.2 ≠ .free) && (decide (y.2 ≠ .cell) && decide (y.2 = .local → scope.names.lookup y.1 = some .local))))
def FlF (v y : Value) : Prop := ∃ (b : Bool) (t : Tok), v = .bool b ∧ y = .int (bI b) t
theorem paired_ints : ∀ {vs : List Value} {ys : List Value} {bs : List Bool}, vs = bs.map Value.bool → Paired FlF vs ys → Vals (bs.map fun b => V.int (bI b)) ys
  | [], [], bs, e, h => by
    cases bs with
    | nil => exact .nil
    | cons b bs => cases e
  | v :: vs, y :: ys, bs, e, h => by
    cases bs with
    | nil => cases e
    | cons b bs =>
      cases h with
      | cons h1 h2 =>
        rw [List.map_cons] at e
        injection e with e1 e2
        obtain ⟨b', t, q1, q2⟩ := h1
        rw [e1] at q1
        cases q1
        exact .cons ⟨t, q2⟩ (paired_ints e2 h2)
  | [], y :: ys, bs, e, h => by cases h
  | v :: vs, [], bs, e, h => by cases h
section
variable {X : Cx}
theorem pe_flags {x y : Str} {i : Nat} {scope : Scope} {p1 p2 p3 p4 p5 pos : Pos} (hc : HotC X) (hi : X.N[i]? = some y) (hv : Vis X.env.scope y) (hd : (y == ("__debug__" : Str)) = false) (hcd : (y == ("__classdict__" : Str)) = false)
    (hs : flagScope scope x = true) (hdx : (x == ("__debug__" : Str)) = false) (hm : X.mg "int" = none) :
    PE X (.ListComp (.Call (.Name "int" p1) [.Name x p2] [] p3) [⟨.Name x p4, .Name y p5, [], 0⟩] scope pos)
      (fun σ H Q => ∃ (a : Addr) (bs : List Bool), σ[i]? = some (some (.ref a)) ∧ SqL X.K H a (bs.map V.bl) ∧ ∀ D, H D = none → Q (.ref D) (upd H D (.lst (bs.map fun b => V.int (bI b))))) := by
  unfold flagScope at hs
  simp only [Bool.and_eq_true, decide_eq_true_eq, List.all_eq_true] at hs
  obtain ⟨hk, hx, hgi, hal⟩ := hs
  refine ⟨fun pins s σ H Q I h => ?_⟩
  obtain ⟨a, bs, ha, hq, h⟩ := h
  refine wpAny_ListComp_walk (fun _ => true) FlF (fun y hy => (hal y hy).1) (fun y hy => (hal y hy).2.1) hk (fun y hy => (hal y hy).2.2) hx ?_
  refine thn ((pe_var (pos := p5) (i := i) hi hv hd hcd).run pins s σ H (fun v H1 => v = .ref a ∧ H1 = H) I ⟨.ref a, ha, rfl, rfl⟩) fun u s1 ⟨v, H1, I1, r1, ev, eH⟩ => ?_
  subst ev
  rw [eH] at I1
  obtain rfl : u = Value.ref a := r1
  obtain ⟨its, rv, pl, hz⟩ := I1.list hq
  have ei : its = bs.map Value.bool := Vals.bls rv
  obtain ⟨x1, hot⟩ := hc.at I1
  obtain ⟨h3, o, vs1, q, d, c⟩ := hot
  have hlt : a < s1.heap.objs.size := by
    obtain ⟨_, e, _⟩ := pl.isList
    exact Heap.lt_size e
  refine wpAny_pyIter_list pl.isList ?_
  generalize hs2 : ({ s1 with heap := s1.heap.push { cls := .type "list_iterator", data := .fields #[.ref a, .int 0 0] } } : Shared) = s2
  have kp : ∀ b o, s1.heap.get? b = some o → s2.heap.get? b = some o := fun b o e => by rw [← hs2]; exact Heap.get?_push_of_some _ e
  have I2 : Inv X pins σ H s2 := by
    rw [← hs2]
    exact I1.kept (t' := s1.toks) fun b o e => Heap.get?_push_of_some _ e
  refine ⟨s1.heap.objs.size, _, _, _, _, _, rfl, walks_listH (x1 := x1) h3 _ a (Nat.ne_of_lt hlt) (Nat.ne_of_lt (Heap.lt_size q)) its.toArray, ?_, ⟨?_, ?_, h3, o, vs1, kp _ _ q, d, c⟩, fun b hb => ?_, ⟨?_, ?_⟩, ?_⟩
  · rw [List.size_toArray, ← rv.length]
    exact hz
  · rw [← hs2]
    exact ⟨_, Heap.get?_push_size _ rfl, rfl, rfl⟩
  · exact pl.isList.at fun o e => kp _ _ e
  · have hb' : b = s1.heap.objs.size ∨ b = a ∨ b = x1 := by simpa using hb
    rcases hb' with z | z | z
    · rw [z, ← hs2]; show _ < (s1.heap.push _).objs.size; rw [Heap.size_push]; exact Nat.lt_succ_self _
    · rw [z, ← hs2]; show _ < (s1.heap.push _).objs.size; rw [Heap.size_push]; exact Nat.lt_succ_of_lt hlt
    · rw [z]; exact Heap.lt_size (kp _ _ q)
  · intro C j v s3 m3 E' hv3 hn hm3 hk3 ht3
    exact wpAny_pure ⟨rfl, s3.heap, s3.toks, rfl, fun _ _ e => e⟩
  · intro C j v s3 m3 E' hv3 hpv hn hm3 hk3 ht3
    have hv4 : (bs.map Value.bool)[j]? = some v := by
      rw [← ei]
      simpa using hv3
    rw [List.getElem?_map] at hv4
    cases hb : bs[j]? with
    | none => rw [hb] at hv4; cases hv4
    | some b =>
      rw [hb] at hv4
      cases hv4
      obtain ⟨mb, b1, b2⟩ := I2.mod.blt
      have KB : ∀ {a : Addr} {m : Str → Option Value}, s2.heap.Ns a m → a ≠ s1.heap.objs.size → s3.heap.Ns a m := fun {a m} ⟨o, es, ep, e, dd, r⟩ hne => ⟨o, es, ep, hk3 a o (by simp; exact hne) e, dd, r⟩
      have lt1 : ∀ {a : Addr} {m : Str → Option Value}, s1.heap.Ns a m → a ≠ s1.heap.objs.size := fun {a m} ⟨o, es, ep, e, dd, r⟩ => Nat.ne_of_lt (Heap.lt_size e)
      have g1 := I1.mod.glob.keeps I1.bk
      have g2 := I2.mod.glob.keeps I2.bk
      have c1 := b1.keeps I1.bk
      have c2 := b1.keeps I2.bk
      refine Call_ (Calls.Name_function_global (env := compEnv scope C X.env) hk hgi (Calls.loadGlobal_builtin (by show s3.heap.Ns X.env.globals X.mg; rw [I1.ok.glob]; exact KB g2 (lt1 g1)) hm (by show s3.heap.Ns X.env.builtins mb; rw [I1.ok.blt]; exact KB c2 (lt1 c1)) ((b2 "int" (by decide)).trans boot_int) ?_) (by decide))
      refine PyProof.Rows.callWith_type1 (Calls.spliced_cons (wpAny_Name (wpAny_loadName_local (env := compEnv scope C X.env) hk hx hn hm3 (Calls.spliced_nil (call_int_bool ?_))) hdx)) rfl rfl
      exact ⟨⟨b, _, rfl, rfl⟩, s3.heap, _, rfl, fun _ _ e => e⟩
  · intro D h' tk ys vs2 hD hl hpl hlen hP hF hk3
    have e2 : vs2 = bs.map Value.bool := by
      apply List.ext_getElem?
      intro j
      by_cases hj : j < vs2.length
      · have := hP j vs2[j] (List.getElem?_eq_getElem hj)
        rw [List.getElem?_eq_getElem hj, ← ei]
        simpa using this.symm
      · rw [List.getElem?_eq_none (by omega), List.getElem?_eq_none]
        rw [← ei]
        simp at hlen
        omega
    have hff : vs2.filter (fun _ => true) = vs2 := by simp
    rw [hff] at hF
    have rel := paired_ints e2 hF
    have nD : s1.heap.get? D = none := by
      cases z : s1.heap.get? D with
      | none => rfl
      | some o => rw [kp _ _ z] at hD; cases hD
    have kk : ∀ b o, s1.heap.get? b = some o → h'.get? b = some o := fun b o e => hk3 b o (by simp; exact Nat.ne_of_lt (Heap.lt_size e)) (kp b o e)
    have nH : H D = none := I1.hok.gone nD
    subst hs2
    refine ⟨.ref D, _, I1.laidN (t' := tk) (o := .lst (bs.map fun b => V.int (bI b))) kk nD nH ?_, rfl, h D nH⟩
    obtain ⟨n, e⟩ := hpl
    refine ⟨?_, ys.toList, n, rel, ?_⟩
    · rw [List.length_map]
      have := hz
      rw [List.length_map] at this
      exact this
    · simpa using e
end
end Rt
set_option maxHeartbeats 2000000
namespace Rt
open PySem PySem.Spec PyProof.Rows L2 HotX L2H
/-- isinstance(e, c), e the handled exception, pinned in X -/
theorem call_isP {X : Cx} {a D : Addr} {oe : Obj} (C : ExcC X.K D) (hz : Zc (.ref D) none oe) (hf : ∃ vs, oe.data = .fields vs) (hp : (a, oe) ∈ X.pn) : CallR X (.builtin "isinstance") (rIsE X.K D a) := by
  intro pins s σ H xs us Q I r h
  obtain ⟨c, cv, b, rfl, hcv, e, q⟩ := h
  cases r with
  | cons rx rr =>
    cases rr with
    | cons rt rr =>
      cases rr
      cases rx
      have ec := hcv _ rt
      subst ec
      obtain ⟨hget, _⟩ := I.pin (a, oe) (List.mem_append.mpr (.inl hp))
      obtain ⟨vs, hv⟩ := hf
      have J : PySem.W.InstAt s.heap a oe D none := by
        obtain ⟨oc, od, oda, osl⟩ := oe
        obtain ⟨h1, h2⟩ := hz
        dsimp only at h1 h2 hv
        subst h1 h2 hv
        exact ⟨hget, rfl, rfl, trivial⟩
      exact PySem.W.kia_one (PySem.W.handS_kitx_exc C.hg C.hk C.hs C.hd C.ha C.hn C.ht C.hm) I.kIn J e (fun z => nomatch z) fun tk => ⟨.bl b, H, I.kept (t' := tk) fun _ _ z => z, rfl, q⟩
/-- sum of a list of ints while an exception is handled -/
theorem cr_sumH {X : Cx} (hc : HotC X) : CallR X (.builtin "sum") (rSum X.K) := by
  intro pins s σ H vs us Q I r h
  obtain ⟨a, ns, rfl, hs, q⟩ := h
  obtain ⟨its, rv, hl, _⟩ := I.list hs
  rw [Vals.ref1 r]
  obtain ⟨x1, hot⟩ := hc.at I
  exact sum_hot hot hl.isList rv.ints fun h' tk t' hk => ⟨.int _, H, I.kept hk, ⟨_, rfl⟩, q⟩
/-- a def run while p's exception is handled, p known -/
theorem run_ofH {CX : CXT} {P : Program} {w : World} {K : PySem.W.Frag} {mg : Str → Option Value} {base : Heap} {k : Nat} {f : Addr} {name qual : Str} {params : Arguments} {body : List Stmt} {scope : Scope} {dV kV doc pm cdv ct oc : Value} {an od : Option Addr}
    {osl : Array (Option Value)} {N ps : List Str} (lk : K.lookup f = some ⟨oc, od, .func (PySem.W.fnOf name qual params body scope dV kV doc pm an cdv ct), osl⟩) (hcd : PySem.W.codeIn K cdv qual = true) (S : FnScope N ps scope)
    {A : Around} {outer : List PySem.Env} {s : Shared} {H : Hp} {args : Args} {us : List Value} {vs : List V} {Q : VK} {E : XK} {p : Addr × Obj} (hr : RoomH (k + 1) A) (hot : Hot1 A p) (hpin : PinOk outer H s p) (e0 : Env0 P w K mg base A outer s H)
    (hb : BindsTo s (PySem.W.fnOf name qual params body scope dV kV doc pm an cdv ct) args (ps.zip us)) (r : Vals vs us) (hl : vs.length = ps.length)
    (hbody : RoomH k (A.deeper (envOfC qual scope s.heap.objs.size f cdv)) → ∃ t, PSs (cxH CX P w K mg base N qual scope f cdv A outer s H E p) body t ∧ t { nx := fun _ H' => Q .non H', rt := Q } (L2.start N vs) H) :
    codeAny (model P w) A (.call (.ref f) args) (CR CX outer P w H s Q E) s := by
  have KX : K.In s.heap := e0.mod.kin.keeps fun b o e => (e0.bs b o e).1
  have lim : s.heap.NoLimit := e0.mod.nolimit.keeps fun b o e => (e0.bs b o e).1
  refine codeAny_call_function hr.depth (KX _ _ lk) rfl S.co S.gen rfl (PySem.W.codeRec_of KX hcd) (hb _ _ _ _ ?_)
  refine wpAny_newFunctionEnv_cells S.kind (fun ⟨n, v⟩ hy => ?_) fun env he s1 x => ?_
  · rcases S.par n (List.of_mem_zip hy).1 with q | q
    · exact .inl q
    · exact .inr ⟨q, PySem.W.cellsFrom_some _ _ _ (.inl q)⟩
  subst he
  refine ⟨lim.keeps x.toInCall.keep, codeAny_func ?_⟩
  obtain ⟨t, ht, hq⟩ := hbody (hr.deeper _)
  have I : Inv (cxH CX P w K mg base N qual scope f cdv A outer s H E p) [] (L2.start N vs) H s1 := inv_startH S hpin e0 hl r x
  refine wpAny_mono (ht.run [] s1 (L2.start N vs) H _ I hq) (fun fl s' hs => ?_) fun e s' hs => hs
  cases fl with
  | ret u =>
    obtain ⟨v, σ', H', J, rv, q⟩ := hs
    exact ⟨v, H', J.os, J.bare, J.base, J.hok, rv, q⟩
  | next =>
    obtain ⟨σ', H', J, q⟩ := hs
    exact ⟨V.non, H', J.os, J.bare, J.base, J.hok, rfl, q⟩
  | brk =>
    obtain ⟨_, _, _, q⟩ := hs
    exact False.elim q
  | cont =>
    obtain ⟨_, _, _, q⟩ := hs
    exact False.elim q
end Rt
set_option maxHeartbeats 2000000
namespace Rt
open PySem PySem.Spec PyProof.Rows L2 HotX L2H
def all2B {α : Type} (f : α → Expr → Bool) : List α → List Expr → Bool
  | [], [] => true
  | x :: xs, e :: es => f x e && all2B f xs es
  | _, _ => false
def isIs (i : Nat) : Expr → Bool
  | .Call (.Name f _) [.Name e _, .Name y _] [] _ => decide (f = "isinstance") && (decide (e = "e") && decide (y = excName i))
  | _ => false
def isStr (x : Str) : Expr → Bool
  | .Constant (.str y) _ _ => decide (y = x)
  | _ => false
def isLst {α : Type} (f : α → Expr → Bool) (xs : List α) : Expr → Bool
  | .List es _ => all2B f xs es
  | _ => false
def isAsg (x : Str) (g : Expr → Bool) : Stmt → Bool
  | .Assign [.Name y _] e _ => decide (y = x) && g e
  | _ => false
def isCat (x : Str) (g : Expr → Bool) : Expr → Bool
  | .BinOp (.Name y _) .Add b _ => decide (y = x) && g b
  | _ => false
/-- the state within: e, flags, kinds -/
structure TS (a : Addr) (H0 : Hp) (fl : List Bool) (ki : List Str) (σ : L2.St) (H : Hp) : Prop where
  e : σ[0]? = some (some (.ref a))
  len : σ.length = 3
  fl : ∃ l, σ[1]? = some (some (.ref l)) ∧ H l = some (.lst (fl.map V.bl))
  ki : ∃ l, σ[2]? = some (some (.ref l)) ∧ H l = some (.lst (ki.map V.str))
  ext : ∀ b o, H0 b = some o → H b = some o
/-- what must be known -/
structure TermCx (X : Cx) (ca : Nat → Addr) (a : Addr) (oe : Obj) (n : Nat) : Prop where
  hot : HotC X
  pin : (a, oe) ∈ X.pn
  zc : Zc (.ref (ca n)) none oe
  fields : ∃ vs, oe.data = .fields vs
  exc : ExcC X.K (ca n)
  N : X.N = ([("e" : Str), ("flags" : Str), ("kinds" : Str)] : List Str)
  fn : ∀ x, X.fn x = true
  sc : Vis X.env.scope "e" ∧ X.env.scope.names.lookup ("flags" : Str) = some .local ∧ X.env.scope.names.lookup ("kinds" : Str) = some .local
  isi : Gl X "isinstance" ∧ X.mg "isinstance" = none
  cls : ∀ i, i < 12 → Gl X (excName i) ∧ X.mg (excName i) = some (.ref (ca i)) ∧ (excName i == ("__debug__" : Str)) = false ∧ PySem.W.kitOne X.K (.ref (ca n)) (.ref (ca i)) = some (decide (i = n))
section
variable {X : Cx} {ca : Nat → Addr} {a : Addr} {oe : Obj} {n : Nat}
theorem pIs (T : TermCx X ca a oe n) {i : Nat} (hi : i < 12) {e : Expr} (h : isIs i e = true) : PE X e (fun σ H Q => σ[0]? = some (some (.ref a)) ∧ Q (.bl (decide (i = n))) H) ∧ plainE e = true := by
  unfold isIs at h
  split at h
  · simp only [Bool.and_eq_true, decide_eq_true_eq] at h
    obtain ⟨rfl, rfl, rfl⟩ := h
    obtain ⟨h1, h2, h3, h4⟩ := T.cls i hi
    refine ⟨peImp (pe_callB (call_isP T.exc T.zc T.fields T.pin) T.isi.1 T.isi.2 boot_isinstance (pa_cons (pe_var (i := 0) (by rw [T.N]; rfl) T.sc.1 (by decide +kernel) (by decide +kernel)) (pa_cons (pe_glob (v := .ref (ca i)) h1 h2 rfl h3) pa_nil (by rfl)) (by rfl)) (by decide) (by decide) (by rfl) (by rfl)) fun σ H Q ⟨q1, q2⟩ => ?_, rfl⟩
    exact ⟨.ref a, q1, .ref (ca i), .ref (ca i), decide (i = n), rfl, fun u z => z, h4, q2⟩
  · cases h
theorem paIs (T : TermCx X ca a oe n) : ∀ {is : List Nat} {es : List Expr}, (∀ i ∈ is, i < 12) → all2B isIs is es = true → PA X es (fun σ H Q => σ[0]? = some (some (.ref a)) ∧ Q (is.map fun i => V.bl (decide (i = n))) H)
  | [], [], _, _ => paImp pa_nil fun σ H Q h => h.2
  | i :: is, e :: es, hl, h => by
    simp only [all2B, Bool.and_eq_true] at h
    obtain ⟨h1, h2⟩ := pIs T (hl i (by simp)) h.1
    refine paImp (pa_cons h1 (paIs T (fun j hj => hl j (by simp [hj])) h.2) (plain_star h2)) fun σ H Q q => ?_
    exact ⟨q.1, q.1, q.2⟩
  | [], _ :: _, _, h => by cases h
  | _ :: _, [], _, h => by cases h
theorem paStr : ∀ {xs : List Str} {es : List Expr}, all2B isStr xs es = true → PA X es (fun σ H Q => Q (xs.map V.str) H)
  | [], [], _ => paImp pa_nil fun σ H Q h => h
  | x :: xs, e :: es, h => by
    simp only [all2B, Bool.and_eq_true] at h
    obtain ⟨h1, h2⟩ := h
    unfold isStr at h1
    split at h1
    · simp only [decide_eq_true_eq] at h1
      subst h1
      exact paImp (pa_cons pe_str (paStr h2) (by rfl)) fun σ H Q q => q
    · cases h1
  | [], _ :: _, h => by cases h
  | _ :: _, [], h => by cases h
end
end Rt
set_option maxHeartbeats 2000000
namespace Rt
open PySem PySem.Spec PyProof.Rows L2 HotX L2H
/-- the state within: e, flags, kinds -/
structure TQ (a : Addr) (H0 : Hp) (fl : Option (List Bool)) (ki : Option (List Str)) (σ : L2.St) (H : Hp) : Prop where
  e : σ[0]? = some (some (.ref a))
  len : σ.length = 3
  fl : ∀ bs, fl = some bs → ∃ l, σ[1]? = some (some (.ref l)) ∧ H l = some (.lst (bs.map V.bl))
  ki : ∀ xs, ki = some xs → ∃ l, σ[2]? = some (some (.ref l)) ∧ H l = some (.lst (xs.map V.str))
  ext : ∀ b o, H0 b = some o → H b = some o
section
variable {a : Addr} {H0 : Hp} {fl : Option (List Bool)} {ki : Option (List Str)} {σ : L2.St} {H : Hp}
theorem TQ.upd (t : TQ a H0 fl ki σ H) {p : Addr} {o : HO} (hp : H p = none) : TQ a H0 fl ki σ (upd H p o) := by
  refine ⟨t.e, t.len, fun bs h => ?_, fun xs h => ?_, fun b o h => ?_⟩
  · obtain ⟨l, h1, h2⟩ := t.fl bs h
    exact ⟨l, h1, by rw [upd_ne (ne_of_none h2 hp)]; exact h2⟩
  · obtain ⟨l, h1, h2⟩ := t.ki xs h
    exact ⟨l, h1, by rw [upd_ne (ne_of_none h2 hp)]; exact h2⟩
  · have := t.ext b o h
    rw [upd_ne (ne_of_none this hp)]; exact this
theorem TQ.setF (t : TQ a H0 fl ki σ H) {p : Addr} {bs : List Bool} (hp : H p = none) : TQ a H0 (some bs) ki (σ.set 1 (some (.ref p))) (L2.upd H p (.lst (bs.map V.bl))) := by
  have t2 := t.upd (o := .lst (bs.map V.bl)) hp
  refine ⟨by rw [List.getElem?_set_ne (by decide)]; exact t.e, by rw [List.length_set]; exact t.len, fun bs' h => ?_, fun xs h => ?_, t2.ext⟩
  · cases h
    exact ⟨p, List.getElem?_set_self (by rw [t.len]; decide), upd_same⟩
  · obtain ⟨l, h1, h2⟩ := t2.ki xs h
    exact ⟨l, by rw [List.getElem?_set_ne (by decide)]; exact h1, h2⟩
theorem TQ.setK (t : TQ a H0 fl ki σ H) {p : Addr} {xs : List Str} (hp : H p = none) : TQ a H0 fl (some xs) (σ.set 2 (some (.ref p))) (L2.upd H p (.lst (xs.map V.str))) := by
  have t2 := t.upd (o := .lst (xs.map V.str)) hp
  refine ⟨by rw [List.getElem?_set_ne (by decide)]; exact t.e, by rw [List.length_set]; exact t.len, fun bs h => ?_, fun xs' h => ?_, t2.ext⟩
  · obtain ⟨l, h1, h2⟩ := t2.fl bs h
    exact ⟨l, by rw [List.getElem?_set_ne (by decide)]; exact h1, h2⟩
  · cases h
    exact ⟨p, List.getElem?_set_self (by rw [t.len]; decide), upd_same⟩
end
section
variable {X : Cx} {ca : Nat → Addr} {a : Addr} {oe : Obj} {n : Nat} {H0 : Hp}
theorem T_nd (T : TermCx X ca a oe n) : X.N.Nodup := by rw [T.N]; decide +kernel
def isN (n : Nat) (is : List Nat) : List Bool := is.map fun i => decide (i = n)
theorem isN_map (is : List Nat) : (isN n is).map V.bl = is.map fun i => V.bl (decide (i = n)) := by unfold isN; rw [List.map_map]; rfl
theorem line_le {k : Nat} (h : k ≤ 1000) : k ≤ sizeLine := small_line h
theorem stF1 (T : TermCx X ca a oe n) {is : List Nat} {st : Stmt} (hi : ∀ i ∈ is, i < 12) (hn : is.length ≤ 12) (h : isAsg "flags" (isLst isIs is) st = true) :
    PS X st (fun D σ H => ∃ fl ki, TQ a H0 fl ki σ H ∧ ∀ σ' H', TQ a H0 (some (isN n is)) ki σ' H' → D.nx σ' H') := by
  unfold isAsg at h
  split at h
  · simp only [Bool.and_eq_true, decide_eq_true_eq] at h
    obtain ⟨rfl, h⟩ := h
    unfold isLst at h
    split at h
    · refine psImp (ps_set (i := 1) (T_nd T) (by rw [T.N]; rfl) (.inl T.sc.2.1) (pe_lst (paIs T hi h)) rfl (.inr T.sc.2.1)) fun D σ H ⟨fl, ki, t, q⟩ => ?_
      refine ⟨t.e, by rw [List.length_map]; exact line_le (by omega), fun p hp => q _ _ ?_⟩
      rw [← isN_map]
      exact t.setF hp
    · cases h
  · cases h
theorem stF2 (T : TermCx X ca a oe n) {is : List Nat} {st : Stmt} (hi : ∀ i ∈ is, i < 12) (hn : is.length ≤ 12) (h : isAsg "flags" (isCat "flags" (isLst isIs is)) st = true) :
    PS X st (fun D σ H => ∃ js ki, js.length ≤ 12 ∧ TQ a H0 (some (isN n js)) ki σ H ∧ ∀ σ' H', TQ a H0 (some (isN n (js ++ is))) ki σ' H' → D.nx σ' H') := by
  unfold isAsg at h
  split at h
  · simp only [Bool.and_eq_true, decide_eq_true_eq] at h
    obtain ⟨rfl, h⟩ := h
    unfold isCat at h
    split at h
    · simp only [Bool.and_eq_true, decide_eq_true_eq] at h
      obtain ⟨rfl, h⟩ := h
      unfold isLst at h
      split at h
      · refine psImp (ps_set (i := 1) (T_nd T) (by rw [T.N]; rfl) (.inl T.sc.2.1) (pe_op op_catX (pe_var (i := 1) (by rw [T.N]; rfl) (.inl T.sc.2.1) (by decide +kernel) (by decide +kernel)) (pe_lst (paIs T hi h))) rfl (.inr T.sc.2.1)) fun D σ H ⟨js, ki, hj, t, q⟩ => ?_
        obtain ⟨l, h1, h2⟩ := t.fl _ rfl
        refine ⟨.ref l, h1, t.e, by rw [List.length_map]; exact line_le (by omega), fun p hp => ?_⟩
        refine ⟨l, p, (isN n js).map V.bl, (isN n is).map V.bl, rfl, rfl, .inl (.inl (by rw [upd_ne (ne_of_none h2 hp)]; exact h2)), .inl (.inl (by rw [isN_map]; exact upd_same)), ?_, fun p2 hp2 => ?_⟩
        · simp only [isN, List.length_map]; exact line_le (by omega)
        · have t2 := (t.upd (o := .lst (is.map fun i => V.bl (decide (i = n)))) hp).setF (p := p2) (bs := isN n (js ++ is)) hp2
          have e : (isN n (js ++ is)).map V.bl = (isN n js).map V.bl ++ (isN n is).map V.bl := by simp [isN]
          rw [e] at t2
          exact q _ _ t2
      · cases h
    · cases h
  · cases h
theorem stK1 (T : TermCx X ca a oe n) {is : List Str} {st : Stmt} (hn : is.length ≤ 12) (h : isAsg "kinds" (isLst isStr is) st = true) :
    PS X st (fun D σ H => ∃ fl ki, TQ a H0 fl ki σ H ∧ ∀ σ' H', TQ a H0 fl (some is) σ' H' → D.nx σ' H') := by
  unfold isAsg at h
  split at h
  · simp only [Bool.and_eq_true, decide_eq_true_eq] at h
    obtain ⟨rfl, h⟩ := h
    unfold isLst at h
    split at h
    · refine psImp (ps_set (i := 2) (T_nd T) (by rw [T.N]; rfl) (.inl T.sc.2.2) (pe_lst (paStr h)) rfl (.inr T.sc.2.2)) fun D σ H ⟨fl, ki, t, q⟩ => ?_
      exact ⟨by rw [List.length_map]; exact line_le (by omega), fun p hp => q _ _ (t.setK hp)⟩
    · cases h
  · cases h
theorem stK2 (T : TermCx X ca a oe n) {is : List Str} {st : Stmt} (hn : is.length ≤ 12) (h : isAsg "kinds" (isCat "kinds" (isLst isStr is)) st = true) :
    PS X st (fun D σ H => ∃ fl js, js.length ≤ 12 ∧ TQ a H0 fl (some js) σ H ∧ ∀ σ' H', TQ a H0 fl (some (js ++ is)) σ' H' → D.nx σ' H') := by
  unfold isAsg at h
  split at h
  · simp only [Bool.and_eq_true, decide_eq_true_eq] at h
    obtain ⟨rfl, h⟩ := h
    unfold isCat at h
    split at h
    · simp only [Bool.and_eq_true, decide_eq_true_eq] at h
      obtain ⟨rfl, h⟩ := h
      unfold isLst at h
      split at h
      · refine psImp (ps_set (i := 2) (T_nd T) (by rw [T.N]; rfl) (.inl T.sc.2.2) (pe_op op_catX (pe_var (i := 2) (by rw [T.N]; rfl) (.inl T.sc.2.2) (by decide +kernel) (by decide +kernel)) (pe_lst (paStr h))) rfl (.inr T.sc.2.2)) fun D σ H ⟨fl, js, hj, t, q⟩ => ?_
        obtain ⟨l, h1, h2⟩ := t.ki _ rfl
        refine ⟨.ref l, h1, by rw [List.length_map]; exact line_le (by omega), fun p hp => ?_⟩
        refine ⟨l, p, js.map V.str, is.map V.str, rfl, rfl, .inl (.inl (by rw [upd_ne (ne_of_none h2 hp)]; exact h2)), .inl (.inl upd_same), ?_, fun p2 hp2 => ?_⟩
        · simp only [List.length_map]; exact line_le (by omega)
        · have t2 := (t.upd (o := .lst (is.map V.str)) hp).setK (p := p2) (xs := js ++ is) hp2
          rw [List.map_append] at t2
          exact q _ _ t2
      · cases h
    · cases h
  · cases h
end
end Rt
set_option maxHeartbeats 2000000
namespace Rt
open PySem PySem.Spec PyProof.Rows L2 HotX L2H
def isTest : Expr → Bool
  | .BoolOp .Or [.Compare (.Call (.Name s _) [.ListComp (.Call (.Name i _) [.Name f1 _] [] _) [⟨.Name f2 _, .Name fl _, [], m⟩] scope _] [] _) [.NotEq] [.Constant (.int k) _ _] _, .UnaryOp .Not (.Call (.Name f _) [.Name e _, .Name y _] [] _) _] _ =>
    decide (s = "sum") && (decide (i = "int") && (decide (f1 = "flag") && (decide (f2 = "flag") && (decide (fl = "flags") && (decide (m = 0) && (decide (k = 1) && (decide (f = "isinstance") && (decide (e = "e") && (decide (y = "ValueError") && flagScope scope "flag")))))))))
  | _ => false
theorem ve_boot : bootBuiltins "ValueError" = some (.type "ValueError") := by decide +kernel
structure TermC2 (X : Cx) (ca : Nat → Addr) (n : Nat) : Prop where
  sum : Gl X "sum" ∧ X.mg "sum" = none
  int : X.mg "int" = none
  ve : Gl X "ValueError" ∧ X.mg "ValueError" = none ∧ PySem.W.kitOne X.K (.ref (ca n)) (.type "ValueError") = some true
section
variable {X : Cx} {ca : Nat → Addr} {a : Addr} {oe : Obj} {n : Nat} {H0 : Hp}
theorem pSum (T : TermCx X ca a oe n) (U : TermC2 X ca n) {scope : Scope} {p0 p1 p2 p3 p4 p5 p6 p7 : Pos} (h : flagScope scope "flag" = true) :
    PE X (.Call (.Name "sum" p0) [.ListComp (.Call (.Name "int" p1) [.Name "flag" p2] [] p3) [⟨.Name "flag" p4, .Name "flags" p5, [], 0⟩] scope p6] [] p7)
      (fun σ H Q => ∃ bs ki, TQ a H0 (some bs) ki σ H ∧ ∀ H', TQ a H0 (some bs) ki σ H' → Q (.int (bs.map bI).sum) H') := by
  refine peImp (pe_callB (cr_sumH T.hot) U.sum.1 U.sum.2 boot_sum (pa_cons (pe_flags (i := 1) T.hot (by rw [T.N]; rfl) (.inl T.sc.2.1) (by decide +kernel) (by decide +kernel) h (by decide +kernel) U.int) pa_nil (by rfl)) (by decide) (by decide) (by rfl) (by rfl)) fun σ H Q ⟨bs, ki, t, q⟩ => ?_
  obtain ⟨l, q1, q2⟩ := t.fl bs rfl
  refine ⟨l, bs, q1, .inl (.inl q2), fun D hD => ?_⟩
  refine ⟨D, bs.map bI, rfl, .inl (.inl ?_), q _ (t.upd hD)⟩
  rw [upd_same, List.map_map]
  rfl
theorem pIsV (T : TermCx X ca a oe n) (U : TermC2 X ca n) {p0 p1 p2 p3 : Pos} :
    PE X (.Call (.Name "isinstance" p0) [.Name "e" p1, .Name "ValueError" p2] [] p3) (fun σ H Q => σ[0]? = some (some (.ref a)) ∧ Q (.bl true) H) := by
  refine peImp (pe_callB (call_isP T.exc T.zc T.fields T.pin) T.isi.1 T.isi.2 boot_isinstance (pa_cons (pe_var (i := 0) (by rw [T.N]; rfl) T.sc.1 (by decide +kernel) (by decide +kernel)) (pa_cons (pe_bltn (v := .ty "ValueError") U.ve.1 U.ve.2.1 ve_boot rfl (by decide) (by decide +kernel)) pa_nil (by rfl)) (by rfl)) (by decide) (by decide) (by rfl) (by rfl)) fun σ H Q ⟨q1, q2⟩ => ?_
  exact ⟨.ref a, q1, .ty "ValueError", .type "ValueError", true, rfl, fun u z => z, U.ve.2.2, q2⟩
theorem stT (T : TermCx X ca a oe n) (U : TermC2 X ca n) {e : Expr} (h : isTest e = true) :
    PT X e (fun σ H Q => ∃ bs ki, TQ a H0 (some bs) ki σ H ∧ (bs.map bI).sum = 1 ∧ ∀ H', TQ a H0 (some bs) ki σ H' → Q false H') := by
  unfold isTest at h
  split at h
  · simp only [Bool.and_eq_true, decide_eq_true_eq] at h
    obtain ⟨rfl, rfl, rfl, rfl, rfl, rfl, rfl, rfl, rfl, rfl, h⟩ := h
    refine ptImp ((pw_or (pt_cmpR op_ne (pSum (H0 := H0) T U h) pe_int rfl) (pw_or1 (pt_not (pt_val (pIsV T U))))).pt) fun σ H Q ⟨bs, ki, t, hs, q⟩ => ?_
    refine ⟨bs, ki, t, fun H' t' => ?_⟩
    refine ⟨rfl, false, ?_, ?_⟩
    · rw [hs]; rfl
    · show (if false = true then _ else _)
      rw [if_neg Bool.false_ne_true]
      exact ⟨t'.e, true, rfl, q _ t'⟩
  · cases h
end
end Rt
set_option maxHeartbeats 2000000
namespace Rt
open PySem PySem.Spec PyProof.Rows L2 HotX L2H
def isOther : List Stmt → Bool
  | [.Return (some (.Tuple [.Constant (.str _) _ _, .Constant (.str _) _ _] _ _)) _] => true
  | _ => false
def isIf : Stmt → Bool
  | .If t b [] _ => isTest t && isOther b
  | _ => false
def isRet : Stmt → Bool
  | .Return (some (.Tuple [.Constant (.str x) _ _, .Subscript (.Name k _) (.Call (.Attribute (.Name f _) m p2) [.Constant (.bool b) _ _] [] p3) _] _ _)) _ =>
    decide (x = "error") && (decide (k = "kinds") && (decide (f = "flags") && (decide (m = "index") && (decide (b = true) && (p2.endLine == p3.line)))))
  | _ => false
def kinds1 : List Str := [excName 0, excName 1, excName 2, excName 3, excName 4, excName 5]
def kinds2 : List Str := [excName 6, excName 7, excName 8, excName 9, excName 10, excName 11]
def ckTerm : List Stmt → Bool
  | [s1, s2, s3, s4, s5, s6, s7, s8] => isAsg "flags" (isLst isIs [0, 1, 2]) s1 && (isAsg "flags" (isCat "flags" (isLst isIs [3, 4, 5])) s2 && (isAsg "flags" (isCat "flags" (isLst isIs [6, 7, 8])) s3 && (isAsg "flags" (isCat "flags" (isLst isIs [9, 10, 11])) s4 &&
      (isAsg "kinds" (isLst isStr kinds1) s5 && (isAsg "kinds" (isCat "kinds" (isLst isStr kinds2)) s6 && (isIf s7 && isRet s8))))))
  | _ => false
def all12 : List Nat := [0, 1, 2, 3, 4, 5, 6, 7, 8, 9, 10, 11]
theorem sum12 : ∀ n, n < 12 → ((isN n all12).map bI).sum = 1 := by decide
theorem at12 : ∀ n, n < 12 → (isN n all12)[n]? = some true ∧ ∀ m, m < n → (isN n all12)[m]? = some false := by decide
theorem kind12 (n : Nat) (h : n < 12) : atI ((kinds1 ++ kinds2).map V.str) ((n : Nat) : Int) = some (V.str (excName n)) := by
  have e : n = 0 ∨ n = 1 ∨ n = 2 ∨ n = 3 ∨ n = 4 ∨ n = 5 ∨ n = 6 ∨ n = 7 ∨ n = 8 ∨ n = 9 ∨ n = 10 ∨ n = 11 := by omega
  rcases e with e | e | e | e | e | e | e | e | e | e | e | e <;> subst e <;> rfl
section
variable {X : Cx} {ca : Nat → Addr} {a : Addr} {oe : Obj} {n : Nat} {H0 : Hp}
theorem stIf (T : TermCx X ca a oe n) (U : TermC2 X ca n) {st : Stmt} (h : isIf st = true) :
    PS X st (fun D σ H => ∃ bs ki, TQ a H0 (some bs) ki σ H ∧ (bs.map bI).sum = 1 ∧ ∀ H', TQ a H0 (some bs) ki σ H' → D.nx σ H') := by
  unfold isIf at h
  split at h
  · simp only [Bool.and_eq_true] at h
    obtain ⟨h1, h2⟩ := h
    unfold isOther at h2
    split at h2
    · refine psImp (ps_if (stT (H0 := H0) T U h1) (pss_one (ps_ret (pe_tup (pa_cons pe_str (pa_cons pe_str pa_nil (by rfl)) (by rfl))))) pss_nil) fun D σ H ⟨bs, ki, t, hs, q⟩ => ?_
      refine ⟨bs, ki, t, hs, fun H' t' => ?_⟩
      show (if false = true then _ else _)
      rw [if_neg Bool.false_ne_true]
      exact q _ t'
    · cases h2
  · cases h
theorem stRet (T : TermCx X ca a oe n) {st : Stmt} (hn : n < 12) (h : isRet st = true) :
    PS X st (fun D σ H => TQ a H0 (some (isN n all12)) (some (kinds1 ++ kinds2)) σ H ∧ ∀ p, H p = none → D.rt (.ref p) (upd H p (.tup [.str "error", .str (excName n)]))) := by
  unfold isRet at h
  split at h
  · simp only [Bool.and_eq_true, decide_eq_true_eq] at h
    obtain ⟨rfl, rfl, rfl, rfl, rfl, h⟩ := h
    refine psImp (ps_ret (pe_tup (pa_cons pe_str (pa_cons (pe_ix ix_list (pe_var (i := 2) (by rw [T.N]; rfl) (.inl T.sc.2.2) (by decide +kernel) (by decide +kernel))
      (pe_bm PySem.F.plainAttrs_list PySem.F.slot_list_index PySem.F.type_list_index mt_index (pe_var (i := 1) (by rw [T.N]; rfl) (.inl T.sc.2.1) (by decide +kernel) (by decide +kernel)) (pa_cons pe_bl pa_nil (by rfl)) (by rfl) (by rfl) h (by rfl) (by rfl)) (plain_ix rfl)) pa_nil (by rfl)) (by rfl)))) fun D σ H ⟨t, q⟩ => ?_
    obtain ⟨l, q1, q2⟩ := t.fl _ rfl
    obtain ⟨k, k1, k2⟩ := t.ki _ rfl
    obtain ⟨a1, a2⟩ := at12 n hn
    refine ⟨.ref k, k1, .ref l, q1, .inl ⟨rfl, _, .inl (.inl q2)⟩, l, _, .bl true, n, .bl true, rfl, rfl, .inl (.inl q2), rfl, ?_, ?_, rfl, fun m z hm hz => ?_, ?_⟩
    · rw [List.all_map, List.all_eq_true]; intro b hb; rfl
    · rw [List.getElem?_map, a1]; rfl
    · rw [List.getElem?_map, a2 m hm] at hz
      cases hz
      rfl
    · refine ⟨k, _, (n : Nat), .str (excName n), rfl, rfl, .inl (.inl k2), ?_, ?_⟩
      · exact kind12 n hn
      · exact ⟨by show 2 ≤ sizeLine; exact line_le (by decide), fun p hp => q p hp⟩
  · cases h
theorem term_body (T : TermCx X ca a oe n) (U : TermC2 X ca n) (hn : n < 12) {body : List Stmt} (h : ckTerm body = true) :
    PSs X body (fun D σ H => TQ a H0 none none σ H ∧ ∀ H' p, (∀ b o, H0 b = some o → H' b = some o) → H' p = none → D.rt (.ref p) (upd H' p (.tup [.str "error", .str (excName n)]))) := by
  unfold ckTerm at h
  split at h
  · simp only [Bool.and_eq_true] at h
    obtain ⟨h1, h2, h3, h4, h5, h6, h7, h8⟩ := h
    refine pssImp (pss_cons (stF1 (H0 := H0) T (by decide) (by decide) h1) (pss_cons (stF2 (H0 := H0) T (by decide) (by decide) h2) (pss_cons (stF2 (H0 := H0) T (by decide) (by decide) h3) (pss_cons (stF2 (H0 := H0) T (by decide) (by decide) h4)
      (pss_cons (stK1 (H0 := H0) T (by decide) h5) (pss_cons (stK2 (H0 := H0) T (by decide) h6) (pss_cons (stIf (H0 := H0) T U h7) (pss_one (stRet (H0 := H0) T hn h8))))))))) fun D σ H ⟨t, q⟩ => ?_
    refine ⟨none, none, t, fun σ1 H1 t1 => ?_⟩
    refine ⟨[0, 1, 2], none, by decide, t1, fun σ2 H2 t2 => ?_⟩
    refine ⟨[0, 1, 2] ++ [3, 4, 5], none, by decide, t2, fun σ3 H3 t3 => ?_⟩
    refine ⟨[0, 1, 2] ++ [3, 4, 5] ++ [6, 7, 8], none, by decide, t3, fun σ4 H4 t4 => ?_⟩
    refine ⟨_, none, t4, fun σ5 H5 t5 => ?_⟩
    refine ⟨_, kinds1, by decide, t5, fun σ6 H6 t6 => ?_⟩
    refine ⟨_, _, t6, sum12 n hn, fun H7 t7 => ?_⟩
    exact ⟨t7, fun p hp => q H7 p t7.ext hp⟩
  · cases h
end
end Rt
set_option maxHeartbeats 2000000
namespace Rt
open PySem PySem.Spec PyProof.Rows L2 HotX L2H
/-- what the top must have left for _law_term -/
structure TermK (K : PySem.W.Frag) (mg : Str → Option Value) (ca : Nat → Addr) (f : Addr) (fd : FuncData) (params : Arguments) (body : List Stmt) (scope : Scope) : Prop where
  fn : FunD K "_law_term" "_law_term" params body scope [] [] f fd
  gl : mg "_law_term" = some (.ref f)
  bind : Binds K fd ["e"] []
  sc : FnScope ["e", "flags", "kinds"] ["e"] scope
  ck : ckTerm body = true
  names : Vis scope "e" ∧ scope.names.lookup ("flags" : Str) = some .local ∧ scope.names.lookup ("kinds" : Str) = some .local
  glob : ∀ x ∈ [("isinstance" : Str), ("sum" : Str), ("ValueError" : Str)], scope.names.lookup x = some .globalImplicit
  globE : ∀ i, i < 12 → scope.names.lookup (excName i) = some .globalImplicit
  free : mg "isinstance" = none ∧ mg "sum" = none ∧ mg "ValueError" = none ∧ mg "int" = none
  cls : ∀ i, i < 12 → mg (excName i) = some (.ref (ca i)) ∧ (excName i == ("__debug__" : Str)) = false
  exc : ∀ n, n < 12 → ExcC K (ca n) ∧ PySem.W.kitOne K (.ref (ca n)) (.type "ValueError") = some true ∧ ∀ i, i < 12 → PySem.W.kitOne K (.ref (ca n)) (.ref (ca i)) = some (decide (i = n))
/-- _law_term(e), e the handled exception of the class n -/
theorem pe_term {X : Cx} {ca : Nat → Addr} {f : Addr} {fd : FuncData} {params : Arguments} {body : List Stmt} {scope : Scope} {k n i : Nat} {a : Addr} {oe : Obj} {x : Str} {p5 p6 p7 : Pos} (K : TermK X.K X.mg ca f fd params body scope) (hr : RoomH (k + 1) X.A) (hn : n < 12)
    (hot : Hot1 X.A (a, oe)) (hp : (a, oe) ∈ X.pn) (hz : Zc (.ref (ca n)) none oe) (hf : ∃ vs, oe.data = .fields vs) (hg : Gl X "_law_term") (hi : X.N[i]? = some x) (hv : Vis X.env.scope x) (hd : (x == ("__debug__" : Str)) = false) (hcd : (x == ("__classdict__" : Str)) = false) :
    PE X (.Call (.Name "_law_term" p5) [.Name x p6] [] p7) (fun σ H Q => σ[i]? = some (some (.ref a)) ∧ ∀ H' p, (∀ b o, H b = some o → H' b = some o) → H' p = none → Q (.ref p) (upd H' p (.tup [.str "error", .str (excName n)]))) := by
  refine ⟨fun pins s σ H Q I h => ?_⟩
  obtain ⟨h1, h⟩ := h
  refine wpAny_Call_Name_kw (ld_glob I hg K.gl ?_ (by decide +kernel))
  have ha : PA X [.Name x p6] (tCons (tVar i) tNil) := pa_cons (pe_var hi hv hd hcd) pa_nil (by rfl)
  refine PySem.W.callWith_K (h₀ := X.base) I.ok.mod.kin K.fn.kp (thn (ha.run p7 pins s σ H (fun vs H1 => vs = [V.ref a] ∧ H1 = H) I ⟨.ref a, h1, rfl, rfl⟩) fun us s1 ⟨vs, H1, I1, r1, ev, eH⟩ => ⟨I1.kIn, ?_⟩) (by rfl) (by rfl)
  subst ev
  rw [eH] at I1
  have P1 := I1.pin (a, oe) (List.mem_append_left _ hp)
  have hpin : PinOk X.stack H s1 (a, oe) := ⟨P1.1, P1.2.1, fun hm => (List.mem_cons.mp (I1.stkSub a hm)).elim P1.2.2.1 P1.2.2.2.1, P1.2.2.2.2⟩
  have hl : us.length = 1 := by rw [← r1.length]; rfl
  have b := K.bind s1 us I1.kIn (by rw [List.append_nil]; exact hl)
  rw [List.append_nil] at b
  obtain ⟨oc, od, dV, kV, doc, pm, an, cdv, ct, osl, efd, lk, hcod, _, _⟩ := K.fn.ex
  subst efd
  refine wpAny_call (codeAny_mono (run_ofH (CX := L2N.CX X.prog X.w) (E := fun _ _ _ => False) (Q := Q) (k := k) lk hcod K.sc hr hot hpin I1.env0 b r1 rfl fun hr' => ?_) fun r s' hq => ?_)
  · obtain ⟨e1, e2, e3⟩ := K.exc n hn
    refine ⟨_, term_body (X := cxH (L2N.CX X.prog X.w) X.prog X.w X.K X.mg X.base ["e", "flags", "kinds"] "_law_term" scope f cdv X.A X.stack s1 H (fun _ _ _ => False) (a, oe)) (H0 := H) (ca := ca) (a := a) (oe := oe) (n := n) ⟨⟨(a, oe), hot, List.mem_singleton.mpr rfl⟩, List.mem_singleton.mpr rfl, hz, hf, e1, rfl, fun _ => rfl, K.names, ⟨K.glob _ (by simp), K.free.1⟩, fun i hi => ⟨K.globE i hi, (K.cls i hi).1, (K.cls i hi).2, e3 i hi⟩⟩
      ⟨⟨K.glob _ (by simp), K.free.2.1⟩, K.free.2.2.2, ⟨K.glob _ (by simp), K.free.2.2.1, e2⟩⟩ hn K.ck, ⟨rfl, rfl, (fun _ z => nomatch z), (fun _ z => nomatch z), (fun _ _ z => z)⟩, fun H' p he hp' => h H' p he hp'⟩
  · cases r with
    | error e =>
      obtain ⟨_, _, _, _, _, _, _, _, _, _, _, _, z⟩ := hq
      exact z.elim
    | ok fl =>
      cases fl with
      | ret u => exact I1.after hq
      | next => exact False.elim hq
      | brk => exact False.elim hq
      | cont => exact False.elim hq
end Rt
set_option maxHeartbeats 2000000
namespace Rt
open PySem PySem.Spec PyProof.Rows L2 HotX L2H LamX
def isTold : List Stmt → Bool
  | [.Try [.Return (some (.Call (.Name d _) [] [] _)) _] [.ExceptHandler (some (.Name r _)) (some n) [.Return (some (.Call (.Name t _) [.Name n2 _] [] _)) _] _] [] [] _] =>
    decide (d = "deed") && (decide (r = "RangeError") && (decide (n = "e") && (decide (t = "_law_term") && decide (n2 = "e"))))
  | _ => false
theorem takes0N {X : Cx} : L2N.Takes X (fun _ _ _ _ => False) := fun _ _ x => by
  obtain ⟨_, _, _, _, _, _, _, _, _, _, _, _, _, _, _, _, z⟩ := x
  exact z.elim
/-- what is let out of the deed: one of the twelve -/
def toldE (ca : Nat → Addr) (Q : VK) : XK := fun cls d H => ∃ n, n < 12 ∧ cls = .ref (ca n) ∧ d = none ∧ ∀ H' p, (∀ b o, H b = some o → H' b = some o) → H' p = none → Q (.ref p) (upd H' p (.tup [.str "error", .str (excName n)]))
structure ToldK (K : PySem.W.Frag) (mg : Str → Option Value) (ca : Nat → Addr) (g : Addr) (fd : FuncData) (params : Arguments) (body : List Stmt) (scope : Scope) (CS : Addr) : Prop where
  fn : FunD K "_law_told" "_law_told" params body scope [] [] g fd
  gl : mg "_law_told" = some (.ref g)
  bind : Binds K fd ["deed"] []
  sc : FnScope ["deed", "e"] ["deed"] scope
  ck : isTold body = true
  names : Vis scope "deed" ∧ scope.names.lookup ("e" : Str) = some .local ∧ scope.names.lookup ("RangeError" : Str) = some .globalImplicit ∧ scope.names.lookup ("_law_term" : Str) = some .globalImplicit
  re : mg "RangeError" = some (.ref CS)
  exm : ∀ n, n < 12 → PySem.W.exmOne K (.ref (ca n)) (.ref CS) = some true
section
variable {P : Program} {w : World} {K : PySem.W.Frag} {mg : Str → Option Value} {base : Heap} {ca : Nat → Addr} {g f0 CS : Addr} {fd fd0 : FuncData} {params params0 : Arguments} {body body0 : List Stmt} {scope scope0 : Scope} {k : Nat}
theorem told_body (T : ToldK K mg ca g fd params body scope CS) (M : TermK K mg ca f0 fd0 params0 body0 scope0) {A : Around} {outer : List PySem.Env} {s : Shared} {H : Hp} {cdv : Value} {f c' : Addr} {q : Str} {tl : XK → Hp → VK → Prop} {Q : VK}
    (hr : RoomH (k + 1) (A.deeper (envOfC "_law_told" scope s.heap.objs.size g cdv)))
    (act : ∀ (W : WX) (pn : List (Addr × Obj)) (xe : Value → Shared → Prop) (E : XK) (p1 p2 : Pos), L2N.Takes ((cxOf (L2N.CX P w) P w K mg base ["deed", "e"] "_law_told" scope g cdv A outer s H (fun _ _ _ => False)).tr pn xe) W → (∀ cls d σ' H', E cls d H' → W cls d σ' H') →
      PE ((cxOf (L2N.CX P w) P w K mg base ["deed", "e"] "_law_told" scope g cdv A outer s H (fun _ _ _ => False)).tr pn xe) (.Call (.Name "deed" p1) [] [] p2) (fun σZ HZ Q => σZ[0]? = some (some (.ref f)) ∧ HZ c' = some (CodeO c' q) ∧ tl E HZ Q))
    (hc : H c' = some (CodeO c' q)) (h : tl (toldE ca Q) H Q) :
    ∃ t, PSs (cxOf (L2N.CX P w) P w K mg base ["deed", "e"] "_law_told" scope g cdv A outer s H (fun _ _ _ => False)) body t ∧ t { nx := fun _ H' => Q .non H', rt := Q } (L2.start ["deed", "e"] [.ref f]) H := by
  have ck := T.ck
  unfold isTold at ck
  split at ck
  · simp only [Bool.and_eq_true, decide_eq_true_eq] at ck
    obtain ⟨rfl, rfl, rfl, rfl, rfl⟩ := ck
    refine ⟨_, pss_one (L2N.ps_try_as (X := cxOf (L2N.CX P w) P w K mg base ["deed", "e"] "_law_told" scope g cdv A outer s H (fun _ _ _ => False)) (c := .ref CS) (i := 1) (Wout := fun _ _ _ _ => False)
      (tb := fun W D σ H => ∃ Ech : XK, (∀ cls d σ' H', Ech cls d H' → W cls d σ' H') ∧ σ[0]? = some (some (.ref f)) ∧ H c' = some (CodeO c' q) ∧ tl Ech H D.rt)
      (ts := fun a cls d D σ H => ∃ (n : Nat) (σ0 : L2.St), n < 12 ∧ cls = .ref (ca n) ∧ d = none ∧ σ = σ0.set 1 (some (.ref a)) ∧ ∀ H' p, (∀ b o, H b = some o → H' b = some o) → H' p = none → D.rt (.ref p) (upd H' p (.tup [.str "error", .str (excName n)])))
      rfl rfl T.sc.nd rfl T.names.2.1 ⟨T.names.2.2.1, by decide +kernel, .inl T.re⟩ takes0N (fun W pn xe tk _ => ?_) (fun a oe cls d pn hz hf => ?_)), ?_⟩
    · refine ⟨fun pins s' σ H' D I ⟨Ech, hW, h1, h2, h3⟩ => ?_⟩
      exact (pss_one (ps_ret (act W pn xe Ech _ _ tk hW))).run pins s' σ H' D I ⟨h1, h2, h3⟩
    · refine ⟨fun pins s' σ H' D I ⟨n, σ0, hn, e1, e2, e3, e4⟩ => ?_⟩
      subst e1 e2
      have e5 : σ[1]? = some (some (.ref a)) := by
        have hl : σ.length = 2 := I.len
        rw [e3] at hl ⊢
        exact List.getElem?_set_self (by rw [List.length_set] at hl; omega)
      obtain ⟨vs, hvs⟩ := id hf
      exact (pss_one (ps_ret (pe_term (X := (cxOf (L2N.CX P w) P w K mg base ["deed", "e"] "_law_told" scope g cdv A outer s H (fun _ _ _ => False)).suite a ((a, oe) :: pn)) (i := 1) (k := k) M ⟨hr.dp, hr.un⟩ hn ⟨rfl, vs, hvs, hz.2.2 vs hvs⟩ List.mem_cons_self hz.zc hf T.names.2.2.2 rfl (.inl T.names.2.1) (by decide +kernel) (by decide +kernel)))).run pins s' σ H' D I ⟨e5, e4⟩
    · refine ⟨toldE ca Q, fun cls d σ' H' ⟨n, hn, e1, e2, e3⟩ => ?_, rfl, hc, h⟩
      subst e1 e2
      exact ⟨true, T.exm n hn, fun _ a _ => ⟨n, σ', hn, rfl, rfl, rfl, e3⟩, fun z => by cases z⟩
  · cases ck
end
end Rt
set_option maxHeartbeats 2000000
namespace Rt
open PySem PySem.Spec PyProof.Rows L2 HotX L2H LamX
def tTold (T : List (Addr × Str)) (ca : Nat → Addr) (t : XK → TE) : TE := fun σ H Q => Tabs T H ∧ ∀ H1, ExtN H H1 → TabK H H1 → Tabs T H1 → t (toldE ca Q) σ H1 Q
theorem pe_told {X : Cx} {T : List (Addr × Str)} {ca : Nat → Addr} {g f0 CS c P : Addr} {fd fd0 : FuncData} {params params0 pl : Arguments} {body body0 : List Stmt} {scope scope0 ls : Scope} {le : Expr} {k : Nat} {t : XK → TE} {p lpos pos : Pos}
    (hg : Gl X "_law_told") (D : ToldK X.K X.mg ca g fd params body scope CS) (M : TermK X.K X.mg ca f0 fd0 params0 body0 scope0)
    (TB : TabB X.base X.mg c P) (hcode : X.env.code = .ref c) (hmT : (P, X.env.qual ++ "<lambda>") ∈ T) (hu : ∀ p ∈ T, p.1 = P → p.2 = X.env.qual ++ "<lambda>") (hr : Room (k + 2) X.A) (L : LamS X.env.scope ls) (hdef : defaultsOf pl X.env = ([], []))
    (hbind : ∀ (q : Str) (cl : List (Str × Addr)) (pm cv ctv : Value), bindArgs (PySem.W.kla_fn "<lambda>" q pl le ls cl pm cv ctv) ⟨[], []⟩ = pure [])
    (hbody : ∀ (A : Around) (outer : List PySem.Env) (s : Shared) (H : Hp) (E : XK) (f c' : Addr), Room k (A.deeper (lamEnv X ls s.heap.objs.size f c')) → PE (lamCxN X A outer s H E ls f c') le (t E)) :
    PE X (.Call (.Name "_law_told" p) [.Lambda pl le ls lpos] [] pos) (tTold T ca t) := by
  refine ⟨fun pins s σ H Q I h => ?_⟩
  obtain ⟨hT, h⟩ := h
  refine wpAny_Call_Name_kw (ld_glob I hg D.gl ?_ (by decide +kernel))
  refine PySem.W.callWith_K (h₀ := X.base) I.ok.mod.kin D.fn.kp ?_ (by rfl) (by rfl)
  show wpAny _ _ (spliced ((false, eval (.Lambda pl le ls lpos) X.env) :: backTo pos (starEach [] X.env))) _ _ s
  refine Calls.spliced_cons (lam_make3 I TB hcode hmT hu hT hdef (L.has I.ok) fun f c' pm' ctv H1 s' I1 eN eT T1 hf hfn hfr hco => ?_)
  refine Calls.spliced_nil ⟨I1.kIn, ?_⟩
  have b := D.bind s' [.ref f] I1.kIn rfl
  rw [List.append_nil] at b
  obtain ⟨oc, od, dV, kV, doc, pm, an, cdv, ct, osl, efd, lk, hcod, _, _⟩ := D.fn.ex
  subst efd
  have rc : codeAny (model X.prog X.w) X.A (.call (.ref g) ⟨[.ref f], []⟩) (CR (L2N.CX X.prog X.w) X.stack X.prog X.w H1 s' Q (fun _ _ _ => False)) s' := by
    refine run_ofS (N := ["deed", "e"]) (ps := ["deed"]) (us := [.ref f]) (vs := [.ref f]) lk hcod D.sc hr I1.env0 b (.cons rfl .nil) rfl fun hr' => ?_
    exact told_body (k := k) D M (roomH_of hr') (fun W pn xe E p1 p2 tk hW => pe_actN (i := 0) I1 L hf hfn hfr (hbind _ _ _ _ _) tk hW hr' (fun A outer s H hr2 => hbody A outer s H E f c' hr2) rfl D.names.1 (by decide +kernel) (by decide +kernel)) hco (h H1 eN eT T1)
  refine wpAny_call (codeAny_mono rc fun r s2 hq => ?_)
  cases r with
  | error e =>
    obtain ⟨_, _, _, _, _, _, _, _, _, _, _, _, z⟩ := hq
    exact z.elim
  | ok fl =>
    cases fl with
    | ret u => exact I1.after hq
    | next => exact False.elim hq
    | brk => exact False.elim hq
    | cont => exact False.elim hq
end Rt
set_option maxHeartbeats 2000000
namespace Rt
open PySem PySem.Spec PyProof.Rows L2 HotX L2H LamX
section
variable {C : Cn} {G : Gam} {F : Nat → List D → Sto → Res D} {k : Nat} {X : Cx} {E : XK}
theorem ev_toldE {c : Rt.E} {r : Env} {st : Sto} : ev F (.told c) r st = caught (ev F c r st) := by rw [ev]
theorem Good.lam (g : Good C G F k X E) {A : Around} {outer : List PySem.Env} {s : Shared} {H : Hp} {E' : XK} {ls : Scope} {f c' : Addr} (hr : Room k (A.deeper (lamEnv X ls s.heap.objs.size f c'))) : Good C G F k (lamCxN X A outer s H E' ls f c') E' :=
  { hK := g.hK, hN := g.hN, nd := g.nd, dbg := g.dbg, calm := rfl, room := hr, tk := lam_takes (X := X) (A := A) (outer := outer) (s := s) (H := H) (E := E') (scope := ls) (f := f) (c' := c'), own := lam_own (X := X) (A := A) (outer := outer) (s := s) (H := H) (E := E') (scope := ls) (f := f) (c' := c'), blt := g.blt, fns := g.fns, exf := g.exf }
theorem ext_lam {mu : List Addr} {H H1 : Hp} (a : ExtN H H1) (b : TabK H H1) : Ext mu mu H H1 :=
  ⟨⟨[], by simp⟩, fun b o h _ n => a b o h n, fun b xs h _ => a b _ h (fun _ z => by cases z), fun p ps h => b p ps h, fun _ h n => absurd h n⟩
theorem srel_lam {mu : List Addr} {st : Sto} {H H1 : Hp} (s : SRel C H mu st) (a : ExtN H H1) (b : TabK H H1) (t : Tabs C.T H1) : SRel C H1 mu st :=
  ⟨s.len, s.nd, fun n p ds h1 h2 => by
    obtain ⟨xs, q1, q2⟩ := s.cel n p ds h1 h2
    exact ⟨xs, a _ _ q1 (fun _ z => by cases z), q2.mono (ext_lam a b)⟩, t⟩
theorem ext_all {mu : List Addr} {H H1 : Hp} (a : ∀ b o, H b = some o → H1 b = some o) : Ext mu mu H H1 := ext_lam (fun b o h _ => a b o h) fun b ps h => ⟨ps, a b _ h⟩
theorem srel_all {mu : List Addr} {st : Sto} {H H1 : Hp} (s : SRel C H mu st) (a : ∀ b o, H b = some o → H1 b = some o) : SRel C H1 mu st := srel_lam s (fun b o h _ => a b o h) (fun b ps h => ⟨ps, a b _ h⟩) (s.tabs.ext a)
theorem sTold (g : Good C G F k X E) {CS gA f0 c P : Addr} {fd fd0 : FuncData} {params params0 pl : Arguments} {body body0 : List Stmt} {scope scope0 ls : Scope} {e : Expr} {es : List Expr} {cs : Es} {f : Nat} {y : Str} {p lpos pos p1 p2 : Pos}
    (hg : Gl X "_law_told") (D : ToldK X.K X.mg C.ca gA fd params body scope CS) (M : TermK X.K X.mg C.ca f0 fd0 params0 body0 scope0)
    (TB : TabB X.base X.mg c P) (hcode : X.env.code = .ref c) (hmT : (P, X.env.qual ++ "<lambda>") ∈ C.T) (hu : ∀ p ∈ C.T, p.1 = P → p.2 = X.env.qual ++ "<lambda>") (hr : Room (k + 2) X.A) (L : LamS X.env.scope ls) (hdef : defaultsOf pl X.env = ([], []))
    (hbind : ∀ (q : Str) (cl : List (Str × Addr)) (pm cv ctv : Value), bindArgs (PySem.W.kla_fn "<lambda>" q pl (.Call (.Name y p1) (e :: es) [] p2) ls cl pm cv ctv) ⟨[], []⟩ = pure [])
    (hf : G.fnm f = some y) (hgy : ls.names.lookup y = some .globalImplicit) (hck : ckEs G.N G.fnm cs ls (e :: es) = true) :
    PE X (.Call (.Name "_law_told" p) [.Lambda pl (.Call (.Name y p1) (e :: es) [] p2) ls lpos] [] pos) (rdE C F (.told (.call f cs)) E) := by
  refine peImp (pe_told (t := fun E' => rdE C F (.call f cs) E') hg D M TB hcode hmT hu hr L hdef hbind fun A outer s H E' f1 c' hr' => ?_) fun σ H Q ⟨H0, mu0, r, st, mu, R, h⟩ => ?_
  · have g' := g.lam (outer := outer) (s := s) (H := H) (E' := E') hr'
    exact sCall g' hf hgy (sndEs cs _ _ _ g' hck) (cks_plain hck)
  · refine ⟨R.srel.tabs, fun H1 a b t => ⟨H0, mu0, r, st, mu, R.step (ext_lam a b) (srel_lam R.srel a b t), ?_⟩⟩
    rw [ev_toldE] at h
    have h1 := Post.mono h (ext_lam (mu := mu) a b)
    cases z : ev F (.call f cs) r st with
    | ok d st1 => rw [z] at h1; exact h1
    | bad => rw [z] at h1; exact h1
    | exc n st1 =>
      rw [z] at h1
      unfold caught at h1
      split at h1
      · next z2 =>
        cases z2
        split at h1
        · next hn =>
          intro H' mu' e1 s1
          refine ⟨n, hn, rfl, rfl, fun H2 p hk hp => ?_⟩
          have h2 := Post.mono (Post.mono h1 e1) (ext_all (mu := mu') hk)
          exact Post.tup h2 (srel_all s1 hk) (.cons (.str _) (.cons (.str _) .nil)) hp
        · exact h1.elim
      · next z2 => exact absurd rfl (z2 _ _)
end
end Rt
set_option maxHeartbeats 2000000
namespace Rt
open PySem PySem.Spec PyProof.Rows L2 HotX L2H LamX
/-- no parameters -/
def noArgs : Arguments → Bool
  | ⟨[], [], none, [], [], none, []⟩ => true
  | _ => false
theorem noArgs_eq {a : Arguments} (h : noArgs a = true) : a = ⟨[], [], none, [], [], none, []⟩ := by
  unfold noArgs at h
  split at h
  · rfl
  · cases h
section
variable (N : List Str) (fnm : Nat → Option Str)
def ckTold (f : Nat) (cs : Es) (sc : Scope) : Expr → Bool
  | .Call (.Name g _) [.Lambda pl (.Call (.Name y _) (e :: es) [] _) ls _] [] _ => decide (g = "_law_told") && (glB sc g && (noArgs pl && (lamSB sc ls && (decide (fnm f = some y) && (decide (ls.names.lookup y = some .globalImplicit) && ckEs N fnm cs ls (e :: es))))))
  | _ => false
def ckX (sc : Scope) : E → Expr → Bool
  | .told c, e => (match c with
    | .call f cs => ckTold N fnm f cs sc e
    | _ => false)
  | .cmp op a b, e => (match e with
    | .Compare x [o] [y] p => cmpB op o && (ckX sc a x && ckE N fnm b sc y)
    | _ => false)
  | .or a b, e => (match e with
    | .BoolOp .Or [x, y] p => ckX sc a x && ckX sc b y
    | e => ckE N fnm (.or a b) sc e)
  | c, e => ckE N fnm c sc e
end
/-- what a def that tells must know -/
structure ToldF (C : Cn) (k : Nat) (X : Cx) : Prop where
  ex : ∃ (CS gA f0 c P : Addr) (fd fd0 : FuncData) (params params0 : Arguments) (body body0 : List Stmt) (scope scope0 : Scope), ToldK X.K X.mg C.ca gA fd params body scope CS ∧ TermK X.K X.mg C.ca f0 fd0 params0 body0 scope0 ∧
    TabB X.base X.mg c P ∧ X.env.code = .ref c ∧ (P, X.env.qual ++ "<lambda>") ∈ C.T ∧ (∀ p ∈ C.T, p.1 = P → p.2 = X.env.qual ++ "<lambda>") ∧ Room (k + 2) X.A
section
variable {C : Cn} {G : Gam} {F : Nat → List D → Sto → Res D} {k : Nat} {X : Cx} {E : XK}
theorem ckTold_plain {N : List Str} {fnm : Nat → Option Str} {f : Nat} {cs : Es} {sc : Scope} {e : Expr} (h : ckTold N fnm f cs sc e = true) : ∃ g as p, e = .Call g as [] p := by
  unfold ckTold at h
  split at h
  · exact ⟨_, _, _, rfl⟩
  · cases h
theorem sndTold (g : Good C G F k X E) (t : ToldF C k X) {f : Nat} {cs : Es} {e : Expr} (h : ckTold G.N G.fnm f cs X.env.scope e = true) : Both C F X E (.told (.call f cs)) e := by
  obtain ⟨g0, as, p, e0⟩ := ckTold_plain h
  have key : PE X e (rdE C F (.told (.call f cs)) E) := by
    unfold ckTold at h
    split at h
    · simp only [Bool.and_eq_true, decide_eq_true_eq] at h
      obtain ⟨rfl, h1, h2, h3, h4, h5, h6⟩ := h
      have h2 := noArgs_eq h2
      subst h2
      obtain ⟨CS, gA, f0, c, P, fd, fd0, params, params0, body, body0, scope, scope0, t1, t2, t3, t4, t5, t6, t7⟩ := t.ex
      exact sTold g (gl_of h1) t1 t2 t3 t4 t5 t6 t7 (lamS_by h3) rfl (fun q cl pm cv ctv => rfl) h4 h5 h6
    · cases h
  rw [e0] at key ⊢
  exact both key fun _ => rfl
theorem sndX (g : Good C G F k X E) (t : ToldF C k X) : ∀ (c : Rt.E) (e : Expr), ckX G.N G.fnm X.env.scope c e = true → Both C F X E c e
  | .told c, e, h => by
    simp only [ckX] at h
    split at h
    · exact sndTold g t h
    · cases h
  | .cmp op a b, e, h => by
    simp only [ckX] at h
    split at h
    · simp only [Bool.and_eq_true] at h
      rw [cmpB_eq h.1]
      have ha := (sndX g t a _ h.2.1).1
      have hb := (sndE b X E _ g h.2.2).1
      have hm := plain_mark (op := cmpOf op) (ck_plain h.2.2)
      exact ⟨sCmp g ha hb hm, tCmp g ha hb hm⟩
    · cases h
  | .or a b, e, h => by
    simp only [ckX] at h
    split at h
    · simp only [Bool.and_eq_true] at h
      have ha := sndX g t a _ h.1
      have hb := sndX g t b _ h.2
      exact ⟨sOr ha.1 (pe_one hb.1), (tOr' ha.2 (pw_or1 hb.2)).pt⟩
    · exact sndE _ X E _ g h
  | .var i, e, h => by simp only [ckX] at h; exact sndE _ X E _ g h
  | .int i, e, h => by simp only [ckX] at h; exact sndE _ X E _ g h
  | .bl i, e, h => by simp only [ckX] at h; exact sndE _ X E _ g h
  | .non, e, h => by simp only [ckX] at h; exact sndE _ X E _ g h
  | .str i, e, h => by simp only [ckX] at h; exact sndE _ X E _ g h
  | .tup i, e, h => by simp only [ckX] at h; exact sndE _ X E _ g h
  | .lst i, e, h => by simp only [ckX] at h; exact sndE _ X E _ g h
  | .cel i, e, h => by simp only [ckX] at h; exact sndE _ X E _ g h
  | .bin i a b, e, h => by simp only [ckX] at h; exact sndE _ X E _ g h
  | .neg a, e, h => by simp only [ckX] at h; exact sndE _ X E _ g h
  | .not a, e, h => by simp only [ckX] at h; exact sndE _ X E _ g h
  | .chain a b c d f, e, h => by simp only [ckX] at h; exact sndE _ X E _ g h
  | .and a b, e, h => by simp only [ckX] at h; exact sndE _ X E _ g h
  | .ite a b c, e, h => by simp only [ckX] at h; exact sndE _ X E _ g h
  | .rep a b, e, h => by simp only [ckX] at h; exact sndE _ X E _ g h
  | .sub a b, e, h => by simp only [ckX] at h; exact sndE _ X E _ g h
  | .subo a b, e, h => by simp only [ckX] at h; exact sndE _ X E _ g h
  | .slice a b c, e, h => by simp only [ckX] at h; exact sndE _ X E _ g h
  | .rev a, e, h => by simp only [ckX] at h; exact sndE _ X E _ g h
  | .call a b, e, h => by simp only [ckX] at h; exact sndE _ X E _ g h
  | .bi a b, e, h => by simp only [ckX] at h; exact sndE _ X E _ g h
  | .comp a b c d f, e, h => by simp only [ckX] at h; exact sndE _ X E _ g h
  | .comp2 a b c d f i j, e, h => by simp only [ckX] at h; exact sndE _ X E _ g h
/-- an assigned one: no comprehension, or as before -/
theorem ckX_swaps {N : List Str} {fnm : Nat → Option Str} {sc : Scope} {c : Rt.E} {e : Expr} (h : ckX N fnm sc c e = true) : ckE N fnm c sc e = true ∨ ∀ t l env, swapsWith e t l env = pure false := by
  cases c with
  | told c =>
    simp only [ckX] at h
    split at h
    · obtain ⟨_, _, _, rfl⟩ := ckTold_plain h
      exact .inr fun _ _ _ => rfl
    · cases h
  | cmp op a b =>
    simp only [ckX] at h
    split at h
    · exact .inr fun _ _ _ => rfl
    · cases h
  | or a b =>
    simp only [ckX] at h
    split at h
    · exact .inr fun _ _ _ => rfl
    · exact .inl h
  | _ => simp only [ckX] at h; exact .inl h
end
end Rt
set_option maxHeartbeats 4000000
namespace Rt
open PySem PySem.Spec PyProof.Rows L2
def lcB (sc : Scope) (x : Str) : Bool := decide (sc.names.lookup x = some .local)
/-- a tuple of targets that is not stored name by name from the right -/
def noSw (sc : Scope) : Expr → Expr → Bool
  | .Tuple ts _ _, .Tuple vs _ _ => (((ts.filterMap fun
      | .Name id pos => if sc.names.lookup id == some .local && pos.line == (ts.head?.map (·.pos.line)).getD 0 then some id else none
      | _ => none).length != ts.length) || vs.all (foldedForSure 8))
  | .Tuple _ _ _, _ => true
  | _, _ => false
/-- an expression of a statement's level -/
def ckV (N : List Str) (fnm : Nat → Option Str) (td : Bool) (sc : Scope) (c : E) (e : Expr) : Bool := if td then ckX N fnm sc c e else ckE N fnm c sc e
section
variable (N : List Str) (fnm exn : Nat → Option Str) (td : Bool) (sc : Scope)
mutual
def ckS : S → Stmt → Bool
  | .pass, .Pass _ => true
  | .asg i e, .Assign [.Name x _] v _ => decide (N[i]? = some x) && (locB sc x && ckV N fnm td sc e v)
  | .asgL i es, .Assign [.Name x _] (.List xs _) _ => decide (N[i]? = some x) && (locB sc x && (decide (es.len ≤ 1000) && ckEs N fnm es sc xs))
  | .asgC i a b, .Assign [.Name x _] (.BinOp y .Add z _) _ => decide (N[i]? = some x) && (locB sc x && (ckE N fnm a sc y && ckE N fnm b sc z))
  | .asgR i es b, .Assign [.Name x _] (.BinOp (.List xs _) .Mult z _) _ => decide (N[i]? = some x) && (locB sc x && (decide (es.len ≤ 1000) && (ckEs N fnm es sc xs && ckE N fnm b sc z)))
  | .asgO i (.comp tg it cond elt own), .Assign [.Name x p2] (.ListComp e [⟨tg', iter, ifs, n⟩] scope pos) _ => decide (N[i]? = some x) && (lcB sc x && ((p2.line == pos.line) && (!(scope.names.any fun (n, k) => n == x && (k == .local || k == .cell)) &&
      ckE N fnm (.comp tg it cond elt own) sc (.ListComp e [⟨tg', iter, ifs, n⟩] scope pos))))
  | .parA i j e, .Assign [.Tuple [.Name x px, .Name y py] kt pt] (.Tuple [a, .List [] pl] k2 pt2) _ => decide (N[i]? = some x) && (decide (N[j]? = some y) && (decide (i ≠ j) && (ckE N fnm e sc a && ((lcB sc x && (lcB sc y && (decide (py.line = px.line) &&
      (!([a, .List [] pl].all (foldedForSure 8)) && !([a, .List [] pl].all (constantsAlone 8)))))) || (locB sc x && (locB sc y && noSw sc (.Tuple [.Name x px, .Name y py] kt pt) (.Tuple [a, .List [] pl] k2 pt2)))))))
  | .parB i j e, .Assign [.Tuple [.Name x px, .Name y py] _ _] (.Tuple [.List [] pl, a] _ _) _ => decide (N[i]? = some x) && (decide (N[j]? = some y) && (decide (i ≠ j) && (ckE N fnm e sc a && (lcB sc x && (lcB sc y && (decide (py.line = px.line) &&
      (!([.List [] pl, a].all (foldedForSure 8)) && !([.List [] pl, a].all (constantsAlone 8)))))))))
  | .par [i, j] es, .Assign [.Tuple [.Name x px, .Name y py] _ _] (.Tuple [a, b] _ _) _ => decide (N[i]? = some x) && (decide (N[j]? = some y) && (decide (i ≠ j) && (lcB sc x && (lcB sc y && (decide (py.line = px.line) &&
      (!([a, b].all (foldedForSure 8)) && (!([a, b].all (constantsAlone 8)) && ckEs N fnm es sc [a, b])))))))
  | .par [i, j, l] es, .Assign [.Tuple [.Name x px, .Name y py, .Name z pz] _ _] (.Tuple [a, b, c] _ _) _ => decide (N[i]? = some x) && (decide (N[j]? = some y) && (decide (N[l]? = some z) && (decide (i ≠ j) && (decide (i ≠ l) && (decide (j ≠ l) && (lcB sc x && (lcB sc y && (lcB sc z &&
      (decide (py.line = px.line) && (decide (pz.line = px.line) && (!([a, b, c].all (foldedForSure 8)) && (!([a, b, c].all (constantsAlone 8)) && ckEs N fnm es sc [a, b, c]))))))))))))
  | .unp tg e, .Assign [t] v _ => ckT N (locB sc) tg t && (noSw sc t v && ckE N fnm e sc v)
  | .app i e, .Expr (.Call (.Attribute (.Name x _) m p2) [v] [] p3) _ => decide (N[i]? = some x) && (visB sc x && (decide (m = "append") && ((p2.endLine == p3.line) && ckE N fnm e sc v)))
  | .setI i x e, .Assign [.Subscript (.Name n _) y _] v _ => decide (N[i]? = some n) && (visB sc n && (ckE N fnm x sc y && ckE N fnm e sc v))
  | .setI2 i x y e f, .Assign [.Tuple [.Subscript (.Name n _) a _, .Subscript (.Name n2 _) b _] _ _] (.Tuple [v, w] _ _) _ => decide (N[i]? = some n) && (decide (n2 = n) && (visB sc n && (ckE N fnm x sc a && (ckE N fnm y sc b && ckEs N fnm (.cons e (.cons f .nil)) sc [v, w]))))
  | .aug i e, .AugAssign (.Name x _) .Add v _ => decide (N[i]? = some x) && (locB sc x && ckE N fnm e sc v)
  | .ex e, .Expr (.Call f as ks p) _ => ckE N fnm e sc (.Call f as ks p)
  | .ret e, .Return (some v) _ => ckV N fnm td sc e v
  | .ifs c a b, .If t x y _ => ckV N fnm td sc c t && (ckSs a x && ckSs b y)
  | .fors tg it b, .For t iter body [] _ => ckT N (locB sc) tg t && (ckI N fnm it sc t iter && ckSs b body)
  | .whl c b, .While t body [] _ => ckE N fnm c sc t && ckSs b body
  | .raise c, .Raise (some (.Call (.Name x _) [.Constant (.str _) _ _] [] _)) none _ => decide (exn c = some x) && glB sc x
  | _, _ => false
def ckSs : Ss → List Stmt → Bool
  | .nil, [] => true
  | .cons (.frz _) r, sts => ckSs r sts
  | .cons s r, st :: sts => ckS s st && ckSs r sts
  | _, _ => false
end
end
theorem block_kind {env : PySem.Env} (h : env.scope.kind = .function) : env.blockKind = .function := by
  unfold Env.blockKind; rw [h]; rfl
theorem any_star {N : List Str} {fnm : Nat → Option Str} {cs : Es} {sc : Scope} {es : List Expr} (h : ckEs N fnm cs sc es = true) : (es.any fun | .Starred .. => true | _ => false) = false := by
  have hp := cks_plain h
  rw [List.any_eq_false]
  intro e he
  have := List.all_eq_true.mp hp e he
  cases e <;> first | exact Bool.false_ne_true | exact (Bool.false_ne_true this).elim
theorem sw2 {env : PySem.Env} {x y : Str} {px py pt pt2 : Pos} {kt k2 : Nat} {a b : Expr} (hk : env.scope.kind = .function) (hx : env.scope.names.lookup x = some .local) (hy : env.scope.names.lookup y = some .local) (hl : py.line = px.line) (hxy : x ≠ y)
    (h0 : ([a, b].any fun | .Starred .. => true | _ => false) = false) (h1 : [a, b].all (foldedForSure 8) = false) (h2 : [a, b].all (constantsAlone 8) = false) :
    swappedStores [.Tuple [.Name x px, .Name y py] kt pt] (.Tuple [a, b] k2 pt2) env = pure (some [x, y]) := by
  have kx : env.kindOf x = some NameKind.local := hx
  have ky : env.kindOf y = some NameKind.local := hy
  have yx : ¬ y = x := fun z => hxy z.symm
  unfold swappedStores
  simp only [block_kind hk, h0, h1, h2, Expr.pos]
  simp [List.filterMap_cons, kx, ky, hl, List.eraseDups_cons, yx, List.filter_cons]
  intro hz
  simp only [List.any_cons, List.any_nil, Bool.or_false, Bool.or_eq_false_iff] at h0
  rcases hz with hz | hz
  · exact (Bool.false_ne_true (h0.1.symm.trans hz)).elim
  · exact (Bool.false_ne_true (h0.2.symm.trans hz)).elim
theorem sw3 {env : PySem.Env} {x y z : Str} {px py pz pt pt2 : Pos} {kt k2 : Nat} {a b c : Expr} (hk : env.scope.kind = .function) (hx : env.scope.names.lookup x = some .local) (hy : env.scope.names.lookup y = some .local) (hz : env.scope.names.lookup z = some .local) (hl : py.line = px.line) (hl2 : pz.line = px.line) (hxy : x ≠ y) (hxz : x ≠ z) (hyz : y ≠ z)
    (h0 : ([a, b, c].any fun | .Starred .. => true | _ => false) = false) (h1 : [a, b, c].all (foldedForSure 8) = false) (h2 : [a, b, c].all (constantsAlone 8) = false) :
    swappedStores [.Tuple [.Name x px, .Name y py, .Name z pz] kt pt] (.Tuple [a, b, c] k2 pt2) env = pure (some [x, y, z]) := by
  have kx : env.kindOf x = some NameKind.local := hx
  have ky : env.kindOf y = some NameKind.local := hy
  have kz : env.kindOf z = some NameKind.local := hz
  have yx : ¬ y = x := fun z => hxy z.symm
  have zx : ¬ z = x := fun e => hxz e.symm
  have zy : ¬ z = y := fun e => hyz e.symm
  unfold swappedStores
  simp only [block_kind hk, h0, h1, h2, Expr.pos]
  simp [List.filterMap_cons, kx, ky, kz, hl, hl2, List.eraseDups_cons, yx, zx, zy, List.filter_cons]
  intro hz
  simp only [List.any_cons, List.any_nil, Bool.or_false, Bool.or_eq_false_iff] at h0
  rcases hz with hz | hz | hz
  · exact (Bool.false_ne_true (h0.1.symm.trans hz)).elim
  · exact (Bool.false_ne_true (h0.2.1.symm.trans hz)).elim
  · exact (Bool.false_ne_true (h0.2.2.symm.trans hz)).elim
theorem noSw_none {env : PySem.Env} {t v : Expr} (h : noSw env.scope t v = true) : swappedStores [t] v env = pure none := by
  cases t with
  | Tuple ts j p =>
    cases v with
    | Tuple vs j2 p2 =>
      unfold noSw at h
      unfold swappedStores
      simp only at h ⊢
      rw [Bool.or_eq_true] at h
      split
      · rfl
      · split
        · rfl
        · rcases h with h | h
          · have e : ∀ id, (env.kindOf id == some NameKind.local) = (List.lookup id env.scope.names == some NameKind.local) := fun _ => rfl
            simp only [e]
            exact if_pos (Bool.or_eq_true_iff.mpr (.inl h))
          · split
            · rfl
            · first | rfl | rw [if_pos h]
    | _ => rfl
  | _ => cases h
theorem loc_def {sc : Scope} {x : Str} (h : locB sc x = true) : Loc sc x := by
  unfold locB at h
  split at h
  · next z => exact .inl z
  · next z => exact .inr z
  · cases h
theorem star2 {a b : Expr} (ha : plainE a = true) (hb : plainE b = true) : ([a, b].any fun | .Starred .. => true | _ => false) = false := by
  rw [List.any_eq_false]
  intro e he
  have : plainE e = true := by
    have : e = a ∨ e = b := by simpa using he
    rcases this with z | z
    · rw [z]; exact ha
    · rw [z]; exact hb
  cases e <;> first | exact Bool.false_ne_true | exact (Bool.false_ne_true this).elim
theorem ck_swaps {N : List Str} {fnm : Nat → Option Str} {c : E} {sc : Scope} {e : Expr} {t : Option Expr} {l : Nat} {env : PySem.Env} (h : ckE N fnm c sc e = true) : (∃ a b s p, e = .ListComp a b s p) ∨ swapsWith e t l env = pure false := by
  cases e with
  | ListComp a b s p => exact .inl ⟨a, b, s, p, rfl⟩
  | SetComp a b s p => exfalso; cases c <;> unfold ckE at h <;> first | cases h | (split at h <;> contradiction)
  | DictComp a b d s p => exfalso; cases c <;> unfold ckE at h <;> first | cases h | (split at h <;> contradiction)
  | _ => exact .inr rfl
section
variable {C : Cn} {G : Gam} {F : Nat → List D → Sto → Res D} {W : Nat} {k : Nat} {X : Cx} {E : XK}
/-- name = a comprehension -/
theorem zAsgAny (g : Good C G F k X E) (hk : X.env.scope.kind = .function) (hfn : ∀ x, X.fn x = true) {i : Nat} {x : Str} {c : Rt.E} {v : Expr} {p p2 : Pos} (hi : G.N[i]? = some x) (hx : locB X.env.scope x = true) (h : ckE G.N G.fnm c X.env.scope v = true) :
    PS X (.Assign [.Name x p2] v p) (rdS C F W (.asg i c) E) := by
  rcases ck_swaps (t := some (.Name x p2)) (l := p.line) (env := X.env) h with ⟨a, gs, scope, pos, rfl⟩ | hs
  · by_cases sw : X.env.scope.names.lookup x = some .local ∧ (p2.line == pos.line) = true ∧ (scope.names.any fun (n, k) => n == x && (k == .local || k == .cell)) = false
    · cases c with
      | comp tg it cond elt own =>
        unfold ckE at h
        split at h <;> first | contradiction | skip
        all_goals (rename_i z; cases z)
        simp only [Bool.and_eq_true, decide_eq_true_eq] at h
        rename_i z2
        cases z2
        obtain ⟨h0, h1, h2, h3, h4, h5, h6, h7⟩ := h
        subst h0
        refine zAsgLc g (ownL := ownL G.N own) hi sw.1 (sw_true hk sw.1 sw.2.1 sw.2.2) (fun i hi => ?_) h2 (sndI it X E _ _ g h5) (blkOk_by (by rw [g.hN]; exact h1)) (cki_plain h5) (fun s H C' cl fp => ?_) (fun s H C' cl fp => ?_) (fun s H C' cl fp => ?_)
        · have := List.all_eq_true.mp h3 i hi
          simpa using this
        · exact sndG (g.blk s H _ _ fp) (fun x hx => loc_blk hx) h4
        · exact sndC cond _ E0 _ (g.blk s H _ (compEnvC _ cl C' X.env) fp) h6
        · exact (sndE elt _ E0 _ (g.blk s H _ (compEnvC _ cl C' X.env) fp) h7).1
      | comp2 tg it tg2 it2 elt own own2 =>
        unfold ckE at h
        split at h <;> first | contradiction | skip
        all_goals (rename_i z; cases z)
        simp only [Bool.and_eq_true, decide_eq_true_eq] at h
        rename_i z2
        cases z2
        obtain ⟨h0, h00, h1, h2, h3, h3b, h3c, h4, h4b, h5, h5b, h7⟩ := h
        subst h0 h00
        refine zAsgLc2 g (ownL := ownL G.N own) hi sw.1 (sw_true hk sw.1 sw.2.1 sw.2.2) (fun i hi => ?_) (fun i hi => ?_) (fun i hi => ?_) h2 (sndI it X E _ _ g h5) (blkOk_by (by rw [g.hN]; exact h1)) (cki_plain h5) (cki_plain h5b) (fun s H C' cl fp => ?_) (fun s H C' cl fp => ?_) (fun s H C' cl fp => ?_) (fun s H C' cl fp => ?_)
        · have := List.all_eq_true.mp h3 i hi
          simpa using this
        · have := List.all_eq_true.mp h3b i hi
          simpa using this
        · have := List.all_eq_true.mp h3c i hi
          simpa using this
        · exact sndG (g.blk s H _ _ fp) (fun x hx => loc_blk hx) h4
        · exact sndI it2 _ E0 _ _ (g.blk s H _ (compEnvC _ cl C' X.env) fp) h5b
        · exact sndG (g.blk s H _ _ fp) (fun x hx => loc_blk hx) h4b
        · exact (sndE elt _ E0 _ (g.blk s H _ (compEnvC _ cl C' X.env) fp) h7).1
      | _ => unfold ckE at h; first | cases h | (split at h <;> contradiction)
    · refine zAsg g hi (loc_def hx) (.inl (hfn x)) (sndE c X E _ g h).1 ?_
      have e : (X.env.blockKind == .function && X.env.kindOf x == some .local && p2.line == pos.line && !(scope.names.any fun (n, k) => n == x && (k == .local || k == .cell))) = false := by
        by_cases a1 : X.env.scope.names.lookup x = some .local
        · by_cases a2 : (p2.line == pos.line) = true
          · have a3 : (scope.names.any fun (n, k) => n == x && (k == .local || k == .cell)) = true := by
              cases q : (scope.names.any fun (n, k) => n == x && (k == .local || k == .cell)) with
              | true => rfl
              | false => exact absurd ⟨a1, a2, q⟩ sw
            rw [a3]; simp
          · rw [Bool.not_eq_true] at a2
            rw [a2]; simp
        · have : (X.env.kindOf x == some .local) = false := by
            show (X.env.scope.names.lookup x == some .local) = false
            exact beq_eq_false_iff_ne.mpr a1
          rw [this]; simp
      unfold swapsWith
      simp only [Expr.pos]
      exact congrArg pure e
  · exact zAsg g hi (loc_def hx) (.inl (hfn x)) (sndE c X E _ g h).1 hs
variable {td : Bool}
theorem sndV (g : Good C G F k X E) (tf : td = true → ToldF C k X) {c : Rt.E} {e : Expr} (h : ckV G.N G.fnm td X.env.scope c e = true) : Both C F X E c e := by
  unfold ckV at h
  split at h
  · next z => exact sndX g (tf z) c e h
  · exact sndE c X E e g h
mutual
theorem sndS (g : Good C G F k X E) (tf : td = true → ToldF C k X) (hk : X.env.scope.kind = .function) (hfn : ∀ x, X.fn x = true) : ∀ (s : S) (t : Stmt), ckS G.N G.fnm G.exn td X.env.scope s t = true → PS X t (rdS C F W s E)
  | .pass, t, h => by
    unfold ckS at h
    split at h <;> first | contradiction | skip
    all_goals (rename_i z; try cases z)
    exact zPass
  | .frz i, t, h => by
    unfold ckS at h
    cases h
  | .asg i e, t, h => by
    unfold ckS at h
    split at h <;> first | contradiction | skip
    all_goals (rename_i z; cases z)
    simp only [Bool.and_eq_true, decide_eq_true_eq] at h
    obtain ⟨h1, h2, h3⟩ := h
    unfold ckV at h3
    split at h3
    · next z =>
      rcases ckX_swaps h3 with q | q
      · exact zAsgAny g hk hfn h1 h2 q
      · exact zAsg g h1 (loc_def h2) (.inl (hfn _)) (sndX g (tf z) _ _ h3).1 (q _ _ _)
    · exact zAsgAny g hk hfn h1 h2 h3
  | .asgL i es, t, h => by
    unfold ckS at h
    split at h <;> first | contradiction | skip
    all_goals (rename_i z; cases z)
    simp only [Bool.and_eq_true, decide_eq_true_eq] at h
    exact zAsgL g h.1 (loc_def h.2.1) (.inl (hfn _)) (sndEs es X E _ g h.2.2.2) h.2.2.1
  | .asgC i a b, t, h => by
    unfold ckS at h
    split at h <;> first | contradiction | skip
    all_goals (rename_i z; cases z)
    simp only [Bool.and_eq_true, decide_eq_true_eq] at h
    exact zAsgC g h.1 (loc_def h.2.1) (.inl (hfn _)) (sndE a X E _ g h.2.2.1).1 (sndE b X E _ g h.2.2.2).1
  | .asgR i es b, t, h => by
    unfold ckS at h
    split at h <;> first | contradiction | skip
    all_goals (rename_i z; cases z)
    simp only [Bool.and_eq_true, decide_eq_true_eq] at h
    exact zAsgR g h.1 (loc_def h.2.1) (.inl (hfn _)) (sndEs es X E _ g h.2.2.2.1) h.2.2.1 (sndE b X E _ g h.2.2.2.2).1
  | .asgO i c, t, h => by
    unfold ckS at h
    split at h <;> first | contradiction | skip
    all_goals (rename_i z; cases z)
    rename_i z2
    cases z2
    simp only [Bool.and_eq_true, decide_eq_true_eq, Bool.not_eq_true'] at h
    obtain ⟨k1, k2, k3, k4, h⟩ := h
    unfold ckE at h
    simp only [Bool.and_eq_true, decide_eq_true_eq] at h
    obtain ⟨h0, h1, h2, h3, h4, h5, h6, h7⟩ := h
    subst h0
    have hx := of_decide_eq_true k2
    refine zAsgO g (ownL := ownL G.N _) k1 hx (sw_true hk hx k3 k4) (fun i hi => ?_) h2 (sndI _ X E _ _ g h5) (blkOk_by (by rw [g.hN]; exact h1)) (cki_plain h5) (fun s H C' cl fp => ?_) (fun s H C' cl fp => ?_) (fun s H C' cl fp => ?_)
    · have := List.all_eq_true.mp h3 i hi
      simpa using this
    · exact sndG (g.blk s H _ _ fp) (fun x hx => loc_blk hx) h4
    · exact sndC _ _ E0 _ (g.blk s H _ (compEnvC _ cl C' X.env) fp) h6
    · exact (sndE _ _ E0 _ (g.blk s H _ (compEnvC _ cl C' X.env) fp) h7).1
  | .parA i j c, t, h => by
    unfold ckS at h
    split at h <;> first | contradiction | skip
    all_goals (rename_i z; cases z)
    simp only [Bool.and_eq_true, Bool.or_eq_true, decide_eq_true_eq, Bool.not_eq_true'] at h
    obtain ⟨h1, h2, h3, h4, h5⟩ := h
    have hpa := ck_plain h4
    rcases h5 with ⟨a1, a2, a3, a4, a5⟩ | ⟨a1, a2, a3⟩
    · have hx := of_decide_eq_true a1
      have hy := of_decide_eq_true a2
      exact zParA g h1 h2 h3 hx hy (sndE _ X E _ g h4).1 hpa (sw2 hk hx hy a3 (fun e => h3 (nodup_at g.nd h1 (e ▸ h2))) (star2 hpa rfl) a4 a5)
    · exact zParC g h1 h2 ⟨loc_def a1, .inl (hfn _)⟩ ⟨loc_def a2, .inl (hfn _)⟩ (sndE _ X E _ g h4).1 hpa (noSw_none a3)
  | .parB i j c, t, h => by
    unfold ckS at h
    split at h <;> first | contradiction | skip
    all_goals (rename_i z; cases z)
    simp only [Bool.and_eq_true, decide_eq_true_eq, Bool.not_eq_true'] at h
    obtain ⟨h1, h2, h3, h4, a1, a2, a3, a4, a5⟩ := h
    have hpa := ck_plain h4
    have hx := of_decide_eq_true a1
    have hy := of_decide_eq_true a2
    exact zParB g h1 h2 h3 hx hy (sndE _ X E _ g h4).1 hpa (sw2 hk hx hy a3 (fun e => h3 (nodup_at g.nd h1 (e ▸ h2))) (star2 rfl hpa) a4 a5)
  | .par is es, t, h => by
    unfold ckS at h
    split at h <;> first | contradiction | skip
    all_goals (rename_i z; cases z)
    · simp only [Bool.and_eq_true, decide_eq_true_eq, Bool.not_eq_true'] at h
      obtain ⟨h1, h2, h3, h4, h5, h6, h7, h8, h9⟩ := h
      have hx := of_decide_eq_true h4
      have hy := of_decide_eq_true h5
      exact zPar2 g h1 h2 h3 hx hy (sndEs es X E _ g h9) (sw2 hk hx hy h6 (fun e => h3 (nodup_at g.nd h1 (e ▸ h2))) (any_star h9) h7 h8)
    · simp only [Bool.and_eq_true, decide_eq_true_eq, Bool.not_eq_true'] at h
      obtain ⟨h1, h2, h2b, h3, h3b, h3c, h4, h5, h5b, h6, h6b, h7, h8, h9⟩ := h
      have hx := of_decide_eq_true h4
      have hy := of_decide_eq_true h5
      have hz := of_decide_eq_true h5b
      exact zPar3 g h1 h2 h2b h3 h3b h3c hx hy hz (sndEs es X E _ g h9) (sw3 hk hx hy hz h6 h6b (fun e => h3 (nodup_at g.nd h1 (e ▸ h2))) (fun e => h3b (nodup_at g.nd h1 (e ▸ h2b))) (fun e => h3c (nodup_at g.nd h2 (e ▸ h2b))) (any_star h9) h7 h8)
  | .unp tg e, t, h => by
    unfold ckS at h
    split at h <;> first | contradiction | skip
    all_goals (rename_i z; cases z)
    simp only [Bool.and_eq_true] at h
    obtain ⟨h1, h2, h3⟩ := h
    rename_i t' v _
    refine zUnp g (sndG g (fun x hx => ⟨loc_def hx, .inl (hfn x)⟩) h1) (sndE e X E _ g h3).1 ?_ (noSw_none h2) ?_
    · cases t' with
      | Tuple ts j p => cases v <;> rfl
      | _ => cases h2
    · exact (ckT_each (es := []) (env := X.env) h1).1
  | .app i e, t, h => by
    unfold ckS at h
    split at h <;> first | contradiction | skip
    all_goals (rename_i z; cases z)
    simp only [Bool.and_eq_true, decide_eq_true_eq] at h
    obtain ⟨h1, h2, rfl, h3, h4⟩ := h
    exact zApp g h1 (vis_of h2) (sndE e X E _ g h4).1 (ck_plain h4) h3
  | .setI i x e, t, h => by
    unfold ckS at h
    split at h <;> first | contradiction | skip
    all_goals (rename_i z; cases z)
    simp only [Bool.and_eq_true, decide_eq_true_eq] at h
    exact zSetI g h.1 (vis_of h.2.1) (sndE x X E _ g h.2.2.1).1 (ck_plain h.2.2.1) (sndE e X E _ g h.2.2.2).1
  | .setI2 i x y e f, t, h => by
    unfold ckS at h
    split at h <;> first | contradiction | skip
    all_goals (rename_i z; cases z)
    simp only [Bool.and_eq_true, decide_eq_true_eq] at h
    obtain ⟨h1, rfl, h2, h3, h4, h5⟩ := h
    exact zSetI2 g h1 (vis_of h2) (sndE x X E _ g h3).1 (ck_plain h3) (sndE y X E _ g h4).1 (ck_plain h4) (sndEs _ X E _ g h5)
  | .aug i e, t, h => by
    unfold ckS at h
    split at h <;> first | contradiction | skip
    all_goals (rename_i z; cases z)
    simp only [Bool.and_eq_true, decide_eq_true_eq] at h
    exact zAug g h.1 (loc_def h.2.1) (.inl (hfn _)) (sndE e X E _ g h.2.2).1
  | .ex e, t, h => by
    unfold ckS at h
    split at h <;> first | contradiction | skip
    all_goals (rename_i z; cases z)
    exact zEx (sndE e X E _ g h).1 rfl
  | .ret e, t, h => by
    unfold ckS at h
    split at h <;> first | contradiction | skip
    all_goals (rename_i z; cases z)
    exact zRet (sndV g tf h).1
  | .ifs c a b, t, h => by
    unfold ckS at h
    split at h <;> first | contradiction | skip
    all_goals (rename_i z; cases z)
    simp only [Bool.and_eq_true] at h
    exact zIf (sndV g tf h.1).2 (sndSs g tf hk hfn a _ h.2.1) (sndSs g tf hk hfn b _ h.2.2)
  | .fors tg it b, t, h => by
    unfold ckS at h
    split at h <;> first | contradiction | skip
    all_goals (rename_i z; cases z)
    simp only [Bool.and_eq_true] at h
    exact zFor g (sndI it X E _ _ g h.2.1) (cki_plain h.2.1) (sndG g (fun x hx => ⟨loc_def hx, .inl (hfn x)⟩) h.1) (sndSs g tf hk hfn b _ h.2.2)
  | .whl c b, t, h => by
    unfold ckS at h
    split at h <;> first | contradiction | skip
    all_goals (rename_i z; cases z)
    simp only [Bool.and_eq_true] at h
    exact zWhile g (sndE c X E _ g h.1).2 (sndSs g tf hk hfn b _ h.2)
  | .raise c, t, h => by
    unfold ckS at h
    split at h <;> first | contradiction | skip
    all_goals (rename_i z; cases z)
    simp only [Bool.and_eq_true, decide_eq_true_eq] at h
    exact zRaise g h.1 (gl_of h.2)
theorem sndSs (g : Good C G F k X E) (tf : td = true → ToldF C k X) (hk : X.env.scope.kind = .function) (hfn : ∀ x, X.fn x = true) : ∀ (s : Ss) (t : List Stmt), ckSs G.N G.fnm G.exn td X.env.scope s t = true → PSs X t (rdSs C F W s E)
  | .nil, [], h => zNil
  | .nil, _ :: _, h => by simp [ckSs] at h
  | .cons (.frz i) r, t, h => by
    rw [ckSs] at h
    exact zFrz (sndSs g tf hk hfn r t h)
  | .cons s r, [], h => by
    cases s with
    | frz i => rw [ckSs] at h; exact zFrz (sndSs g tf hk hfn r [] h)
    | _ => simp [ckSs] at h
  | .cons s r, t :: ts, h => by
    cases s with
    | frz i => rw [ckSs] at h; exact zFrz (sndSs g tf hk hfn r _ h)
    | _ =>
      simp only [ckSs, Bool.and_eq_true] at h
      exact zCons (sndS g tf hk hfn _ t h.1) (sndSs g tf hk hfn r ts h.2)
end
end
end Rt
set_option maxHeartbeats 4000000
namespace Rt
open PySem PySem.Spec PyProof.Rows L2
/-- a def of the text with its core form -/
structure Ent where
  id : Nat
  name : Str
  ps : List Str
  N : List Str
  d : Def
  st : Stmt
def scopeB (N ps : List Str) (sc : Scope) : Bool := decide (sc.kind = .function) && (!sc.isCoroutine && (!sc.isGenerator && (decide N.Nodup && (decide (N.take ps.length = ps) && ((ps.all fun x => locB sc x) && sc.names.all fun y => decide (y.2 ≠ .free))))))
theorem scope_of {N ps : List Str} {sc : Scope} (h : scopeB N ps sc = true) : FnScope N ps sc := by
  unfold scopeB at h
  simp only [Bool.and_eq_true, decide_eq_true_eq, Bool.not_eq_true', List.all_eq_true] at h
  obtain ⟨h1, h2, h3, h4, h5, h6, h7⟩ := h
  refine ⟨h1, h2, h3, h4, h5, fun x hx => ?_, h7⟩
  have := loc_def (h6 x hx)
  exact this
def dbgB (N : List Str) : Bool := N.all fun x => !(x == ("__debug__" : Str)) && !(x == ("__classdict__" : Str))
def nmOf (es : List Ent) (f : Nat) : Option Str := (es.find? fun e => e.id == f).map (·.name)
def ckEnt (es : List Ent) (exn : Nat → Option Str) (td : Bool) (e : Ent) : Bool := scopeB e.N e.ps (defScope e.st) && (dbgB e.N && (!(e.name == ("__debug__" : Str)) && (decide (e.d.np = e.ps.length) && (decide (e.d.nn = e.N.length) &&
  ckSs e.N (nmOf es) exn td (defScope e.st) e.d.body (defBody e.st)))))
/-- what is not checked by computing -/
structure EntOk (Pd : Nat → Option Def) (e : Ent) : Prop where
  def_ : Pd e.id = some e.d
  bind : ∀ (kV doc pm : Value) (an : Option Addr) (cdv ct : Value) (us : List Value), us.length = e.ps.length → bindArgs (PySem.W.fnOf e.name e.name (defArgs e.st) (defBody e.st) (defScope e.st) .none kV doc pm an cdv ct) ⟨us, []⟩ = pure (e.ps.zip us)
inductive AllOk (Pd : Nat → Option Def) : List Ent → Prop where
  | nil : AllOk Pd []
  | cons {e : Ent} {es : List Ent} (h : EntOk Pd e) (t : AllOk Pd es) : AllOk Pd (e :: es)
theorem AllOk.get {Pd : Nat → Option Def} : ∀ {es : List Ent} {e : Ent}, AllOk Pd es → e ∈ es → EntOk Pd e
  | _, _, .nil, h => absurd h (by simp)
  | _, _, .cons h t, m => by
    rcases List.mem_cons.mp m with z | z
    · rw [z]; exact h
    · exact AllOk.get t z
theorem nmOf_some {es : List Ent} {f : Nat} {x : Str} (h : nmOf es f = some x) : ∃ e, e ∈ es ∧ e.id = f ∧ e.name = x := by
  unfold nmOf at h
  cases z : es.find? fun e => e.id == f with
  | none => rw [z] at h; cases h
  | some e =>
    rw [z] at h
    cases h
    have := List.find?_some z
    exact ⟨e, List.mem_of_find?_eq_some z, by simpa using this, rfl⟩
/-- where a function object lies -/
def LkF (K : PySem.W.Frag) (f : Addr) (fd : FuncData) : Prop := ∃ oc od osl, K.lookup f = some ⟨oc, od, .func fd, osl⟩
theorem LkF.uniq {K : PySem.W.Frag} {f : Addr} {fd fd' : FuncData} (a : LkF K f fd) (b : LkF K f fd') : fd = fd' := by
  obtain ⟨_, _, _, a⟩ := a
  obtain ⟨_, _, _, b⟩ := b
  have e := a.symm.trans b
  cases e
  rfl
theorem lkF_of {K : PySem.W.Frag} {x q : Str} {p : Arguments} {b : List Stmt} {sc : Scope} {dvs : List V} {kws : List (Str × V)} {f : Addr} {fd : FuncData} (h : FunD K x q p b sc dvs kws f fd) : LkF K f fd := by
  obtain ⟨oc, od, _, _, _, _, _, _, _, osl, _, h, _⟩ := h.ex
  exact ⟨oc, od, osl, h⟩
theorem run_of {Pd : Nat → Option Def} {W n f : Nat} {d : Def} {ds : List D} {s : Sto} (h : Pd f = some d) : run Pd W (n + 1) f ds s = body (run Pd W n) W d ds s := by
  rw [run, h]
section
variable {P : Program} {w : World} {K : PySem.W.Frag} {mg : Str → Option Value} {base : Heap} {C : Cn} {es : List Ent} {exn : Nat → Option Str} {Pd : Nat → Option Def} {W : Nat}
theorem start_rel {H : Hp} {mu : List Addr} {st : Sto} {vs : List V} {ds : List D} {N : List Str} {nn np : Nat} (q : SdA C.K H mu vs ds) (s : SRel C H mu st) (hn : nn = N.length) (hp : np = ds.length) (hl : np ≤ nn) :
    Rel C H mu (L2.start N vs) H (ds.map .val ++ List.replicate (nn - np) .no) st mu := by
  have e : vs.length = ds.length := q.length
  refine ⟨?_, fun i sl hi => ?_, fun i j a ds' es' hij h1 h2 h3 h4 => ?_, s, .refl⟩
  · unfold L2.start
    simp only [List.length_append, List.length_map, List.length_replicate]
    omega
  · by_cases hlt : i < ds.length
    · rw [List.getElem?_append_left (by simpa using hlt), List.getElem?_map] at hi
      cases z : ds[i]? with
      | none => rw [z] at hi; cases hi
      | some d =>
        rw [z] at hi
        cases hi
        obtain ⟨v, hv, hs⟩ := q.get z
        have : (L2.start N vs)[i]? = some (some v) := by
          unfold L2.start
          rw [List.getElem?_append_left (by rw [List.length_map, e]; exact hlt), List.getElem?_map, hv]
          rfl
        rw [this]
        exact hs
    · rw [List.getElem?_append_right (by simpa using hlt), List.getElem?_replicate] at hi
      split at hi
      · cases hi; exact trivial
      · cases hi
  · by_cases hlt : i < ds.length
    · rw [List.getElem?_append_left (by simpa using hlt), List.getElem?_map] at h3
      cases z : ds[i]? with
      | none => rw [z] at h3; cases h3
      | some d => rw [z] at h3; cases h3
    · rw [List.getElem?_append_right (by simpa using hlt), List.getElem?_replicate] at h3
      split at h3 <;> cases h3
/-- what the program's top must have left -/
structure Left (K : PySem.W.Frag) (mg : Str → Option Value) (C : Cn) (es : List Ent) (exn : Nat → Option Str) : Prop where
  hK : C.K = K
  blt : ∀ x ∈ bltNames, mg x = none
  fn : ∀ e ∈ es, mg e.name = some (.ref (He.ga K e.name)) ∧ ∃ fd, FunD K e.name e.name (defArgs e.st) (defBody e.st) (defScope e.st) [] [] (He.ga K e.name) fd
  exf : ∀ c x, exn c = some x → (x == ("__debug__" : Str)) = false ∧ mg x = some (.ref (C.ca c)) ∧ PySem.W.excIn K (C.ca c) HandSPX.veTail "ValueError.__new__" = true ∧ PySem.W.keepIn K (.ref (C.ca c)) = true ∧
    PySem.W.subIn K (.ref (C.ca c)) (.type "BaseException") = some true ∧ PySem.W.typeIn K (.ref (C.ca c)) = some (.type "type")
/-- EVERY DEF IS THE FUNCTION THAT THE CORE LANGUAGE SAYS -/
theorem defs_ok (L : Left K mg C es exn) (hc : es.all (ckEnt es exn false) = true) (hb : AllOk Pd es) : ∀ (n : Nat) (e : Ent), e ∈ es → ∃ fd, LkF K (He.ga K e.name) fd ∧ Binds K fd e.ps [] ∧ (∀ (s : Shared) (us : List Value), us.length = e.ps.length → BindsTo s fd ⟨us, []⟩ (e.ps.zip us)) ∧ PySem.W.keepIn K (.ref (He.ga K e.name)) = true ∧
    FnOk P w K mg base (L2N.CX P w) n (He.ga K e.name) fd e.ps (spec C (run Pd W n e.id) e.ps.length)
  | 0, e, he => by
    obtain ⟨_, fd, hF⟩ := L.fn e he
    refine ⟨fd, lkF_of hF, hF.bindsN (hb.get he).bind, fun s us hl => hF.bindsA (hb.get he).bind s us hl, hF.kp, ⟨fun vs H Q E h => h.1, fun A outer s H args us vs Q E hr he0 hbn hv h => ?_⟩⟩
    obtain ⟨_, ds, st, mu, _, _, h⟩ := h
    exact h.elim
  | n + 1, e, he => by
    obtain ⟨hm, fd, hF⟩ := L.fn e he
    have hck := List.all_eq_true.mp hc e he
    unfold ckEnt at hck
    simp only [Bool.and_eq_true, decide_eq_true_eq, Bool.not_eq_true'] at hck
    obtain ⟨h1, h2, h3, h4, h5, h6⟩ := hck
    have S := scope_of h1
    refine ⟨fd, lkF_of hF, hF.bindsN (hb.get he).bind, fun s us hl => hF.bindsA (hb.get he).bind s us hl, hF.kp, hF.ok S (fun vs H Q E h => h.1) fun cdv A outer s H vs Q E hr h => ?_⟩
    obtain ⟨hl, ds, st, mu, q, sr, h⟩ := h
    let X : Cx := cxOf (L2N.CX P w) P w K mg base e.N e.name (defScope e.st) (He.ga K e.name) cdv A outer s H E
    have g : Good C ⟨e.N, nmOf es, exn⟩ (run Pd W n) n X E := by
      refine ⟨L.hK.symm, rfl, S.nd, fun x hx => ?_, rfl, hr, L2N.takes_of rfl rfl rfl rfl, passes_of rfl, L.blt, fun f x hf => ?_, fun c x hx => L.exf c x hx⟩
      · have := List.all_eq_true.mp h2 x hx
        simp only [Bool.and_eq_true, Bool.not_eq_true'] at this
        exact this
      · obtain ⟨e', he', rfl, rfl⟩ := nmOf_some hf
        obtain ⟨fd', _, b1, _, b2, b3⟩ := defs_ok L hc hb n e' he'
        have hck' := List.all_eq_true.mp hc e' he'
        unfold ckEnt at hck'
        simp only [Bool.and_eq_true, decide_eq_true_eq, Bool.not_eq_true'] at hck'
        refine ⟨hck'.2.2.1, He.ga K e'.name, fd', e'.ps, (L.fn e' he').1, b2, b1, b3, fun ds' st' hne => ?_⟩
        cases n with
        | zero => rfl
        | succ n =>
          rw [run_of (hb.get he').def_]
          unfold body
          rw [if_neg (by rw [hck'.2.2.2.1]; exact hne)]
    refine ⟨rdSs C (run Pd W n) W e.d.body E, sndSs g (fun z => by cases z) S.kind (fun _ => rfl) e.d.body (defBody e.st) h6, ?_⟩
    have hds : ds.length = e.d.np := by rw [h4, ← hl, q.length]
    have hpl : e.ps.length ≤ e.N.length := by
      have := congrArg List.length S.pre
      rw [List.length_take] at this
      omega
    refine ⟨H, mu, ds.map .val ++ List.replicate (e.d.nn - e.d.np) .no, st, mu, start_rel q sr h5 hds.symm (by rw [h4, h5]; exact hpl), ?_⟩
    rw [run_of (hb.get he).def_] at h
    unfold body at h
    rw [if_pos hds] at h
    cases z : execs (run Pd W n) W e.d.body (ds.map .val ++ List.replicate (e.d.nn - e.d.np) .no) st with
    | ok fl st1 =>
      simp only [z] at h
      cases fl with
      | next r => exact fun σ' H' mu' R ew => h _ H' mu' R.ext R.srel .non
      | ret d => exact h
    | exc c st1 => simp only [z] at h; exact h
    | bad => simp only [z] at h; exact h.elim
end
end Rt
set_option maxHeartbeats 4000000
namespace Rt
open PySem PySem.Spec PyProof.Rows L2
def exnOf (cs : List Nat) (c : Nat) : Option Str := if cs.contains c then some (excName c) else none
def faOf (es : List Ent) (cs : List Nat) : List He.Fa := es.map (fun e => .glo e.name) ++ (bltNames.map .free ++ (cs.map (fun c => .glo (excName c)) ++ cs.map fun c => .exc (excName c)))
def fnOfE (e : Ent) : He.DefD := ⟨(e.name, none), e.name, e.name, defArgs e.st, defBody e.st, defScope e.st, [], []⟩
def fnsOf (es : List Ent) : List He.DefD := es.map fnOfE
def cnOf (K : PySem.W.Frag) : Cn := ⟨[], K, fun c => He.ga K (excName c)⟩
theorem exc_dbg (c : Nat) : (excName c == ("__debug__" : Str)) = false := by
  unfold excName
  split <;> decide +kernel
section
variable {P : Program} {w : World} {K : PySem.W.Frag} {mg : Str → Option Value} {h : Heap} {es : List Ent} {cs : List Nat} {Pd : Nat → Option Def} {W : Nat}
theorem says_fact {fa : List He.Fa} {fn : List He.DefD} (c : He.SaysD fa fn K) {f : He.Fa} (m : f ∈ fa) : f.ok K = true := by
  obtain ⟨i, hi⟩ := List.mem_iff_getElem?.mp m
  exact c.fact i hi
theorem says_def {fa : List He.Fa} {fn : List He.DefD} (c : He.SaysD fa fn K) {d : He.DefD} (m : d ∈ fn) : ∃ fd, FunD K d.name d.qual d.params d.body d.scope (d.dvs K) (d.kws K) (He.fAd K d.at_) fd := by
  obtain ⟨i, hi⟩ := List.mem_iff_getElem?.mp m
  exact c.def_ i hi
theorem left_of (X : K.In h) (G : h.Ns mainGlobals mg) (c : He.SaysD (faOf es cs) (fnsOf es) K) : Left K mg (cnOf K) es (exnOf cs) := by
  refine ⟨rfl, fun x hx => ?_, fun e he => ⟨?_, ?_⟩, fun i x hx => ?_⟩
  · exact He.free_ok X G (says_fact c (List.mem_append_right _ (List.mem_append_left _ (List.mem_map.mpr ⟨x, hx, rfl⟩))))
  · exact He.glo_ok X G (says_fact c (List.mem_append_left _ (List.mem_map.mpr ⟨e, he, rfl⟩)))
  · exact says_def c (d := fnOfE e) (List.mem_map.mpr ⟨e, he, rfl⟩)
  · unfold exnOf at hx
    split at hx
    · next hc =>
      cases hx
      have m : i ∈ cs := by simpa using hc
      obtain ⟨a1, a2, a3, a4⟩ := He.exc_ok (says_fact c (f := .exc (excName i)) (List.mem_append_right _ (List.mem_append_right _ (List.mem_append_right _ (List.mem_map.mpr ⟨i, m, rfl⟩)))))
      exact ⟨exc_dbg i, He.glo_ok X G (says_fact c (f := .glo (excName i)) (List.mem_append_right _ (List.mem_append_right _ (List.mem_append_left _ (List.mem_map.mpr ⟨i, m, rfl⟩))))), a1, a2, a3, a4⟩
    · cases hx
theorem script_sd {H : Hp} : ∀ ns : List Int, SdA K H [] (ns.map V.int) (ns.map D.int)
  | [] => .nil
  | n :: ns => .cons (.int n) (script_sd ns)
theorem law_spec {H : Hp} {a : Addr} {ns : List Int} {G : List D → Sto → Res D} (hO : Only H) (hS : SqL K H a (ns.map V.int)) (hr : ∃ st, G [.lst (ns.map D.int)] [] = .ok (.bl true) st) :
    spec (cnOf K) G 1 [.ref a] H (fun v _ => v = .bl true) fun _ _ _ => False := by
  obtain ⟨st, hr⟩ := hr
  refine ⟨rfl, [.lst (ns.map D.int)], [], [], .cons (.lst ?_ (script_sd ns)) .nil, ⟨rfl, List.nodup_nil, fun n a ds h1 _ => by simp at h1, fun p hp => by cases hp⟩, ?_⟩
  · rcases hS with (h1 | h1) | h1
    · rcases hO a with z | ⟨o, xs, z⟩
      · rw [z] at h1; cases h1
      · rw [z] at h1; cases h1
    · exact .inl h1
    · exact .inr h1
  · rw [hr]
    intro v H' mu' _ _ q
    cases q
    rfl
/-- THE LAW, from what its core form gives -/
theorem law_of {l : PySem.W.OpenLaw} {m n : Nat} {q : Program} {loose : List Str} {XP : (Str → Option Value) → Heap → Prop} {d : DefRec} {e : Ent}
    (hn : l.most = some m) (hn2 : m ≤ sizeLine) (hdf : d.params.defaults = []) (hr : Room n callerA) (hd : d.name = e.name) (he : e ∈ es) (hps : e.ps = [("script" : Str)]) (hc : es.all (ckEnt es (exnOf cs) false) = true) (hb : AllOk Pd es)
    (hrun : ∀ ns : List Int, ns.length ≤ m → ∃ st, run Pd W n e.id [.lst (ns.map D.int)] [] = .ok (.bl true) st) :
    PySem.W.WalkO q loose XP (He.hookD 4 (faOf es cs) (fnsOf es)).says l.row.toRowW d [] (fun f vs => PySem.call f vs) := by
  refine L2.walk_ofE (l := l) (n := m) (k := n) (x := "script") (CX := fun _ _ _ _ _ _ => False) hn hn2 hdf hr ?_ (fun _ _ _ _ z => z)
  intro w mg fa h Y G hmg0
  obtain ⟨K, KX, c⟩ := Y
  have L := left_of KX G c
  rw [hd] at hmg0
  have e0 := hmg0.symm.trans (L.fn e he).1
  cases e0
  obtain ⟨fd, b0, b1, b2, b3, _⟩ := defs_ok (P := l.prog) (w := w) (base := h) (W := W) L hc hb n e he
  refine ⟨K, fd, fun vs H Q E => spec (cnOf K) (run Pd W n e.id) 1 vs H Q (fun _ _ _ => False), KX, fun s u => ?_, fun H a ns hl hO hS => law_spec hO hS (hrun ns hl), fun base _ _ => ?_⟩
  · have := b2 s [u] (by rw [hps]; rfl)
    rw [hps] at this
    exact this
  · obtain ⟨fd', c0, c1, c2, c3, c4⟩ := defs_ok (P := l.prog) (w := w) (base := base) (W := W) L hc hb n e he
    have hfd : fd' = fd := c0.uniq b0
    rw [hfd, hps] at c4
    refine ⟨fun vs H Q E z => z.1, fun A outer s H args us vs Q E hr he hb hv hs => codeAny_mono (c4.run A outer s H args us vs Q (fun _ _ _ => False) hr he hb hv hs) fun r s' z => ?_⟩
    cases r with
    | ok x => cases x <;> exact z
    | error x =>
      obtain ⟨a, B, H', cls, d', _, _, _, _, _, _, _, z⟩ := z
      exact z
end
end Rt
set_option maxHeartbeats 4000000
namespace Rt
open PySem
def c_is_number : Def := ⟨1, 1, (.cons (.ret (.and (.bi (.isi .int) (.cons (.var 0) .nil)) (.not (.bi (.isi .bool) (.cons (.var 0) .nil))))) .nil)⟩
def c_is_whole : Def := ⟨3, 3, (.cons (.ret (.and (.call 1 (.cons (.var 0) .nil)) (.chain .le .le (.var 1) (.var 0) (.var 2)))) .nil)⟩
def c_is_range : Def := ⟨1, 2, (.cons (.ifs (.or (.not (.bi (.isi .tuple) (.cons (.var 0) .nil))) (.or (.cmp .ne (.bi .len (.cons (.var 0) .nil)) (.int 2)) (.not (.bi .all (.cons (.comp (.name 1) (.val (.var 0)) .none (.call 2 (.cons (.var 1) (.cons (.neg (.int 9)) (.cons (.int 9) .nil)))) [1]) .nil))))) (.cons (.ret (.bl false)) .nil) .nil) (.cons (.ret (.cmp .le (.sub (.var 0) (.int 0)) (.sub (.var 0) (.int 1)))) .nil))⟩
def c_is_row : Def := ⟨2, 3, (.cons (.ret (.and (.bi (.isi .tuple) (.cons (.var 0) .nil)) (.and (.cmp .eq (.bi .len (.cons (.var 0) .nil)) (.var 1)) (.bi .all (.cons (.comp (.name 2) (.val (.var 0)) .none (.call 3 (.cons (.var 2) .nil)) [2]) .nil))))) .nil)⟩
def c_is_table : Def := ⟨1, 2, (.cons (.ifs (.or (.not (.bi (.isi .tuple) (.cons (.var 0) .nil))) (.not (.chain .le .le (.int 1) (.bi .len (.cons (.var 0) .nil)) (.int 3)))) (.cons (.ret (.bl false)) .nil) .nil) (.cons (.ret (.bi .all (.cons (.comp (.name 1) (.val (.var 0)) .none (.call 4 (.cons (.var 1) (.cons (.bi .len (.cons (.var 0) .nil)) .nil))) [1]) .nil))) .nil))⟩
def c_need_table : Def := ⟨1, 1, (.cons (.ifs (.not (.call 5 (.cons (.var 0) .nil))) (.cons (.raise 0) .nil) .nil) .nil)⟩
def c_need_alike : Def := ⟨2, 2, (.cons (.ifs (.cmp .ne (.bi .len (.cons (.var 0) .nil)) (.bi .len (.cons (.var 1) .nil))) (.cons (.raise 9) .nil) .nil) .nil)⟩
def c_count_corners : Def := ⟨1, 5, (.cons (.ex (.call 6 (.cons (.var 0) .nil))) (.cons (.asg 1 (.int 1)) (.cons (.fors (.name 2) (.val (.var 0)) (.cons (.fors (.tup2 (.name 3) (.name 4)) (.val (.var 2)) (.cons (.asg 1 (.bin .mul (.var 1) (.ite (.cmp .eq (.var 3) (.var 4)) (.int 1) (.int 2)))) .nil)) .nil)) (.cons (.ret (.var 1)) .nil))))⟩
def c_is_within : Def := ⟨2, 7, (.cons (.ex (.call 6 (.cons (.var 0) .nil))) (.cons (.ex (.call 6 (.cons (.var 1) .nil))) (.cons (.ex (.call 7 (.cons (.var 0) (.cons (.var 1) .nil)))) (.cons (.fors (.tup2 (.name 2) (.name 3)) (.zip (.var 0) (.var 1)) (.cons (.ifs (.not (.bi .all (.cons (.comp (.tup2 (.name 4) (.tup2 (.name 5) (.name 6))) (.enum (.var 2)) .none (.and (.cmp .le (.sub (.sub (.var 3) (.var 4)) (.int 0)) (.var 5)) (.cmp .le (.var 6) (.sub (.sub (.var 3) (.var 4)) (.int 1)))) [4, 5, 6]) .nil))) (.cons (.ret (.bl false)) .nil) .nil) .nil)) (.cons (.ret (.bl true)) .nil)))))⟩
def c_law_cell : Def := ⟨2, 2, (.cons (.ifs (.cmp .eq (.var 0) (.lst .nil)) (.cons (.ret (.bin .mul (.var 1) (.int 7919))) .nil) .nil) (.cons (.ret (.bin .add (.sub (.var 0) (.bin .mod (.var 1) (.bi .len (.cons (.var 0) .nil)))) (.bin .mul (.bin .fdiv (.var 1) (.bi .len (.cons (.var 0) .nil))) (.int 104729)))) .nil))⟩
def c_law_drawn : Def := ⟨2, 3, (.cons (.asg 2 (.bin .mod (.bin .add (.bin .mul (.var 0) (.int 6364136223846793005)) (.bin .mul (.bin .add (.var 1) (.int 1)) (.int 1442695040888963407))) (.int 340282366920938463463374607431768211507))) (.cons (.asg 2 (.bin .mod (.bin .mul (.var 2) (.var 2)) (.int 340282366920938463463374607431768211297))) (.cons (.asg 2 (.bin .mul (.bin .mul (.bin .add (.bin .mod (.var 2) (.int 18446744073709551557)) (.int 1)) (.bin .add (.bin .fdiv (.var 2) (.int 18446744073709551557)) (.int 1))) (.var 2))) (.cons (.ret (.bin .mod (.var 2) (.int 340282366920938463463374607431768211507))) .nil))))⟩
def c_law_roll : Def := ⟨2, 3, (.cons (.ifs (.cmp .ge (.sub (.var 0) (.int 0)) (.bin .pow (.int 10) (.int 18))) (.cons (.asg 2 (.bin .mod (.sub (.var 0) (.int 0)) (.var 1))) (.cons (.setI 0 (.int 0) (.bin .fdiv (.sub (.var 0) (.int 0)) (.var 1))) (.cons (.ret (.var 2)) .nil))) .nil) (.cons (.setI 0 (.int 1) (.bin .add (.sub (.var 0) (.int 1)) (.int 1))) (.cons (.ret (.bin .mod (.bin .fdiv (.call 11 (.cons (.sub (.var 0) (.int 0)) (.cons (.sub (.var 0) (.int 1)) .nil))) (.int 8)) (.var 1))) .nil)))⟩
def c_law_rounds : Def := ⟨2, 3, (.cons (.ret (.comp (.name 2) (.rng1 (.bi .max2 (.cons (.int 1) (.cons (.bi .min2 (.cons (.var 1) (.cons (.bi .len (.cons (.var 0) .nil)) .nil))) .nil)))) .none (.cel (.cons (.call 10 (.cons (.var 0) (.cons (.var 2) .nil))) (.cons (.int 0) .nil))) [2])) .nil)⟩
def c_law_any_table : Def := ⟨2, 10, (.cons (.par [2, 3, 4] (.cons (.bin .add (.int 1) (.call 12 (.cons (.var 0) (.cons (.var 1) .nil)))) (.cons (.call 12 (.cons (.var 0) (.cons (.int 4) .nil))) (.cons (.call 12 (.cons (.var 0) (.cons (.int 3) .nil))) .nil)))) (.cons (.asgL 5 .nil) (.cons (.fors (.name 6) (.rng1 (.var 2)) (.cons (.asgL 7 .nil) (.cons (.fors (.name 8) (.rng1 (.var 2)) (.cons (.asg 9 (.bin .add (.bin .sub (.call 12 (.cons (.var 0) (.cons (.int 9) .nil))) (.int 4)) (.ite (.and (.cmp .gt (.var 4) (.int 0)) (.cmp .eq (.var 6) (.var 8))) (.int 4) (.int 0)))) (.cons (.app 7 (.tup (.cons (.var 9) (.cons (.bi .min2 (.cons (.int 9) (.cons (.bin .add (.var 9) (.ite (.cmp .gt (.var 3) (.int 0)) (.call 12 (.cons (.var 0) (.cons (.bin .add (.var 3) (.int 1)) .nil))) (.int 0))) .nil))) .nil)))) .nil))) (.cons (.frz 7) (.cons (.app 5 (.bi .tuple (.cons (.var 7) .nil))) .nil))))) (.cons (.frz 5) (.cons (.ret (.bi .tuple (.cons (.var 5) .nil))) .nil)))))⟩
def c_law_corners : Def := ⟨1, 12, (.cons (.asg 1 (.lst (.cons (.tup .nil) .nil))) (.cons (.fors (.name 2) (.val (.var 0)) (.cons (.asg 3 (.lst (.cons (.tup .nil) .nil))) (.cons (.fors (.tup2 (.name 4) (.name 5)) (.val (.var 2)) (.cons (.asg 8 (.lst .nil)) (.cons (.fors (.name 7) (.val (.var 3)) (.cons (.asg 9 (.ite (.cmp .eq (.var 4) (.var 5)) (.tup (.cons (.var 4) .nil)) (.tup (.cons (.var 4) (.cons (.var 5) .nil))))) (.cons (.asg 8 (.bin .add (.var 8) (.comp (.name 11) (.val (.var 9)) .none (.bin .add (.var 7) (.tup (.cons (.var 11) .nil))) [11]))) .nil))) (.cons (.asg 3 (.var 8)) .nil)))) (.cons (.asg 6 (.lst .nil)) (.cons (.fors (.name 7) (.val (.var 1)) (.cons (.asg 6 (.bin .add (.var 6) (.comp (.name 10) (.val (.var 3)) .none (.bin .add (.var 7) (.tup (.cons (.var 10) .nil))) [10]))) .nil)) (.cons (.asg 1 (.var 6)) .nil)))))) (.cons (.ret (.var 1)) .nil)))⟩
def c_law_bad_table : Def := ⟨2, 5, (.cons (.par [2, 3] (.cons (.sub (.var 1) (.int 0)) (.cons (.slice (.var 1) (.some (.int 1)) .none) .nil))) (.cons (.asg 4 (.lst (.cons (.var 3) (.cons (.bin .add (.var 1) (.slice (.var 1) .none (.some (.int 1)))) (.cons (.bin .add (.tup (.cons (.slice (.var 2) (.some (.int 1)) .none) .nil)) (.var 3)) (.cons (.bin .add (.tup (.cons (.bin .add (.var 2) (.tup (.cons (.tup (.cons (.int 0) (.cons (.int 1) .nil))) .nil))) .nil)) (.var 3)) (.cons (.bi .list (.cons (.var 1) .nil)) .nil))))))) (.cons (.asg 4 (.bin .add (.var 4) (.lst (.cons .non (.cons (.tup .nil) .nil))))) (.cons (.asg 4 (.bin .add (.var 4) (.lst (.cons (.bin .add (.tup (.cons (.bin .add (.tup (.cons (.tup (.cons (.int 1) (.cons (.int 0) .nil))) .nil)) (.slice (.var 2) (.some (.int 1)) .none)) .nil)) (.var 3)) (.cons (.bin .add (.tup (.cons (.bin .add (.tup (.cons (.tup (.cons (.neg (.int 10)) (.cons (.int 0) .nil))) .nil)) (.slice (.var 2) (.some (.int 1)) .none)) .nil)) (.var 3)) .nil))))) (.cons (.asg 4 (.bin .add (.var 4) (.lst (.cons (.bin .add (.tup (.cons (.bin .add (.tup (.cons (.tup (.cons (.int 0) (.cons (.int 10) .nil))) .nil)) (.slice (.var 2) (.some (.int 1)) .none)) .nil)) (.var 3)) .nil)))) (.cons (.asg 4 (.bin .add (.var 4) (.lst (.cons (.bin .add (.tup (.cons (.bin .add (.tup (.cons (.int 1) .nil)) (.slice (.var 2) (.some (.int 1)) .none)) .nil)) (.var 3)) (.cons (.bin .add (.tup (.cons (.bin .add (.tup (.cons (.tup (.cons (.int 0) (.cons (.bl true) .nil))) .nil)) (.slice (.var 2) (.some (.int 1)) .none)) .nil)) (.var 3)) (.cons (.bin .add (.tup (.cons (.lst (.cons (.int 0) (.cons (.int 1) .nil))) .nil)) (.var 3)) .nil)))))) (.cons (.asg 4 (.bin .add (.var 4) (.lst (.cons (.bin .add (.tup (.cons .non .nil)) (.var 3)) .nil)))) (.cons (.asg 4 (.bin .add (.var 4) (.lst (.cons (.bin .add (.tup (.cons (.bin .add (.tup (.cons (.tup (.cons (.int 0) (.cons (.int 1) (.cons (.int 2) .nil)))) .nil)) (.slice (.var 2) (.some (.int 1)) .none)) .nil)) (.var 3)) (.cons (.bin .add (.tup (.cons (.bi .list (.cons (.var 2) .nil)) .nil)) (.var 3)) .nil))))) (.cons (.ret (.sub (.var 4) (.call 12 (.cons (.var 0) (.cons (.bi .len (.cons (.var 4) .nil)) .nil))))) .nil)))))))))⟩
def c_law_19 : Def := ⟨1, 14, (.cons (.fors (.name 1) (.val (.call 13 (.cons (.var 0) (.cons (.int 5) .nil)))) (.cons (.unp (.tup2 (.name 2) (.name 3)) (.tup (.cons (.call 16 (.cons (.var 1) (.cons (.int 3) .nil))) (.cons (.call 16 (.cons (.var 1) (.cons (.int 3) .nil))) .nil)))) (.cons (.ifs (.or (.not (.call 5 (.cons (.var 2) .nil))) (.cmp .ne (.call 8 (.cons (.var 2) .nil)) (.bi .len (.cons (.call 17 (.cons (.var 2) .nil)) .nil)))) (.cons (.ret (.bl false)) .nil) .nil) (.cons (.fors (.name 4) (.rng1 (.int 5)) (.cons (.asg 6 (.call 18 (.cons (.var 1) (.cons (.var 2) .nil)))) (.cons (.ifs (.or (.cmp .gt (.bi .len (.cons (.var 2) .nil)) (.int 1)) (.cmp .ne (.var 6) (.tup .nil))) (.cons (.ifs (.or (.call 5 (.cons (.var 6) .nil)) (.cmp .ne (.told (.call 8 (.cons (.var 6) .nil))) (.tup (.cons (.str "error") (.cons (.str "InvalidTable") .nil))))) (.cons (.ret (.bl false)) .nil) .nil) .nil) .nil) .nil))) (.cons (.ifs (.cmp .ne (.bi .len (.cons (.var 2) .nil)) (.bi .len (.cons (.var 3) .nil))) (.cons (.ifs (.cmp .ne (.told (.call 9 (.cons (.var 2) (.cons (.var 3) .nil)))) (.tup (.cons (.str "error") (.cons (.str "Unlike") .nil)))) (.cons (.ret (.bl false)) .nil) .nil) .nil) (.cons (.asg 7 (.bl true)) (.cons (.fors (.tup2 (.name 8) (.name 9)) (.zip (.var 2) (.var 3)) (.cons (.fors (.tup2 (.name 10) (.name 11)) (.zip (.var 8) (.var 9)) (.cons (.asg 7 (.and (.var 7) (.and (.cmp .le (.sub (.var 11) (.int 0)) (.sub (.var 10) (.int 0))) (.cmp .le (.sub (.var 10) (.int 1)) (.sub (.var 11) (.int 1)))))) .nil)) .nil)) (.cons (.ifs (.cmp .ne (.call 9 (.cons (.var 2) (.cons (.var 3) .nil))) (.var 7)) (.cons (.ret (.bl false)) .nil) .nil) .nil)))) (.cons (.asg 5 (.bi .tuple (.cons (.comp (.name 8) (.val (.var 2)) .none (.bi .tuple (.cons (.comp (.tup2 (.name 12) (.name 13)) (.val (.var 8)) .none (.tup (.cons (.bi .max2 (.cons (.neg (.int 9)) (.cons (.bin .sub (.var 12) (.int 1)) .nil))) (.cons (.bi .min2 (.cons (.int 9) (.cons (.bin .add (.var 13) (.int 1)) .nil))) .nil))) [12, 13]) .nil)) [8]) .nil))) (.cons (.ifs (.or (.not (.call 9 (.cons (.var 2) (.cons (.var 5) .nil)))) (.or (.not (.call 9 (.cons (.var 2) (.cons (.var 2) .nil)))) (.call 9 (.cons (.var 5) (.cons (.var 2) .nil))))) (.cons (.ret (.bl false)) .nil) .nil) .nil))))))) (.cons (.ret (.bl true)) .nil))⟩
def c_divisor : Def := ⟨2, 2, (.cons (.par [0, 1] (.cons (.bi .abs (.cons (.var 0) .nil)) (.cons (.bi .abs (.cons (.var 1) .nil)) .nil))) (.cons (.whl (.var 1) (.cons (.par [0, 1] (.cons (.var 1) (.cons (.bin .mod (.var 0) (.var 1)) .nil))) .nil)) (.cons (.ret (.var 0)) .nil)))⟩
def c_is_fraction : Def := ⟨1, 2, (.cons (.ifs (.or (.not (.bi (.isi .tuple) (.cons (.var 0) .nil))) (.or (.cmp .ne (.bi .len (.cons (.var 0) .nil)) (.int 2)) (.not (.bi .all (.cons (.comp (.name 1) (.val (.var 0)) .none (.call 1 (.cons (.var 1) .nil)) [1]) .nil))))) (.cons (.ret (.bl false)) .nil) .nil) (.cons (.ifs (.or (.not (.chain .lt .lt (.int 0) (.sub (.var 0) (.int 1)) (.bin .pow (.int 10) (.int 60)))) (.not (.chain .lt .lt (.neg (.bin .pow (.int 10) (.int 60))) (.sub (.var 0) (.int 0)) (.bin .pow (.int 10) (.int 60))))) (.cons (.ret (.bl false)) .nil) .nil) (.cons (.ret (.cmp .eq (.call 20 (.cons (.sub (.var 0) (.int 0)) (.cons (.sub (.var 0) (.int 1)) .nil))) (.int 1))) .nil)))⟩
def c_lies_in : Def := ⟨2, 2, (.cons (.ret (.chain .le .le (.bin .mul (.sub (.var 1) (.int 0)) (.sub (.var 0) (.int 1))) (.sub (.var 0) (.int 0)) (.bin .mul (.sub (.var 1) (.int 1)) (.sub (.var 0) (.int 1))))) .nil)⟩
def c_is_filled : Def := ⟨2, 6, (.cons (.ifs (.or (.not (.bi (.isi .tuple) (.cons (.var 1) .nil))) (.cmp .ne (.bi .len (.cons (.var 1) .nil)) (.bi .len (.cons (.var 0) .nil)))) (.cons (.ret (.bl false)) .nil) .nil) (.cons (.fors (.tup2 (.name 2) (.name 3)) (.zip (.var 1) (.var 0)) (.cons (.ifs (.or (.not (.bi (.isi .tuple) (.cons (.var 2) .nil))) (.or (.cmp .ne (.bi .len (.cons (.var 2) .nil)) (.bi .len (.cons (.var 0) .nil))) (.not (.bi .all (.cons (.comp (.name 5) (.val (.var 2)) .none (.call 21 (.cons (.var 5) .nil)) [5]) .nil))))) (.cons (.ret (.bl false)) .nil) .nil) (.cons (.ifs (.not (.bi .all (.cons (.comp (.tup2 (.name 4) (.name 5)) (.enum (.var 2)) .none (.call 22 (.cons (.var 5) (.cons (.sub (.var 3) (.var 4)) .nil))) [4, 5]) .nil))) (.cons (.ret (.bl false)) .nil) .nil) .nil))) (.cons (.ret (.bl true)) .nil)))⟩
def c_is_member : Def := ⟨2, 2, (.cons (.ex (.call 6 (.cons (.var 0) .nil))) (.cons (.ret (.call 23 (.cons (.var 0) (.cons (.var 1) .nil)))) .nil))⟩
def c_law_divisor : Def := ⟨2, 2, (.cons (.par [0, 1] (.cons (.bi .abs (.cons (.var 0) .nil)) (.cons (.bi .abs (.cons (.var 1) .nil)) .nil))) (.cons (.whl (.cmp .ne (.var 1) (.int 0)) (.cons (.par [0, 1] (.cons (.var 1) (.cons (.bin .mod (.var 0) (.var 1)) .nil))) .nil)) (.cons (.ret (.var 0)) .nil)))⟩
def c_law_lowest : Def := ⟨2, 3, (.cons (.asg 2 (.bin .mul (.call 25 (.cons (.var 0) (.cons (.var 1) .nil))) (.ite (.cmp .gt (.var 1) (.int 0)) (.int 1) (.neg (.int 1))))) (.cons (.ret (.tup (.cons (.bin .fdiv (.var 0) (.var 2)) (.cons (.bin .fdiv (.var 1) (.var 2)) .nil)))) .nil))⟩
def c_law_is_in : Def := ⟨3, 3, (.cons (.ret (.and (.cmp .le (.bin .mul (.sub (.var 1) (.int 0)) (.sub (.var 0) (.int 1))) (.bin .mul (.sub (.var 0) (.int 0)) (.sub (.var 1) (.int 1)))) (.cmp .le (.bin .mul (.sub (.var 0) (.int 0)) (.sub (.var 2) (.int 1))) (.bin .mul (.sub (.var 2) (.int 0)) (.sub (.var 0) (.int 1)))))) .nil)⟩
def c_law_part : Def := ⟨3, 4, (.cons (.asg 3 (.bin .add (.int 1) (.call 12 (.cons (.var 0) (.cons (.int 6) .nil))))) (.cons (.ret (.call 26 (.cons (.bin .add (.bin .mul (.var 1) (.var 3)) (.bin .mul (.bin .sub (.var 2) (.var 1)) (.call 12 (.cons (.var 0) (.cons (.bin .add (.var 3) (.int 1)) .nil))))) (.cons (.var 3) .nil)))) .nil))⟩
def c_law_any_member : Def := ⟨2, 5, (.cons (.ret (.bi .tuple (.cons (.comp (.name 2) (.val (.var 1)) .none (.bi .tuple (.cons (.comp (.tup2 (.name 3) (.name 4)) (.val (.var 2)) .none (.call 28 (.cons (.var 0) (.cons (.var 3) (.cons (.var 4) .nil)))) [3, 4]) .nil)) [2]) .nil))) .nil)⟩
def c_law_lies : Def := ⟨2, 7, (.cons (.ifs (.or (.cmp .ne (.bi .len (.cons (.var 1) .nil)) (.bi .len (.cons (.var 0) .nil))) (.not (.bi .all (.cons (.comp (.name 2) (.val (.var 1)) .none (.cmp .eq (.bi .len (.cons (.var 2) .nil)) (.bi .len (.cons (.var 0) .nil))) [2]) .nil)))) (.cons (.ret (.bl false)) .nil) .nil) (.cons (.fors (.tup2 (.name 2) (.name 3)) (.zip (.var 1) (.var 0)) (.cons (.ifs (.not (.bi .all (.cons (.comp (.tup2 (.name 4) (.tup2 (.name 5) (.name 6))) (.zip (.var 2) (.var 3)) .none (.call 27 (.cons (.var 4) (.cons (.tup (.cons (.var 5) (.cons (.int 1) .nil))) (.cons (.tup (.cons (.var 6) (.cons (.int 1) .nil))) .nil)))) [4, 5, 6]) .nil))) (.cons (.ret (.bl false)) .nil) .nil) (.cons (.ifs (.not (.bi .all (.cons (.comp (.name 4) (.val (.var 2)) .none (.cmp .eq (.call 26 (.cons (.sub (.var 4) (.int 0)) (.cons (.sub (.var 4) (.int 1)) .nil))) (.var 4)) [4]) .nil))) (.cons (.ret (.bl false)) .nil) .nil) .nil))) (.cons (.ret (.bl true)) .nil)))⟩
def c_law_as_member : Def := ⟨1, 3, (.cons (.ret (.bi .tuple (.cons (.comp (.name 1) (.val (.var 0)) .none (.bi .tuple (.cons (.comp (.name 2) (.val (.var 1)) .none (.tup (.cons (.var 2) (.cons (.int 1) .nil))) [2]) .nil)) [1]) .nil))) .nil)⟩
def c_law_32 : Def := ⟨1, 15, (.cons (.fors (.name 1) (.val (.call 13 (.cons (.var 0) (.cons (.int 5) .nil)))) (.cons (.asg 2 (.call 16 (.cons (.var 1) (.cons (.int 3) .nil)))) (.cons (.asg 3 (.bi .len (.cons (.var 2) .nil))) (.cons (.fors (.name 4) (.rng1 (.int 4)) (.cons (.asg 9 (.call 29 (.cons (.var 1) (.cons (.var 2) .nil)))) (.cons (.ifs (.not (.call 24 (.cons (.var 2) (.cons (.var 9) .nil)))) (.cons (.ret (.bl false)) .nil) .nil) (.cons (.par [10, 11] (.cons (.call 12 (.cons (.var 1) (.cons (.var 3) .nil))) (.cons (.call 12 (.cons (.var 1) (.cons (.var 3) .nil))) .nil))) (.cons (.asg 12 (.call 26 (.cons (.bin .sub (.call 12 (.cons (.var 1) (.cons (.int 80) .nil))) (.int 40)) (.cons (.bin .add (.int 1) (.call 12 (.cons (.var 1) (.cons (.int 5) .nil)))) .nil)))) (.cons (.asg 13 (.bin .add (.bin .add (.slice (.sub (.var 9) (.var 10)) .none (.some (.var 11))) (.tup (.cons (.var 12) .nil))) (.slice (.sub (.var 9) (.var 10)) (.some (.bin .add (.var 11) (.int 1))) .none))) (.cons (.asg 14 (.bin .add (.bin .add (.slice (.var 9) .none (.some (.var 10))) (.tup (.cons (.var 13) .nil))) (.slice (.var 9) (.some (.bin .add (.var 10) (.int 1))) .none))) (.cons (.ifs (.cmp .ne (.call 24 (.cons (.var 2) (.cons (.var 14) .nil))) (.call 30 (.cons (.var 2) (.cons (.var 14) .nil)))) (.cons (.ret (.bl false)) .nil) .nil) .nil)))))))) (.cons (.fors (.name 5) (.val (.slice (.call 17 (.cons (.var 2) .nil)) .none (.some (.int 6)))) (.cons (.ifs (.or (.not (.call 24 (.cons (.var 2) (.cons (.call 31 (.cons (.var 5) .nil)) .nil)))) (.call 24 (.cons (.var 2) (.cons (.var 5) .nil)))) (.cons (.ret (.bl false)) .nil) .nil) .nil)) (.cons (.asg 6 (.lst (.cons .non (.cons (.tup .nil) (.cons (.slice (.var 9) .none (.some (.neg (.int 1)))) (.cons (.bi .list (.cons (.var 9) .nil)) (.cons (.bin .add (.tup (.cons (.bi .list (.cons (.sub (.var 9) (.int 0)) .nil)) .nil)) (.slice (.var 9) (.some (.int 1)) .none)) .nil))))))) (.cons (.asg 6 (.bin .add (.var 6) (.lst (.cons (.bin .mul (.tup (.cons (.bin .mul (.tup (.cons .non .nil)) (.var 3)) .nil)) (.var 3)) .nil)))) (.cons (.fors (.name 7) (.val (.var 6)) (.cons (.ifs (.call 24 (.cons (.var 2) (.cons (.var 7) .nil))) (.cons (.ret (.bl false)) .nil) .nil) .nil)) (.cons (.asg 8 (.sub (.sub (.sub (.var 2) (.int 0)) (.int 0)) (.int 0))) (.cons (.fors (.name 7) (.val (.lst (.cons (.tup (.cons (.bin .mul (.int 2) (.var 8)) (.cons (.int 2) .nil))) (.cons (.tup (.cons (.var 8) (.cons (.neg (.int 1)) .nil))) (.cons (.tup (.cons (.bl true) (.cons (.int 1) .nil))) (.cons (.tup (.cons (.var 8) (.cons (.int 1) (.cons (.int 1) .nil)))) (.cons (.lst (.cons (.var 8) (.cons (.int 1) .nil))) (.cons (.tup (.cons (.var 8) .nil)) .nil)))))))) (.cons (.ifs (.call 24 (.cons (.var 2) (.cons (.bin .add (.tup (.cons (.bin .add (.tup (.cons (.var 7) .nil)) (.slice (.sub (.var 9) (.int 0)) (.some (.int 1)) .none)) .nil)) (.slice (.var 9) (.some (.int 1)) .none)) .nil))) (.cons (.ret (.bl false)) .nil) .nil) .nil)) .nil)))))))))) (.cons (.ret (.bl true)) .nil))⟩
def c_rows_of : Def := ⟨1, 6, (.cons (.asg 1 (.lst (.cons (.tup .nil) .nil))) (.cons (.fors (.tup2 (.name 2) (.name 3)) (.val (.var 0)) (.cons (.asg 4 (.lst .nil)) (.cons (.fors (.name 5) (.val (.var 1)) (.cons (.asg 4 (.bin .add (.var 4) (.ite (.cmp .eq (.var 2) (.var 3)) (.lst (.cons (.bin .add (.var 5) (.tup (.cons (.var 2) .nil))) .nil)) (.lst (.cons (.bin .add (.var 5) (.tup (.cons (.var 2) .nil))) (.cons (.bin .add (.var 5) (.tup (.cons (.var 3) .nil))) .nil)))))) .nil)) (.cons (.asg 1 (.var 4)) .nil)))) (.cons (.ret (.var 1)) .nil)))⟩
def c_corners_of : Def := ⟨1, 6, (.cons (.asg 1 (.lst (.cons (.tup .nil) .nil))) (.cons (.fors (.name 2) (.val (.var 0)) (.cons (.asg 3 (.lst .nil)) (.cons (.fors (.name 4) (.val (.var 1)) (.cons (.asg 3 (.bin .add (.var 3) (.comp (.name 5) (.val (.call 33 (.cons (.var 2) .nil))) .none (.bin .add (.var 4) (.tup (.cons (.var 5) .nil))) [5]))) .nil)) (.cons (.asg 1 (.var 3)) .nil)))) (.cons (.ret (.var 1)) .nil)))⟩
def c_minor : Def := ⟨3, 7, (.cons (.ret (.comp (.tup2 (.name 3) (.name 4)) (.enum (.var 0)) (.some (.cmp .ne (.var 3) (.var 1))) (.comp (.tup2 (.name 5) (.name 6)) (.enum (.var 4)) (.some (.cmp .ne (.var 5) (.var 2))) (.var 6) [5, 6]) [3, 4])) .nil)⟩
def c_determinant_of : Def := ⟨1, 4, (.cons (.ifs (.cmp .eq (.bi .len (.cons (.var 0) .nil)) (.int 0)) (.cons (.ret (.int 1)) .nil) .nil) (.cons (.ifs (.cmp .eq (.bi .len (.cons (.var 0) .nil)) (.int 1)) (.cons (.ret (.sub (.sub (.var 0) (.int 0)) (.int 0))) .nil) .nil) (.cons (.asg 1 (.int 0)) (.cons (.fors (.tup2 (.name 2) (.name 3)) (.enum (.sub (.var 0) (.int 0))) (.cons (.aug 1 (.bin .mul (.bin .mul (.sub (.tup (.cons (.int 1) (.cons (.neg (.int 1)) (.cons (.int 1) .nil)))) (.var 2)) (.var 3)) (.call 36 (.cons (.call 35 (.cons (.var 0) (.cons (.int 0) (.cons (.var 2) .nil)))) .nil)))) .nil)) (.cons (.ret (.var 1)) .nil)))))⟩
def c_with_values : Def := ⟨1, 2, (.cons (.ret (.comp (.name 1) (.val (.call 34 (.cons (.var 0) .nil))) .none (.tup (.cons (.call 36 (.cons (.var 1) .nil)) (.cons (.var 1) .nil))) [1])) .nil)⟩
def c_ends_of : Def := ⟨1, 4, (.cons (.asg 1 (.comp (.tup2 (.name 2) (.name 3)) (.val (.call 37 (.cons (.var 0) .nil))) .none (.var 2) [2, 3])) (.cons (.ret (.tup (.cons (.bi .min1 (.cons (.var 1) .nil)) (.cons (.bi .max1 (.cons (.var 1) .nil)) .nil)))) .nil))⟩
def c_determinant_range : Def := ⟨1, 1, (.cons (.ex (.call 6 (.cons (.var 0) .nil))) (.cons (.ret (.call 38 (.cons (.var 0) .nil))) .nil))⟩
def c_corner_with : Def := ⟨2, 4, (.cons (.ret (.sub (.comp (.tup2 (.name 2) (.name 3)) (.val (.call 37 (.cons (.var 0) .nil))) (.some (.cmp .eq (.var 2) (.var 1))) (.var 3) [2, 3]) (.int 0))) .nil)⟩
def c_least_corner : Def := ⟨1, 1, (.cons (.ex (.call 6 (.cons (.var 0) .nil))) (.cons (.ret (.call 40 (.cons (.var 0) (.cons (.sub (.call 38 (.cons (.var 0) .nil)) (.int 0)) .nil)))) .nil))⟩
def c_greatest_corner : Def := ⟨1, 1, (.cons (.ex (.call 6 (.cons (.var 0) .nil))) (.cons (.ret (.call 40 (.cons (.var 0) (.cons (.sub (.call 38 (.cons (.var 0) .nil)) (.int 1)) .nil)))) .nil))⟩
def c_turned : Def := ⟨1, 4, (.cons (.ex (.call 6 (.cons (.var 0) .nil))) (.cons (.asg 1 (.bi .len (.cons (.var 0) .nil))) (.cons (.ret (.bi .tuple (.cons (.comp (.name 2) (.rng1 (.var 1)) .none (.bi .tuple (.cons (.comp (.name 3) (.rng1 (.var 1)) .none (.sub (.sub (.var 0) (.var 3)) (.var 2)) [3]) .nil)) [2]) .nil))) .nil)))⟩
def c_law_det : Def := ⟨1, 11, (.cons (.ifs (.cmp .eq (.bi .len (.cons (.var 0) .nil)) (.int 1)) (.cons (.ret (.sub (.sub (.var 0) (.int 0)) (.int 0))) .nil) .nil) (.cons (.ifs (.cmp .eq (.bi .len (.cons (.var 0) .nil)) (.int 2)) (.cons (.ret (.bin .sub (.bin .mul (.sub (.sub (.var 0) (.int 0)) (.int 0)) (.sub (.sub (.var 0) (.int 1)) (.int 1))) (.bin .mul (.sub (.sub (.var 0) (.int 0)) (.int 1)) (.sub (.sub (.var 0) (.int 1)) (.int 0))))) .nil) .nil) (.cons (.unp (.tup3 (.tup3 (.name 1) (.name 2) (.name 3)) (.tup3 (.name 4) (.name 5) (.name 6)) (.tup3 (.name 7) (.name 8) (.name 9))) (.var 0)) (.cons (.asg 10 (.bin .sub (.bin .mul (.var 1) (.bin .sub (.bin .mul (.var 5) (.var 9)) (.bin .mul (.var 6) (.var 8)))) (.bin .mul (.var 2) (.bin .sub (.bin .mul (.var 4) (.var 9)) (.bin .mul (.var 6) (.var 7)))))) (.cons (.ret (.bin .add (.var 10) (.bin .mul (.var 3) (.bin .sub (.bin .mul (.var 4) (.var 8)) (.bin .mul (.var 5) (.var 7)))))) .nil)))))⟩
def c_law_whole : Def := ⟨1, 4, (.cons (.asg 1 (.int 1)) (.cons (.fors (.name 2) (.val (.var 0)) (.cons (.fors (.name 3) (.val (.var 2)) (.cons (.asg 1 (.bin .fdiv (.bin .mul (.var 1) (.sub (.var 3) (.int 1))) (.call 25 (.cons (.var 1) (.cons (.sub (.var 3) (.int 1)) .nil))))) .nil)) .nil)) (.cons (.ret (.tup (.cons (.bi .tuple (.cons (.comp (.name 2) (.val (.var 0)) .none (.bi .tuple (.cons (.comp (.name 3) (.val (.var 2)) .none (.bin .mul (.sub (.var 3) (.int 0)) (.bin .fdiv (.var 1) (.sub (.var 3) (.int 1)))) [3]) .nil)) [2]) .nil)) (.cons (.var 1) .nil)))) .nil)))⟩
def c_law_value : Def := ⟨1, 5, (.cons (.unp (.tup2 (.name 1) (.name 2)) (.call 45 (.cons (.var 0) .nil))) (.cons (.asg 3 (.var 2)) (.cons (.fors (.name 4) (.rng1 (.bin .sub (.bi .len (.cons (.var 0) .nil)) (.int 1))) (.cons (.asg 3 (.bin .mul (.var 3) (.var 2))) .nil)) (.cons (.ret (.call 26 (.cons (.call 44 (.cons (.var 1) .nil)) (.cons (.var 3) .nil)))) .nil))))⟩
def c_law_47 : Def := ⟨1, 10, (.cons (.fors (.name 1) (.val (.call 13 (.cons (.var 0) (.cons (.int 3) .nil)))) (.cons (.asg 2 (.call 16 (.cons (.var 1) (.cons (.int 3) .nil)))) (.cons (.asg 3 (.comp (.name 8) (.val (.call 17 (.cons (.var 2) .nil))) .none (.tup (.cons (.call 44 (.cons (.var 8) .nil)) (.cons (.var 8) .nil))) [8])) (.cons (.unp (.tup2 (.name 4) (.name 5)) (.tup (.cons (.bi .min1 (.cons (.comp (.tup2 (.name 9) (.name 8)) (.val (.var 3)) .none (.var 9) [9, 8]) .nil)) (.cons (.bi .max1 (.cons (.comp (.tup2 (.name 9) (.name 8)) (.val (.var 3)) .none (.var 9) [9, 8]) .nil)) .nil)))) (.cons (.ifs (.cmp .ne (.call 39 (.cons (.var 2) .nil)) (.tup (.cons (.var 4) (.cons (.var 5) .nil)))) (.cons (.ret (.bl false)) .nil) .nil) (.cons (.ifs (.cmp .ne (.call 41 (.cons (.var 2) .nil)) (.sub (.comp (.tup2 (.name 9) (.name 8)) (.val (.var 3)) (.some (.cmp .eq (.var 9) (.var 4))) (.var 8) [9, 8]) (.int 0))) (.cons (.ret (.bl false)) .nil) .nil) (.cons (.ifs (.cmp .ne (.call 42 (.cons (.var 2) .nil)) (.sub (.comp (.tup2 (.name 9) (.name 8)) (.val (.var 3)) (.some (.cmp .eq (.var 9) (.var 5))) (.var 8) [9, 8]) (.int 0))) (.cons (.ret (.bl false)) .nil) .nil) (.cons (.fors (.name 6) (.rng1 (.int 5)) (.cons (.asg 7 (.call 29 (.cons (.var 1) (.cons (.var 2) .nil)))) (.cons (.ifs (.not (.call 27 (.cons (.call 46 (.cons (.var 7) .nil)) (.cons (.tup (.cons (.var 4) (.cons (.int 1) .nil))) (.cons (.tup (.cons (.var 5) (.cons (.int 1) .nil))) .nil))))) (.cons (.ret (.bl false)) .nil) .nil) .nil))) (.cons (.ifs (.cmp .ne (.call 39 (.cons (.call 43 (.cons (.var 2) .nil)) .nil)) (.tup (.cons (.var 4) (.cons (.var 5) .nil)))) (.cons (.ret (.bl false)) .nil) .nil) (.cons (.ifs (.and (.cmp .eq (.bi .len (.cons (.var 2) .nil)) (.int 2)) (.cmp .ne (.call 39 (.cons (.tup (.cons (.sub (.var 2) (.int 1)) (.cons (.sub (.var 2) (.int 0)) .nil))) .nil)) (.tup (.cons (.neg (.var 5)) (.cons (.neg (.var 4)) .nil))))) (.cons (.ret (.bl false)) .nil) .nil) .nil)))))))))) (.cons (.ret (.bl true)) .nil))⟩
def c_lowest : Def := ⟨2, 3, (.cons (.asg 2 (.ite (.cmp .gt (.var 1) (.int 0)) (.call 20 (.cons (.var 0) (.cons (.var 1) .nil))) (.neg (.call 20 (.cons (.var 0) (.cons (.var 1) .nil)))))) (.cons (.ret (.tup (.cons (.bin .fdiv (.var 0) (.var 2)) (.cons (.bin .fdiv (.var 1) (.var 2)) .nil)))) .nil))⟩
def c_is_short : Def := ⟨1, 1, (.cons (.ret (.and (.call 21 (.cons (.var 0) .nil)) (.and (.cmp .le (.sub (.var 0) (.int 1)) (.bin .pow (.int 10) (.int 6))) (.cmp .le (.bi .abs (.cons (.sub (.var 0) (.int 0)) .nil)) (.bin .pow (.int 10) (.int 6)))))) .nil)⟩
def c_as_member : Def := ⟨1, 3, (.cons (.ret (.bi .tuple (.cons (.comp (.name 1) (.val (.var 0)) .none (.bi .tuple (.cons (.comp (.name 2) (.val (.var 1)) .none (.tup (.cons (.var 2) (.cons (.int 1) .nil))) [2]) .nil)) [1]) .nil))) .nil)⟩
def c_put : Def := ⟨4, 5, (.cons (.asg 4 (.bin .add (.bin .add (.slice (.sub (.var 0) (.var 1)) .none (.some (.var 2))) (.tup (.cons (.var 3) .nil))) (.slice (.sub (.var 0) (.var 1)) (.some (.bin .add (.var 2) (.int 1))) .none))) (.cons (.ret (.bin .add (.bin .add (.slice (.var 0) .none (.some (.var 1))) (.tup (.cons (.var 4) .nil))) (.slice (.var 0) (.some (.bin .add (.var 1) (.int 1))) .none))) .nil))⟩
def c_member_at : Def := ⟨2, 16, (.cons (.unp (.tup2 (.name 2) (.name 3)) (.var 1)) (.cons (.unp (.tup2 (.name 4) (.name 5)) (.call 38 (.cons (.var 0) .nil))) (.cons (.par [6, 7] (.cons (.call 40 (.cons (.var 0) (.cons (.var 4) .nil))) (.cons (.call 40 (.cons (.var 0) (.cons (.var 5) .nil))) .nil))) (.cons (.fors (.name 8) (.rng1 (.bi .len (.cons (.var 0) .nil))) (.cons (.fors (.name 9) (.rng1 (.bi .len (.cons (.var 0) .nil))) (.cons (.asg 10 (.call 51 (.cons (.var 6) (.cons (.var 8) (.cons (.var 9) (.cons (.sub (.sub (.var 7) (.var 8)) (.var 9)) .nil)))))) (.cons (.par [11, 12] (.cons (.call 36 (.cons (.var 6) .nil)) (.cons (.call 36 (.cons (.var 10) .nil)) .nil))) (.cons (.ifs (.chain .le .le (.bin .mul (.var 11) (.var 3)) (.var 2) (.bin .mul (.var 12) (.var 3))) (.cons (.asg 13 (.bin .sub (.sub (.sub (.var 7) (.var 8)) (.var 9)) (.sub (.sub (.var 6) (.var 8)) (.var 9)))) (.cons (.asg 14 (.tup (.cons (.sub (.sub (.var 6) (.var 8)) (.var 9)) (.cons (.int 1) .nil)))) (.cons (.ifs (.cmp .ne (.var 11) (.var 12)) (.cons (.asg 15 (.bin .mul (.bin .sub (.var 12) (.var 11)) (.var 3))) (.cons (.asg 14 (.call 48 (.cons (.bin .add (.bin .mul (.sub (.sub (.var 6) (.var 8)) (.var 9)) (.var 15)) (.bin .mul (.var 13) (.bin .sub (.var 2) (.bin .mul (.var 11) (.var 3))))) (.cons (.var 15) .nil)))) .nil)) .nil) (.cons (.ret (.call 51 (.cons (.call 50 (.cons (.var 6) .nil)) (.cons (.var 8) (.cons (.var 9) (.cons (.var 14) .nil)))))) .nil)))) .nil) (.cons (.asg 6 (.var 10)) .nil))))) .nil)) (.cons (.ret (.call 50 (.cons (.var 6) .nil))) .nil)))))⟩
def c_member_with : Def := ⟨2, 4, (.cons (.ex (.call 6 (.cons (.var 0) .nil))) (.cons (.ifs (.not (.call 49 (.cons (.var 1) .nil))) (.cons (.raise 4) .nil) .nil) (.cons (.unp (.tup2 (.name 2) (.name 3)) (.call 38 (.cons (.var 0) .nil))) (.cons (.ret (.ite (.chain .le .le (.bin .mul (.var 2) (.sub (.var 1) (.int 1))) (.sub (.var 1) (.int 0)) (.bin .mul (.var 3) (.sub (.var 1) (.int 1)))) (.call 52 (.cons (.var 0) (.cons (.var 1) .nil))) .non)) .nil))))⟩
def c_law_54 : Def := ⟨1, 12, (.cons (.fors (.name 1) (.val (.call 13 (.cons (.var 0) (.cons (.int 4) .nil)))) (.cons (.asg 2 (.call 16 (.cons (.var 1) (.cons (.int 3) .nil)))) (.cons (.unp (.tup2 (.name 3) (.name 4)) (.call 39 (.cons (.var 2) .nil))) (.cons (.fors (.name 5) (.rng1 (.int 5)) (.cons (.asg 10 (.bin .add (.int 1) (.call 12 (.cons (.var 1) (.cons (.int 7) .nil))))) (.cons (.asg 11 (.call 26 (.cons (.bin .add (.bin .sub (.bin .mul (.var 3) (.var 10)) (.int 3)) (.call 12 (.cons (.var 1) (.cons (.bin .add (.bin .mul (.bin .sub (.var 4) (.var 3)) (.var 10)) (.int 7)) .nil)))) (.cons (.var 10) .nil)))) (.cons (.asg 7 (.call 53 (.cons (.var 2) (.cons (.var 11) .nil)))) (.cons (.ifs (.cmp .ne (.cmp .notn (.var 7) .non) (.call 27 (.cons (.var 11) (.cons (.tup (.cons (.var 3) (.cons (.int 1) .nil))) (.cons (.tup (.cons (.var 4) (.cons (.int 1) .nil))) .nil))))) (.cons (.ret (.bl false)) .nil) .nil) (.cons (.ifs (.cmp .notn (.var 7) .non) (.cons (.ifs (.or (.not (.call 30 (.cons (.var 2) (.cons (.var 7) .nil)))) (.not (.call 24 (.cons (.var 2) (.cons (.var 7) .nil))))) (.cons (.ret (.bl false)) .nil) .nil) (.cons (.ifs (.cmp .ne (.call 46 (.cons (.var 7) .nil)) (.var 11)) (.cons (.ret (.bl false)) .nil) .nil) .nil)) .nil) .nil)))))) (.cons (.asg 6 (.tup (.cons (.bin .add (.bin .mul (.var 3) (.int 100)) (.call 12 (.cons (.var 1) (.cons (.bin .add (.int 1) (.bin .mul (.bin .sub (.var 4) (.var 3)) (.int 100))) .nil)))) (.cons (.int 100) .nil)))) (.cons (.asg 7 (.call 53 (.cons (.var 2) (.cons (.call 26 (.cons (.sub (.var 6) (.int 0)) (.cons (.sub (.var 6) (.int 1)) .nil))) .nil)))) (.cons (.ifs (.or (.cmp .isn (.var 7) .non) (.cmp .ne (.call 46 (.cons (.var 7) .nil)) (.call 26 (.cons (.sub (.var 6) (.int 0)) (.cons (.sub (.var 6) (.int 1)) .nil))))) (.cons (.ret (.bl false)) .nil) .nil) (.cons (.asg 8 (.lst (.cons (.int 1) (.cons .non (.cons (.tup (.cons (.int 1) (.cons (.int 0) .nil))) (.cons (.tup (.cons (.int 2) (.cons (.int 2) .nil))) (.cons (.tup (.cons (.int 1) (.cons (.neg (.int 1)) .nil))) (.cons (.tup (.cons (.bl true) (.cons (.int 1) .nil))) (.cons (.tup (.cons (.bin .add (.bin .pow (.int 10) (.int 6)) (.int 1)) (.cons (.int 1) .nil))) .nil))))))))) (.cons (.asg 8 (.bin .add (.var 8) (.lst (.cons (.tup (.cons (.int 1) (.cons (.bin .add (.bin .pow (.int 10) (.int 6)) (.int 1)) .nil))) (.cons (.lst (.cons (.int 1) (.cons (.int 1) .nil))) .nil))))) (.cons (.fors (.name 9) (.val (.var 8)) (.cons (.ifs (.cmp .ne (.told (.call 53 (.cons (.var 2) (.cons (.var 9) .nil)))) (.tup (.cons (.str "error") (.cons (.str "InvalidNumber") .nil)))) (.cons (.ret (.bl false)) .nil) .nil) .nil)) .nil)))))))))) (.cons (.ret (.bl true)) .nil))⟩
def c_signed : Def := ⟨3, 4, (.cons (.asg 3 (.call 36 (.cons (.call 35 (.cons (.var 0) (.cons (.var 1) (.cons (.var 2) .nil)))) .nil))) (.cons (.ret (.ite (.cmp .eq (.bin .mod (.bin .add (.var 1) (.var 2)) (.int 2)) (.int 0)) (.var 3) (.neg (.var 3)))) .nil))⟩
def c_are_invertible : Def := ⟨1, 3, (.cons (.unp (.tup2 (.name 1) (.name 2)) (.call 38 (.cons (.var 0) .nil))) (.cons (.ret (.or (.cmp .gt (.var 1) (.int 0)) (.cmp .lt (.var 2) (.int 0)))) .nil))⟩
def c_all_invertible : Def := ⟨1, 1, (.cons (.ex (.call 6 (.cons (.var 0) .nil))) (.cons (.ret (.call 56 (.cons (.var 0) .nil))) .nil))⟩
def c_whole_rows : Def := ⟨1, 6, (.cons (.asgL 1 .nil) (.cons (.fors (.name 2) (.val (.var 0)) (.cons (.asg 3 (.int 1)) (.cons (.fors (.tup2 (.name 4) (.name 5)) (.val (.var 2)) (.cons (.asg 3 (.bin .fdiv (.bin .mul (.var 3) (.var 5)) (.call 20 (.cons (.var 3) (.cons (.var 5) .nil))))) .nil)) (.cons (.app 1 (.comp (.tup2 (.name 4) (.name 5)) (.val (.var 2)) .none (.bin .mul (.var 4) (.bin .fdiv (.var 3) (.var 5))) [4, 5])) .nil)))) (.cons (.frz 1) (.cons (.ret (.var 1)) .nil))))⟩
def c_without_common : Def := ⟨1, 3, (.cons (.asg 1 (.int 0)) (.cons (.fors (.name 2) (.val (.var 0)) (.cons (.asg 1 (.call 20 (.cons (.var 2) (.cons (.var 1) .nil)))) .nil)) (.cons (.ret (.bi .tuple (.cons (.comp (.name 2) (.val (.var 0)) .none (.bin .fdiv (.var 2) (.var 1)) [2]) .nil))) .nil)))⟩
def c_zero_vector : Def := ⟨1, 11, (.cons (.asg 1 (.bi .len (.cons (.var 0) .nil))) (.cons (.fors (.name 2) (.rng1 (.var 1)) (.cons (.asg 7 (.comp (.name 8) (.rng1 (.var 1)) .none (.call 55 (.cons (.var 0) (.cons (.var 2) (.cons (.var 8) .nil)))) [8])) (.cons (.ifs (.bi .any (.cons (.comp (.name 10) (.val (.var 7)) .none (.cmp .ne (.var 10) (.int 0)) [10]) .nil)) (.cons (.ret (.call 59 (.cons (.var 7) .nil))) .nil) .nil) .nil))) (.cons (.asg 3 (.comp (.name 4) (.val (.var 0)) (.some (.bi .any (.cons (.comp (.name 10) (.val (.var 4)) .none (.cmp .ne (.var 10) (.int 0)) [10]) .nil))) (.var 4) [4])) (.cons (.ifs (.cmp .eq (.var 3) (.lst .nil)) (.cons (.ret (.bin .add (.tup (.cons (.int 1) .nil)) (.bin .mul (.tup (.cons (.int 0) .nil)) (.bin .sub (.var 1) (.int 1))))) .nil) .nil) (.cons (.asg 4 (.sub (.var 3) (.int 0))) (.cons (.asg 5 (.sub (.comp (.tup2 (.name 9) (.name 10)) (.enum (.var 4)) (.some (.cmp .ne (.var 10) (.int 0))) (.var 9) [9, 10]) (.int 0))) (.cons (.asg 6 (.bin .mod (.bin .add (.var 5) (.int 1)) (.var 1))) (.cons (.asgR 7 (.cons (.int 0) .nil) (.var 1)) (.cons (.setI2 7 (.var 5) (.var 6) (.neg (.sub (.var 4) (.var 6))) (.sub (.var 4) (.var 5))) (.cons (.frz 7) (.cons (.ret (.call 59 (.cons (.var 7) .nil))) .nil)))))))))))⟩
def c_singular : Def := ⟨1, 2, (.cons (.ex (.call 6 (.cons (.var 0) .nil))) (.cons (.ifs (.call 56 (.cons (.var 0) .nil)) (.cons (.ret .non) .nil) .nil) (.cons (.asg 1 (.call 52 (.cons (.var 0) (.cons (.tup (.cons (.int 0) (.cons (.int 1) .nil))) .nil)))) (.cons (.ret (.tup (.cons (.var 1) (.cons (.call 60 (.cons (.call 58 (.cons (.var 1) .nil)) .nil)) .nil)))) .nil))))⟩
def c_is_singular : Def := ⟨2, 5, (.cons (.ex (.call 6 (.cons (.var 0) .nil))) (.cons (.ifs (.or (.not (.bi (.isi .tuple) (.cons (.var 1) .nil))) (.or (.cmp .ne (.bi .len (.cons (.var 1) .nil)) (.int 2)) (.not (.call 23 (.cons (.var 0) (.cons (.sub (.var 1) (.int 0)) .nil)))))) (.cons (.ret (.bl false)) .nil) .nil) (.cons (.ifs (.not (.call 63 (.cons (.sub (.var 1) (.int 1)) (.cons (.bi .len (.cons (.var 0) .nil)) .nil)))) (.cons (.ret (.bl false)) .nil) .nil) (.cons (.fors (.name 2) (.val (.call 58 (.cons (.sub (.var 1) (.int 0)) .nil))) (.cons (.ifs (.cmp .ne (.bi .sum (.cons (.comp (.tup2 (.name 3) (.name 4)) (.enum (.var 2)) .none (.bin .mul (.var 4) (.sub (.sub (.var 1) (.int 1)) (.var 3))) [3, 4]) .nil)) (.int 0)) (.cons (.ret (.bl false)) .nil) .nil) .nil)) (.cons (.ret (.bl true)) .nil)))))⟩
def c_are_integers : Def := ⟨2, 3, (.cons (.ifs (.or (.not (.bi (.isi .tuple) (.cons (.var 0) .nil))) (.cmp .ne (.bi .len (.cons (.var 0) .nil)) (.var 1))) (.cons (.ret (.bl false)) .nil) .nil) (.cons (.ifs (.not (.bi .all (.cons (.comp (.name 2) (.val (.var 0)) .none (.call 1 (.cons (.var 2) .nil)) [2]) .nil))) (.cons (.ret (.bl false)) .nil) .nil) (.cons (.ret (.bi .any (.cons (.comp (.name 2) (.val (.var 0)) .none (.cmp .ne (.var 2) (.int 0)) [2]) .nil))) .nil)))⟩
def c_law_zeros : Def := ⟨2, 5, (.cons (.fors (.name 2) (.val (.sub (.call 45 (.cons (.var 0) .nil)) (.int 0))) (.cons (.ifs (.cmp .ne (.bi .sum (.cons (.comp (.tup2 (.name 3) (.name 4)) (.zip (.var 2) (.var 1)) .none (.bin .mul (.var 3) (.var 4)) [3, 4]) .nil)) (.int 0)) (.cons (.ret (.bl false)) .nil) .nil) .nil)) (.cons (.ret (.bl true)) .nil))⟩
def c_law_65 : Def := ⟨1, 14, (.cons (.fors (.name 1) (.val (.call 13 (.cons (.var 0) (.cons (.int 4) .nil)))) (.cons (.asg 2 (.call 16 (.cons (.var 1) (.cons (.int 3) .nil)))) (.cons (.asg 3 (.comp (.name 11) (.val (.call 17 (.cons (.var 2) .nil))) .none (.call 44 (.cons (.var 11) .nil)) [11])) (.cons (.asg 4 (.or (.cmp .gt (.bi .min1 (.cons (.var 3) .nil)) (.int 0)) (.cmp .lt (.bi .max1 (.cons (.var 3) .nil)) (.int 0)))) (.cons (.asg 5 (.call 61 (.cons (.var 2) .nil))) (.cons (.ifs (.or (.cmp .ne (.call 57 (.cons (.var 2) .nil)) (.var 4)) (.cmp .ne (.cmp .isn (.var 5) .non) (.var 4))) (.cons (.ret (.bl false)) .nil) .nil) (.cons (.ifs (.cmp .notn (.var 5) .non) (.cons (.unp (.tup2 (.name 8) (.name 9)) (.var 5)) (.cons (.ifs (.or (.not (.call 30 (.cons (.var 2) (.cons (.var 8) .nil)))) (.cmp .ne (.call 46 (.cons (.var 8) .nil)) (.tup (.cons (.int 0) (.cons (.int 1) .nil))))) (.cons (.ret (.bl false)) .nil) .nil) (.cons (.ifs (.cmp .ne (.bi .len (.cons (.var 9) .nil)) (.bi .len (.cons (.var 2) .nil))) (.cons (.ret (.bl false)) .nil) .nil) (.cons (.ifs (.or (.not (.bi .any (.cons (.comp (.name 12) (.val (.var 9)) .none (.cmp .ne (.var 12) (.int 0)) [12]) .nil))) (.not (.call 64 (.cons (.var 8) (.cons (.var 9) .nil))))) (.cons (.ret (.bl false)) .nil) .nil) (.cons (.ifs (.not (.call 62 (.cons (.var 2) (.cons (.var 5) .nil)))) (.cons (.ret (.bl false)) .nil) .nil) .nil))))) (.cons (.fors (.name 10) (.rng1 (.int 4)) (.cons (.ifs (.cmp .eq (.sub (.call 46 (.cons (.call 29 (.cons (.var 1) (.cons (.var 2) .nil))) .nil)) (.int 0)) (.int 0)) (.cons (.ret (.bl false)) .nil) .nil) .nil)) .nil)) (.cons (.asg 6 (.bi .tuple (.cons (.comp (.name 12) (.val (.comp (.name 13) (.val (.var 2)) .none (.bin .sub (.call 12 (.cons (.var 1) (.cons (.int 7) .nil))) (.int 3)) [13])) .none (.tup (.cons (.var 12) (.cons (.var 12) .nil))) [12]) .nil))) (.cons (.ifs (.cmp .gt (.bi .len (.cons (.var 2) .nil)) (.int 1)) (.cons (.asg 5 (.call 61 (.cons (.bin .mul (.tup (.cons (.var 6) .nil)) (.bi .len (.cons (.var 2) .nil))) .nil))) (.cons (.ifs (.cmp .isn (.var 5) .non) (.cons (.ret (.bl false)) .nil) .nil) (.cons (.unp (.tup2 (.name 8) (.name 9)) (.var 5)) (.cons (.ifs (.or (.not (.bi .any (.cons (.comp (.name 12) (.val (.var 9)) .none (.cmp .ne (.var 12) (.int 0)) [12]) .nil))) (.not (.call 64 (.cons (.var 8) (.cons (.var 9) .nil))))) (.cons (.ret (.bl false)) .nil) .nil) .nil)))) .nil) (.cons (.asg 7 (.bin .mul (.tup (.cons (.bin .mul (.tup (.cons (.tup (.cons (.int 0) (.cons (.int 0) .nil))) .nil)) (.bi .len (.cons (.var 2) .nil))) .nil)) (.bi .len (.cons (.var 2) .nil)))) (.cons (.asg 5 (.call 61 (.cons (.var 7) .nil))) (.cons (.ifs (.or (.call 57 (.cons (.var 7) .nil)) (.or (.cmp .isn (.var 5) .non) (.not (.call 30 (.cons (.var 7) (.cons (.sub (.var 5) (.int 0)) .nil)))))) (.cons (.ret (.bl false)) .nil) .nil) .nil)))))))))))) (.cons (.ret (.bl true)) .nil))⟩
def c_law_unit : Def := ⟨2, 3, (.cons (.ret (.bi .tuple (.cons (.comp (.name 2) (.rng1 (.var 0)) .none (.bi .int (.cons (.cmp .eq (.var 2) (.var 1)) .nil)) [2]) .nil))) .nil)⟩
def c_law_good_67 : Def := ⟨3, 6, (.cons (.ifs (.or (.not (.call 30 (.cons (.var 0) (.cons (.var 1) .nil)))) (.cmp .ne (.bi .len (.cons (.var 2) .nil)) (.bi .len (.cons (.var 0) .nil)))) (.cons (.ret (.bl false)) .nil) .nil) (.cons (.ifs (.not (.bi .any (.cons (.comp (.name 4) (.val (.var 2)) .none (.cmp .ne (.var 4) (.int 0)) [4]) .nil))) (.cons (.ret (.bl false)) .nil) .nil) (.cons (.fors (.name 3) (.val (.sub (.call 45 (.cons (.var 1) .nil)) (.int 0))) (.cons (.ifs (.cmp .ne (.bi .sum (.cons (.comp (.tup2 (.name 4) (.name 5)) (.zip (.var 3) (.var 2)) .none (.bin .mul (.var 4) (.var 5)) [4, 5]) .nil)) (.int 0)) (.cons (.ret (.bl false)) .nil) .nil) .nil)) (.cons (.ret (.bl true)) .nil))))⟩
def c_law_68 : Def := ⟨1, 14, (.cons (.fors (.name 1) (.val (.call 13 (.cons (.var 0) (.cons (.int 4) .nil)))) (.cons (.asg 2 (.call 16 (.cons (.var 1) (.cons (.int 3) .nil)))) (.cons (.asg 3 (.bi .len (.cons (.var 2) .nil))) (.cons (.asg 4 (.call 61 (.cons (.var 2) .nil))) (.cons (.unp (.tup2 (.name 5) (.name 6)) (.ite (.cmp .notn (.var 4) .non) (.var 4) (.tup (.cons (.call 29 (.cons (.var 1) (.cons (.var 2) .nil))) (.cons (.call 66 (.cons (.var 3) (.cons (.int 0) .nil))) .nil))))) (.cons (.asg 7 (.call 12 (.cons (.var 1) (.cons (.var 3) .nil)))) (.cons (.asg 8 (.bin .add (.bin .add (.slice (.var 6) .none (.some (.var 7))) (.tup (.cons (.bin .add (.sub (.var 6) (.var 7)) (.int 1)) .nil))) (.slice (.var 6) (.some (.bin .add (.var 7) (.int 1))) .none))) (.cons (.asgL 9 (.cons (.tup (.cons (.var 5) (.cons (.var 6) .nil))) (.cons (.tup (.cons (.var 5) (.cons (.var 8) .nil))) (.cons (.tup (.cons (.var 5) (.cons (.bin .mul (.tup (.cons (.int 0) .nil)) (.var 3)) .nil))) .nil)))) (.cons (.frz 9) (.cons (.asgC 9 (.var 9) (.lst (.cons (.tup (.cons (.var 5) (.cons (.bi .tuple (.cons (.comp (.name 13) (.val (.var 6)) .none (.bin .mul (.int 5) (.var 13)) [13]) .nil)) .nil))) .nil))) (.cons (.frz 9) (.cons (.asgC 9 (.var 9) (.lst (.cons (.tup (.cons (.rev (.var 5)) (.cons (.var 6) .nil))) (.cons (.tup (.cons (.call 29 (.cons (.var 1) (.cons (.var 2) .nil))) (.cons (.var 6) .nil))) .nil)))) (.cons (.frz 9) (.cons (.asgC 9 (.var 9) (.lst (.cons (.tup (.cons (.var 5) (.cons (.slice (.var 6) (.some (.int 1)) .none) .nil))) .nil))) (.cons (.app 9 (.tup (.cons (.call 31 (.cons (.sub (.call 17 (.cons (.var 2) .nil)) (.int 0)) .nil)) (.cons (.var 6) .nil)))) (.cons (.frz 9) (.cons (.fors (.name 10) (.val (.var 9)) (.cons (.ifs (.cmp .ne (.call 62 (.cons (.var 2) (.cons (.var 10) .nil))) (.call 67 (.cons (.var 2) (.cons (.sub (.var 10) (.int 0)) (.cons (.sub (.var 10) (.int 1)) .nil))))) (.cons (.ret (.bl false)) .nil) .nil) .nil)) (.cons (.asg 11 (.lst (.cons .non (.cons (.tup .nil) (.cons (.tup (.cons (.var 5) .nil)) (.cons (.lst (.cons (.var 5) (.cons (.var 6) .nil))) (.cons (.tup (.cons (.var 5) (.cons (.bi .list (.cons (.var 6) .nil)) .nil))) (.cons (.tup (.cons (.var 5) (.cons .non .nil))) .nil)))))))) (.cons (.asg 11 (.bin .add (.var 11) (.lst (.cons (.tup (.cons .non (.cons (.var 6) .nil))) .nil)))) (.cons (.fors (.name 12) (.val (.var 11)) (.cons (.ifs (.call 62 (.cons (.var 2) (.cons (.var 12) .nil))) (.cons (.ret (.bl false)) .nil) .nil) .nil)) (.cons (.ifs (.call 62 (.cons (.var 2) (.cons (.tup (.cons (.var 5) (.cons (.bi .tuple (.cons (.rep (.cons (.bl true) .nil) (.var 3)) .nil)) .nil))) .nil))) (.cons (.ret (.bl false)) .nil) .nil) .nil))))))))))))))))))))) (.cons (.ret (.bl true)) .nil))⟩
def c_need_place : Def := ⟨2, 2, (.cons (.ifs (.not (.call 2 (.cons (.var 1) (.cons (.int 0) (.cons (.bin .sub (.bi .len (.cons (.var 0) .nil)) (.int 1)) .nil))))) (.cons (.raise 3) .nil) .nil) .nil)⟩
def c_need_invertible : Def := ⟨1, 1, (.cons (.ifs (.not (.call 56 (.cons (.var 0) .nil))) (.cons (.raise 7) .nil) .nil) .nil)⟩
def c_inverse_values : Def := ⟨3, 5, (.cons (.ret (.comp (.tup2 (.name 3) (.name 4)) (.val (.call 37 (.cons (.var 0) .nil))) .none (.tup (.cons (.call 48 (.cons (.call 55 (.cons (.var 4) (.cons (.var 2) (.cons (.var 1) .nil)))) (.cons (.var 3) .nil))) (.cons (.var 4) .nil))) [3, 4])) .nil)⟩
def c_is_less : Def := ⟨2, 2, (.cons (.ret (.cmp .lt (.bin .mul (.sub (.var 0) (.int 0)) (.sub (.var 1) (.int 1))) (.bin .mul (.sub (.var 1) (.int 0)) (.sub (.var 0) (.int 1))))) .nil)⟩
def c_best_pair : Def := ⟨2, 4, (.cons (.asg 2 (.sub (.var 0) (.int 0))) (.cons (.fors (.name 3) (.val (.slice (.var 0) (.some (.int 1)) .none)) (.cons (.ifs (.ite (.cmp .gt (.var 1) (.int 0)) (.call 72 (.cons (.sub (.var 2) (.int 0)) (.cons (.sub (.var 3) (.int 0)) .nil))) (.call 72 (.cons (.sub (.var 3) (.int 0)) (.cons (.sub (.var 2) (.int 0)) .nil)))) (.cons (.asg 2 (.var 3)) .nil) .nil) .nil)) (.cons (.ret (.var 2)) .nil)))⟩
def c_need_inverse : Def := ⟨3, 3, (.cons (.ex (.call 6 (.cons (.var 0) .nil))) (.cons (.ex (.call 69 (.cons (.var 0) (.cons (.var 1) .nil)))) (.cons (.ex (.call 69 (.cons (.var 0) (.cons (.var 2) .nil)))) (.cons (.ex (.call 70 (.cons (.var 0) .nil))) .nil))))⟩
def c_inverse_range : Def := ⟨3, 4, (.cons (.ex (.call 74 (.cons (.var 0) (.cons (.var 1) (.cons (.var 2) .nil))))) (.cons (.asg 3 (.call 71 (.cons (.var 0) (.cons (.var 1) (.cons (.var 2) .nil))))) (.cons (.ret (.tup (.cons (.sub (.call 73 (.cons (.var 3) (.cons (.neg (.int 1)) .nil))) (.int 0)) (.cons (.sub (.call 73 (.cons (.var 3) (.cons (.int 1) .nil))) (.int 0)) .nil)))) .nil)))⟩
def c_inverse_corner : Def := ⟨3, 3, (.cons (.ex (.call 74 (.cons (.var 0) (.cons (.var 1) (.cons (.var 2) .nil))))) (.cons (.ret (.sub (.call 73 (.cons (.call 71 (.cons (.var 0) (.cons (.var 1) (.cons (.var 2) .nil)))) (.cons (.int 1) .nil))) (.int 1))) .nil))⟩
def c_law_replaced : Def := ⟨3, 5, (.cons (.ret (.bi .tuple (.cons (.comp (.tup2 (.name 3) (.name 4)) (.enum (.var 0)) .none (.bin .add (.bin .add (.slice (.var 4) .none (.some (.var 1))) (.tup (.cons (.sub (.var 2) (.var 3)) .nil))) (.slice (.var 4) (.some (.bin .add (.var 1) (.int 1))) .none)) [3, 4]) .nil))) .nil)⟩
def c_law_ends : Def := ⟨1, 4, (.cons (.par [1, 2] (.cons (.sub (.var 0) (.int 0)) (.cons (.sub (.var 0) (.int 0)) .nil))) (.cons (.fors (.name 3) (.val (.var 0)) (.cons (.asg 1 (.ite (.cmp .lt (.bin .mul (.sub (.var 3) (.int 0)) (.sub (.var 1) (.int 1))) (.bin .mul (.sub (.var 1) (.int 0)) (.sub (.var 3) (.int 1)))) (.var 3) (.var 1))) (.cons (.asg 2 (.ite (.cmp .gt (.bin .mul (.sub (.var 3) (.int 0)) (.sub (.var 2) (.int 1))) (.bin .mul (.sub (.var 2) (.int 0)) (.sub (.var 3) (.int 1)))) (.var 3) (.var 2))) .nil))) (.cons (.ret (.tup (.cons (.var 1) (.cons (.var 2) .nil)))) .nil)))⟩
def c_law_79 : Def := ⟨1, 16, (.cons (.fors (.name 1) (.val (.call 13 (.cons (.var 0) (.cons (.int 3) .nil)))) (.cons (.asg 2 (.call 16 (.cons (.var 1) (.cons (.int 3) .nil)))) (.cons (.asg 3 (.bi .len (.cons (.var 2) .nil))) (.cons (.unp (.tup2 (.name 4) (.name 5)) (.tup (.cons (.call 12 (.cons (.var 1) (.cons (.var 3) .nil))) (.cons (.call 12 (.cons (.var 1) (.cons (.var 3) .nil))) .nil)))) (.cons (.asg 6 (.told (.call 75 (.cons (.var 2) (.cons (.var 4) (.cons (.var 5) .nil)))))) (.cons (.ifs (.not (.call 57 (.cons (.var 2) .nil))) (.cons (.ifs (.or (.cmp .ne (.var 6) (.tup (.cons (.str "error") (.cons (.str "Singular") .nil)))) (.cmp .ne (.told (.call 76 (.cons (.var 2) (.cons (.var 4) (.cons (.var 5) .nil))))) (.tup (.cons (.str "error") (.cons (.str "Singular") .nil))))) (.cons (.ret (.bl false)) .nil) .nil) .nil) (.cons (.asgL 8 .nil) (.cons (.fors (.name 9) (.val (.call 17 (.cons (.var 2) .nil))) (.cons (.asg 13 (.call 44 (.cons (.call 77 (.cons (.var 9) (.cons (.var 4) (.cons (.call 66 (.cons (.var 3) (.cons (.var 5) .nil))) .nil)))) .nil))) (.cons (.app 8 (.tup (.cons (.call 26 (.cons (.var 13) (.cons (.call 44 (.cons (.var 9) .nil)) .nil))) (.cons (.var 9) .nil)))) .nil))) (.cons (.frz 8) (.cons (.unp (.tup2 (.name 10) (.name 11)) (.call 78 (.cons (.comp (.tup2 (.name 15) (.name 9)) (.val (.var 8)) .none (.var 15) [15, 9]) .nil))) (.cons (.ifs (.cmp .ne (.var 6) (.tup (.cons (.var 10) (.cons (.var 11) .nil)))) (.cons (.ret (.bl false)) .nil) .nil) (.cons (.ifs (.cmp .ne (.call 76 (.cons (.var 2) (.cons (.var 4) (.cons (.var 5) .nil)))) (.sub (.comp (.tup2 (.name 15) (.name 9)) (.val (.var 8)) (.some (.cmp .eq (.var 15) (.var 11))) (.var 9) [15, 9]) (.int 0))) (.cons (.ret (.bl false)) .nil) .nil) (.cons (.fors (.name 12) (.rng1 (.int 3)) (.cons (.unp (.tup2 (.name 9) (.name 14)) (.call 45 (.cons (.call 29 (.cons (.var 1) (.cons (.var 2) .nil))) .nil))) (.cons (.asg 13 (.bin .mul (.call 44 (.cons (.call 77 (.cons (.var 9) (.cons (.var 4) (.cons (.call 66 (.cons (.var 3) (.cons (.var 5) .nil))) .nil)))) .nil)) (.var 14))) (.cons (.ifs (.not (.call 27 (.cons (.call 26 (.cons (.var 13) (.cons (.call 44 (.cons (.var 9) .nil)) .nil))) (.cons (.var 10) (.cons (.var 11) .nil))))) (.cons (.ret (.bl false)) .nil) .nil) .nil)))) .nil)))))))) (.cons (.fors (.name 7) (.val (.lst (.cons (.neg (.int 1)) (.cons (.var 3) (.cons (.bl true) (.cons .non .nil)))))) (.cons (.ifs (.cmp .ne (.told (.call 75 (.cons (.var 2) (.cons (.var 7) (.cons (.int 0) .nil))))) (.tup (.cons (.str "error") (.cons (.str "InvalidPlace") .nil)))) (.cons (.ret (.bl false)) .nil) .nil) (.cons (.ifs (.cmp .ne (.told (.call 76 (.cons (.var 2) (.cons (.int 0) (.cons (.var 7) .nil))))) (.tup (.cons (.str "error") (.cons (.str "InvalidPlace") .nil)))) (.cons (.ret (.bl false)) .nil) .nil) .nil))) .nil))))))) (.cons (.ret (.bl true)) .nil))⟩
def c_widened : Def := ⟨2, 5, (.cons (.ret (.bi .tuple (.cons (.comp (.name 2) (.val (.var 0)) .none (.bi .tuple (.cons (.comp (.tup2 (.name 3) (.name 4)) (.val (.var 2)) .none (.tup (.cons (.bin .sub (.var 3) (.var 1)) (.cons (.bin .add (.var 4) (.var 1)) .nil))) [3, 4]) .nil)) [2]) .nil))) .nil)⟩
def c_margin : Def := ⟨1, 2, (.cons (.ex (.call 6 (.cons (.var 0) .nil))) (.cons (.ifs (.not (.call 56 (.cons (.var 0) .nil))) (.cons (.ret .non) .nil) .nil) (.cons (.asg 1 (.int 0)) (.cons (.whl (.call 56 (.cons (.call 80 (.cons (.var 0) (.cons (.bin .add (.var 1) (.int 1)) .nil))) .nil)) (.cons (.aug 1 (.int 1)) .nil)) (.cons (.ret (.var 1)) .nil)))))⟩
def c_law_keeps : Def := ⟨2, 8, (.cons (.asg 2 (.bi .tuple (.cons (.comp (.name 5) (.val (.var 0)) .none (.bi .tuple (.cons (.comp (.tup2 (.name 6) (.name 7)) (.val (.var 5)) .none (.tup (.cons (.bin .sub (.var 6) (.var 1)) (.cons (.bin .add (.var 7) (.var 1)) .nil))) [6, 7]) .nil)) [5]) .nil))) (.cons (.asg 3 (.comp (.name 4) (.val (.call 17 (.cons (.var 2) .nil))) .none (.call 44 (.cons (.var 4) .nil)) [4])) (.cons (.ret (.or (.cmp .gt (.bi .min1 (.cons (.var 3) .nil)) (.int 0)) (.cmp .lt (.bi .max1 (.cons (.var 3) .nil)) (.int 0)))) .nil)))⟩
def c_law_83 : Def := ⟨1, 11, (.cons (.fors (.name 1) (.val (.call 13 (.cons (.var 0) (.cons (.int 3) .nil)))) (.cons (.asg 2 (.call 16 (.cons (.var 1) (.cons (.bin .add (.int 2) (.bi .int (.cons (.cmp .eq (.call 12 (.cons (.var 1) (.cons (.int 3) .nil))) (.int 0)) .nil))) .nil)))) (.cons (.ifs (.cmp .eq (.call 12 (.cons (.var 1) (.cons (.int 2) .nil))) (.int 0)) (.cons (.asg 6 (.bi .len (.cons (.var 2) .nil))) (.cons (.asg 7 (.comp (.name 8) (.rng1 (.var 6)) .none (.comp (.name 9) (.rng1 (.var 6)) .none (.ite (.cmp .ne (.var 8) (.var 9)) (.sub (.sub (.var 2) (.var 8)) (.var 9)) (.tup (.cons (.int 8) (.cons (.int 8) .nil)))) [9]) [8])) (.cons (.asg 2 (.bi .tuple (.cons (.comp (.name 10) (.val (.var 7)) .none (.bi .tuple (.cons (.var 10) .nil)) [10]) .nil))) .nil))) .nil) (.cons (.asg 3 (.call 81 (.cons (.var 2) .nil))) (.cons (.ifs (.or (.cmp .ne (.cmp .isn (.var 3) .non) (.not (.call 82 (.cons (.var 2) (.cons (.int 0) .nil))))) (.cmp .ne (.cmp .notn (.var 3) .non) (.call 57 (.cons (.var 2) .nil)))) (.cons (.ret (.bl false)) .nil) .nil) (.cons (.ifs (.cmp .notn (.var 3) .non) (.cons (.ifs (.or (.not (.call 82 (.cons (.var 2) (.cons (.var 3) .nil)))) (.or (.call 82 (.cons (.var 2) (.cons (.bin .add (.var 3) (.int 1)) .nil))) (.cmp .gt (.var 3) (.int 9)))) (.cons (.ret (.bl false)) .nil) .nil) (.cons (.ifs (.and (.cmp .gt (.var 3) (.int 0)) (.cmp .ne (.call 81 (.cons (.call 43 (.cons (.var 2) .nil)) .nil)) (.var 3))) (.cons (.ret (.bl false)) .nil) .nil) .nil)) .nil) (.cons (.asg 4 (.bin .add (.int 1) (.call 12 (.cons (.var 1) (.cons (.int 9) .nil))))) (.cons (.ifs (.or (.cmp .ne (.call 81 (.cons (.tup (.cons (.tup (.cons (.tup (.cons (.var 4) (.cons (.var 4) .nil))) .nil)) .nil)) .nil)) (.bin .sub (.var 4) (.int 1))) (.cmp .notn (.call 81 (.cons (.tup (.cons (.tup (.cons (.tup (.cons (.neg (.var 4)) (.cons (.int 0) .nil))) .nil)) .nil)) .nil)) .non)) (.cons (.ret (.bl false)) .nil) .nil) (.cons (.asg 5 (.tup (.cons (.tup (.cons (.tup (.cons (.var 4) (.cons (.var 4) .nil))) (.cons (.tup (.cons (.int 0) (.cons (.int 0) .nil))) .nil))) (.cons (.tup (.cons (.tup (.cons (.int 0) (.cons (.int 0) .nil))) (.cons (.tup (.cons (.var 4) (.cons (.var 4) .nil))) .nil))) .nil)))) (.cons (.ifs (.cmp .ne (.call 81 (.cons (.var 5) .nil)) (.bin .fdiv (.bin .sub (.var 4) (.int 1)) (.int 2))) (.cons (.ret (.bl false)) .nil) .nil) .nil)))))))))) (.cons (.ret (.bl true)) .nil))⟩
def c_need_right : Def := ⟨2, 2, (.cons (.ifs (.not (.call 4 (.cons (.var 1) (.cons (.bi .len (.cons (.var 0) .nil)) .nil)))) (.cons (.raise 1) .nil) .nil) .nil)⟩
def c_unknown : Def := ⟨4, 6, (.cons (.ret (.call 48 (.cons (.bi .sum (.cons (.comp (.tup2 (.name 4) (.name 5)) (.enum (.var 2)) .none (.bin .mul (.call 55 (.cons (.var 0) (.cons (.var 4) (.cons (.var 3) .nil)))) (.var 5)) [4, 5]) .nil)) (.cons (.var 1) .nil)))) .nil)⟩
def c_best_side : Def := ⟨5, 9, (.cons (.asgL 5 .nil) (.cons (.fors (.tup2 (.name 6) (.name 7)) (.enum (.var 2)) (.cons (.asg 8 (.bin .mul (.bin .mul (.call 55 (.cons (.var 0) (.cons (.var 6) (.cons (.var 3) .nil)))) (.var 1)) (.var 4))) (.cons (.app 5 (.ite (.cmp .gt (.var 8) (.int 0)) (.sub (.var 7) (.int 1)) (.sub (.var 7) (.int 0)))) .nil))) (.cons (.frz 5) (.cons (.ret (.bi .tuple (.cons (.var 5) .nil))) .nil))))⟩
def c_extremes : Def := ⟨4, 7, (.cons (.asgL 4 .nil) (.cons (.fors (.tup2 (.name 5) (.name 6)) (.val (.call 37 (.cons (.var 0) .nil))) (.cons (.app 4 (.tup (.cons (.call 85 (.cons (.var 6) (.cons (.var 5) (.cons (.call 86 (.cons (.var 6) (.cons (.var 5) (.cons (.var 1) (.cons (.var 2) (.cons (.var 3) .nil)))))) (.cons (.var 2) .nil))))) (.cons (.var 6) .nil)))) .nil)) (.cons (.frz 4) (.cons (.ret (.var 4)) .nil))))⟩
def c_need_system : Def := ⟨3, 3, (.cons (.ex (.call 6 (.cons (.var 0) .nil))) (.cons (.ex (.call 84 (.cons (.var 0) (.cons (.var 1) .nil)))) (.cons (.ex (.call 69 (.cons (.var 0) (.cons (.var 2) .nil)))) (.cons (.ex (.call 70 (.cons (.var 0) .nil))) .nil))))⟩
def c_solution_range : Def := ⟨3, 4, (.cons (.ex (.call 88 (.cons (.var 0) (.cons (.var 1) (.cons (.var 2) .nil))))) (.cons (.asg 3 (.sub (.call 73 (.cons (.call 87 (.cons (.var 0) (.cons (.var 1) (.cons (.var 2) (.cons (.neg (.int 1)) .nil))))) (.cons (.neg (.int 1)) .nil))) (.int 0))) (.cons (.ret (.tup (.cons (.var 3) (.cons (.sub (.call 73 (.cons (.call 87 (.cons (.var 0) (.cons (.var 1) (.cons (.var 2) (.cons (.int 1) .nil))))) (.cons (.int 1) .nil))) (.int 0)) .nil)))) .nil)))⟩
def c_law_sides : Def := ⟨1, 8, (.cons (.asg 1 (.lst (.cons (.tup .nil) .nil))) (.cons (.fors (.tup2 (.name 2) (.name 3)) (.val (.var 0)) (.cons (.asg 4 (.ite (.cmp .eq (.var 2) (.var 3)) (.tup (.cons (.var 2) .nil)) (.tup (.cons (.var 2) (.cons (.var 3) .nil))))) (.cons (.asg 5 (.lst .nil)) (.cons (.fors (.name 6) (.val (.var 1)) (.cons (.asg 5 (.bin .add (.var 5) (.comp (.name 7) (.val (.var 4)) .none (.bin .add (.var 6) (.tup (.cons (.var 7) .nil))) [7]))) .nil)) (.cons (.asg 1 (.var 5)) .nil))))) (.cons (.ret (.var 1)) .nil)))⟩
def c_law_91 : Def := ⟨1, 18, (.cons (.fors (.name 1) (.val (.call 13 (.cons (.var 0) (.cons (.int 3) .nil)))) (.cons (.asg 2 (.call 16 (.cons (.var 1) (.cons (.bin .add (.int 2) (.bi .int (.cons (.cmp .eq (.call 12 (.cons (.var 1) (.cons (.int 5) .nil))) (.int 0)) .nil))) .nil)))) (.cons (.parA 3 4 (.bi .len (.cons (.var 2) .nil))) (.cons (.fors (.name 5) (.rng1 (.var 3)) (.cons (.asg 10 (.bin .sub (.call 12 (.cons (.var 1) (.cons (.int 13) .nil))) (.int 6))) (.cons (.app 4 (.tup (.cons (.var 10) (.cons (.bi .min2 (.cons (.int 9) (.cons (.bin .add (.var 10) (.call 12 (.cons (.var 1) (.cons (.int 3) .nil)))) .nil))) .nil)))) .nil))) (.cons (.frz 4) (.cons (.unp (.tup2 (.name 4) (.name 6)) (.tup (.cons (.bi .tuple (.cons (.var 4) .nil)) (.cons (.call 12 (.cons (.var 1) (.cons (.var 3) .nil))) .nil)))) (.cons (.asg 7 (.told (.call 89 (.cons (.var 2) (.cons (.var 4) (.cons (.var 6) .nil)))))) (.cons (.ifs (.not (.call 57 (.cons (.var 2) .nil))) (.cons (.ifs (.cmp .ne (.var 7) (.tup (.cons (.str "error") (.cons (.str "Singular") .nil)))) (.cons (.ret (.bl false)) .nil) .nil) .nil) (.cons (.asgL 11 .nil) (.cons (.fors (.name 12) (.val (.call 17 (.cons (.var 2) .nil))) (.cons (.asg 16 (.call 44 (.cons (.var 12) .nil))) (.cons (.fors (.name 14) (.val (.call 90 (.cons (.var 4) .nil))) (.cons (.app 11 (.call 26 (.cons (.call 44 (.cons (.call 77 (.cons (.var 12) (.cons (.var 6) (.cons (.var 14) .nil)))) .nil)) (.cons (.var 16) .nil)))) .nil)) .nil))) (.cons (.frz 11) (.cons (.ifs (.cmp .ne (.var 7) (.call 78 (.cons (.var 11) .nil))) (.cons (.ret (.bl false)) .nil) .nil) (.cons (.unp (.tup2 (.name 12) (.name 13)) (.call 45 (.cons (.call 29 (.cons (.var 1) (.cons (.var 2) .nil))) .nil))) (.cons (.asg 14 (.bi .tuple (.cons (.comp (.name 17) (.val (.sub (.call 90 (.cons (.var 4) .nil)) (.call 12 (.cons (.var 1) (.cons (.bi .len (.cons (.call 90 (.cons (.var 4) .nil)) .nil)) .nil))))) .none (.bin .mul (.var 17) (.var 13)) [17]) .nil))) (.cons (.asg 15 (.call 26 (.cons (.call 44 (.cons (.call 77 (.cons (.var 12) (.cons (.var 6) (.cons (.var 14) .nil)))) .nil)) (.cons (.call 44 (.cons (.var 12) .nil)) .nil)))) (.cons (.ifs (.not (.call 27 (.cons (.var 15) (.cons (.sub (.var 7) (.int 0)) (.cons (.sub (.var 7) (.int 1)) .nil))))) (.cons (.ret (.bl false)) .nil) .nil) .nil))))))))) (.cons (.asg 8 (.lst (.cons (.slice (.var 4) (.some (.int 1)) .none) (.cons (.bi .list (.cons (.var 4) .nil)) (.cons (.bin .mul (.tup (.cons (.tup (.cons (.int 1) (.cons (.int 0) .nil))) .nil)) (.var 3)) (.cons (.bin .mul (.tup (.cons (.tup (.cons (.int 0) (.cons (.int 10) .nil))) .nil)) (.var 3)) (.cons .non (.cons (.bin .add (.var 4) (.tup (.cons (.tup (.cons (.int 0) (.cons (.int 0) .nil))) .nil))) .nil)))))))) (.cons (.fors (.name 9) (.val (.var 8)) (.cons (.ifs (.cmp .ne (.told (.call 89 (.cons (.var 2) (.cons (.var 9) (.cons (.var 6) .nil))))) (.tup (.cons (.str "error") (.cons (.str "InvalidRight") .nil)))) (.cons (.ret (.bl false)) .nil) .nil) .nil)) .nil)))))))))) (.cons (.ret (.bl true)) .nil))⟩
def c_solution_corner : Def := ⟨3, 8, (.cons (.ex (.call 88 (.cons (.var 0) (.cons (.var 1) (.cons (.var 2) .nil))))) (.cons (.unp (.tup2 (.name 3) (.name 4)) (.call 73 (.cons (.call 87 (.cons (.var 0) (.cons (.var 1) (.cons (.var 2) (.cons (.int 1) .nil))))) (.cons (.int 1) .nil)))) (.cons (.asg 5 (.call 36 (.cons (.var 4) .nil))) (.cons (.asg 6 (.comp (.name 7) (.val (.call 33 (.cons (.var 1) .nil))) (.some (.cmp .eq (.call 85 (.cons (.var 4) (.cons (.var 5) (.cons (.var 7) (.cons (.var 2) .nil))))) (.var 3))) (.var 7) [7])) (.cons (.ret (.tup (.cons (.var 4) (.cons (.sub (.var 6) (.int 0)) .nil)))) .nil)))))⟩
def c_law_93 : Def := ⟨1, 14, (.cons (.fors (.name 1) (.val (.call 13 (.cons (.var 0) (.cons (.int 3) .nil)))) (.cons (.asg 2 (.call 16 (.cons (.var 1) (.cons (.int 2) .nil)))) (.cons (.parA 3 4 (.bi .len (.cons (.var 2) .nil))) (.cons (.fors (.name 5) (.rng1 (.var 3)) (.cons (.asg 9 (.bin .sub (.call 12 (.cons (.var 1) (.cons (.int 13) .nil))) (.int 6))) (.cons (.app 4 (.tup (.cons (.var 9) (.cons (.bi .min2 (.cons (.int 9) (.cons (.bin .add (.var 9) (.call 12 (.cons (.var 1) (.cons (.int 3) .nil)))) .nil))) .nil)))) .nil))) (.cons (.frz 4) (.cons (.unp (.tup2 (.name 4) (.name 6)) (.tup (.cons (.bi .tuple (.cons (.var 4) .nil)) (.cons (.call 12 (.cons (.var 1) (.cons (.var 3) .nil))) .nil)))) (.cons (.asg 7 (.told (.call 92 (.cons (.var 2) (.cons (.var 4) (.cons (.var 6) .nil)))))) (.cons (.ifs (.not (.call 57 (.cons (.var 2) .nil))) (.cons (.ifs (.cmp .ne (.var 7) (.tup (.cons (.str "error") (.cons (.str "Singular") .nil)))) (.cons (.ret (.bl false)) .nil) .nil) .nil) (.cons (.parA 10 11 (.sub (.call 89 (.cons (.var 2) (.cons (.var 4) (.cons (.var 6) .nil)))) (.int 1))) (.cons (.fors (.name 12) (.val (.call 17 (.cons (.var 2) .nil))) (.cons (.fors (.name 13) (.val (.call 90 (.cons (.var 4) .nil))) (.cons (.ifs (.cmp .eq (.call 26 (.cons (.call 44 (.cons (.call 77 (.cons (.var 12) (.cons (.var 6) (.cons (.var 13) .nil)))) .nil)) (.cons (.call 44 (.cons (.var 12) .nil)) .nil))) (.var 10)) (.cons (.app 11 (.tup (.cons (.var 12) (.cons (.var 13) .nil)))) .nil) .nil) .nil)) .nil)) (.cons (.frz 11) (.cons (.ifs (.or (.cmp .eq (.var 11) (.lst .nil)) (.cmp .ne (.var 7) (.sub (.var 11) (.int 0)))) (.cons (.ret (.bl false)) .nil) .nil) .nil))))) (.cons (.fors (.name 8) (.val (.lst (.cons (.neg (.int 1)) (.cons (.var 3) (.cons (.bl true) (.cons .non (.cons (.str "0") .nil))))))) (.cons (.ifs (.cmp .ne (.told (.call 92 (.cons (.var 2) (.cons (.var 4) (.cons (.var 8) .nil))))) (.tup (.cons (.str "error") (.cons (.str "InvalidPlace") .nil)))) (.cons (.ret (.bl false)) .nil) .nil) .nil)) .nil))))))))) (.cons (.ret (.bl true)) .nil))⟩
def c_need_vector : Def := ⟨2, 3, (.cons (.ifs (.or (.not (.bi (.isi .tuple) (.cons (.var 1) .nil))) (.or (.cmp .ne (.bi .len (.cons (.var 1) .nil)) (.bi .len (.cons (.var 0) .nil))) (.not (.bi .all (.cons (.comp (.name 2) (.val (.var 1)) .none (.call 49 (.cons (.var 2) .nil)) [2]) .nil))))) (.cons (.raise 2) .nil) .nil) .nil)⟩
def c_sum_of : Def := ⟨2, 6, (.cons (.asg 2 (.int 1)) (.cons (.fors (.name 3) (.val (.bin .add (.bi .list (.cons (.var 0) .nil)) (.bi .list (.cons (.var 1) .nil)))) (.cons (.asg 2 (.bin .mul (.var 2) (.sub (.var 3) (.int 1)))) .nil)) (.cons (.asg 4 (.int 0)) (.cons (.fors (.tup2 (.name 5) (.name 3)) (.enum (.var 0)) (.cons (.aug 4 (.bin .mul (.bin .mul (.sub (.var 3) (.int 0)) (.sub (.sub (.var 1) (.var 5)) (.int 0))) (.bin .fdiv (.var 2) (.bin .mul (.sub (.var 3) (.int 1)) (.sub (.sub (.var 1) (.var 5)) (.int 1)))))) .nil)) (.cons (.ret (.call 48 (.cons (.var 4) (.cons (.var 2) .nil)))) .nil)))))⟩
def c_end_of : Def := ⟨3, 7, (.cons (.asgL 3 .nil) (.cons (.fors (.tup2 (.name 4) (.name 5)) (.enum (.var 0)) (.cons (.asg 6 (.cmp .eq (.cmp .gt (.sub (.sub (.var 1) (.var 4)) (.int 0)) (.int 0)) (.var 2))) (.cons (.app 3 (.ite (.var 6) (.tup (.cons (.sub (.var 5) (.int 1)) (.cons (.int 1) .nil))) (.tup (.cons (.sub (.var 5) (.int 0)) (.cons (.int 1) .nil))))) .nil))) (.cons (.frz 3) (.cons (.ret (.var 3)) .nil))))⟩
def c_meets : Def := ⟨3, 5, (.cons (.par [3, 4] (.cons (.call 95 (.cons (.call 96 (.cons (.var 0) (.cons (.var 1) (.cons (.bl false) .nil)))) (.cons (.var 1) .nil))) (.cons (.call 95 (.cons (.call 96 (.cons (.var 0) (.cons (.var 1) (.cons (.bl true) .nil)))) (.cons (.var 1) .nil))) .nil))) (.cons (.ret (.and (.cmp .le (.sub (.var 3) (.int 0)) (.bin .mul (.sub (.var 2) (.int 1)) (.sub (.var 3) (.int 1)))) (.cmp .ge (.sub (.var 4) (.int 0)) (.bin .mul (.sub (.var 2) (.int 0)) (.sub (.var 4) (.int 1)))))) .nil))⟩
def c_need_all : Def := ⟨3, 3, (.cons (.ex (.call 6 (.cons (.var 0) .nil))) (.cons (.ex (.call 84 (.cons (.var 0) (.cons (.var 1) .nil)))) (.cons (.ex (.call 94 (.cons (.var 0) (.cons (.var 2) .nil)))) .nil)))⟩
def c_excluding : Def := ⟨3, 5, (.cons (.fors (.tup2 (.name 3) (.name 4)) (.enum (.var 0)) (.cons (.ifs (.not (.call 97 (.cons (.var 4) (.cons (.var 2) (.cons (.sub (.var 1) (.var 3)) .nil))))) (.cons (.ret (.var 3)) .nil) .nil) .nil)) (.cons (.ret .non) .nil))⟩
def c_first_excluding : Def := ⟨3, 3, (.cons (.ex (.call 98 (.cons (.var 0) (.cons (.var 1) (.cons (.var 2) .nil))))) (.cons (.ret (.call 99 (.cons (.var 0) (.cons (.var 1) (.cons (.var 2) .nil))))) .nil))⟩
def c_between : Def := ⟨3, 5, (.cons (.asg 3 (.call 48 (.cons (.bin .sub (.bin .mul (.sub (.var 1) (.int 0)) (.sub (.var 0) (.int 1))) (.bin .mul (.sub (.var 0) (.int 0)) (.sub (.var 1) (.int 1)))) (.cons (.bin .mul (.sub (.var 0) (.int 1)) (.sub (.var 1) (.int 1))) .nil)))) (.cons (.asg 4 (.call 48 (.cons (.bin .mul (.sub (.var 3) (.int 0)) (.sub (.var 2) (.int 0))) (.cons (.bin .mul (.sub (.var 3) (.int 1)) (.sub (.var 2) (.int 1))) .nil)))) (.cons (.ret (.call 48 (.cons (.bin .add (.bin .mul (.sub (.var 0) (.int 0)) (.sub (.var 4) (.int 1))) (.bin .mul (.sub (.var 4) (.int 0)) (.sub (.var 0) (.int 1)))) (.cons (.bin .mul (.sub (.var 0) (.int 1)) (.sub (.var 4) (.int 1))) .nil)))) .nil)))⟩
def c_row_for : Def := ⟨3, 10, (.cons (.unp (.tup2 (.name 3) (.name 4)) (.tup (.cons (.call 96 (.cons (.var 0) (.cons (.var 1) (.cons (.bl false) .nil)))) (.cons (.call 96 (.cons (.var 0) (.cons (.var 1) (.cons (.bl true) .nil)))) .nil)))) (.cons (.par [5, 6] (.cons (.call 95 (.cons (.var 3) (.cons (.var 1) .nil))) (.cons (.call 95 (.cons (.var 4) (.cons (.var 1) .nil))) .nil))) (.cons (.ifs (.cmp .ge (.sub (.var 5) (.int 0)) (.bin .mul (.sub (.var 2) (.int 0)) (.sub (.var 5) (.int 1)))) (.cons (.ret (.bi .tuple (.cons (.var 3) .nil))) .nil) .nil) (.cons (.asg 7 (.call 48 (.cons (.bin .mul (.bin .sub (.bin .mul (.sub (.var 2) (.int 0)) (.sub (.var 5) (.int 1))) (.sub (.var 5) (.int 0))) (.sub (.var 6) (.int 1))) (.cons (.bin .sub (.bin .mul (.sub (.var 6) (.int 0)) (.sub (.var 5) (.int 1))) (.bin .mul (.sub (.var 5) (.int 0)) (.sub (.var 6) (.int 1)))) .nil)))) (.cons (.ret (.bi .tuple (.cons (.comp (.tup2 (.name 8) (.name 9)) (.enum (.var 3)) .none (.call 101 (.cons (.var 9) (.cons (.sub (.var 4) (.var 8)) (.cons (.var 7) .nil)))) [8, 9]) .nil))) .nil)))))⟩
def c_solved_by : Def := ⟨3, 5, (.cons (.ex (.call 98 (.cons (.var 0) (.cons (.var 1) (.cons (.var 2) .nil))))) (.cons (.ifs (.cmp .notn (.call 99 (.cons (.var 0) (.cons (.var 1) (.cons (.var 2) .nil)))) .non) (.cons (.ret .non) .nil) .nil) (.cons (.ret (.bi .tuple (.cons (.comp (.tup2 (.name 3) (.name 4)) (.enum (.var 0)) .none (.call 102 (.cons (.var 4) (.cons (.var 2) (.cons (.sub (.var 1) (.var 3)) .nil)))) [3, 4]) .nil))) .nil)))⟩
def c_is_solved_by : Def := ⟨4, 6, (.cons (.ex (.call 98 (.cons (.var 0) (.cons (.var 1) (.cons (.var 2) .nil))))) (.cons (.ifs (.not (.call 23 (.cons (.var 0) (.cons (.var 3) .nil)))) (.cons (.ret (.bl false)) .nil) .nil) (.cons (.ret (.bi .all (.cons (.comp (.tup2 (.name 4) (.name 5)) (.enum (.var 3)) .none (.call 22 (.cons (.call 95 (.cons (.var 5) (.cons (.var 2) .nil))) (.cons (.sub (.var 1) (.var 4)) .nil))) [4, 5]) .nil))) .nil)))⟩
def c_law_plus : Def := ⟨2, 2, (.cons (.ret (.call 26 (.cons (.bin .add (.bin .mul (.sub (.var 0) (.int 0)) (.sub (.var 1) (.int 1))) (.bin .mul (.sub (.var 1) (.int 0)) (.sub (.var 0) (.int 1)))) (.cons (.bin .mul (.sub (.var 0) (.int 1)) (.sub (.var 1) (.int 1))) .nil)))) .nil)⟩
def c_law_by : Def := ⟨2, 2, (.cons (.ret (.call 26 (.cons (.bin .mul (.sub (.var 0) (.int 0)) (.sub (.var 1) (.int 0))) (.cons (.bin .mul (.sub (.var 0) (.int 1)) (.sub (.var 1) (.int 1))) .nil)))) .nil)⟩
def c_law_sum : Def := ⟨2, 5, (.cons (.asg 2 (.tup (.cons (.int 0) (.cons (.int 1) .nil)))) (.cons (.fors (.tup2 (.name 3) (.name 4)) (.zip (.var 0) (.var 1)) (.cons (.asg 2 (.call 105 (.cons (.var 2) (.cons (.call 106 (.cons (.var 3) (.cons (.var 4) .nil))) .nil)))) .nil)) (.cons (.ret (.var 2)) .nil)))⟩
def c_law_reach : Def := ⟨2, 11, (.cons (.unp (.tup2 (.name 2) (.name 3)) (.tup (.cons (.tup (.cons (.int 0) (.cons (.int 1) .nil))) (.cons (.tup (.cons (.int 0) (.cons (.int 1) .nil))) .nil)))) (.cons (.fors (.tup2 (.tup2 (.name 4) (.name 5)) (.name 6)) (.zip (.var 0) (.var 1)) (.cons (.par [7, 8] (.cons (.call 106 (.cons (.tup (.cons (.var 4) (.cons (.int 1) .nil))) (.cons (.var 6) .nil))) (.cons (.call 106 (.cons (.tup (.cons (.var 5) (.cons (.int 1) .nil))) (.cons (.var 6) .nil))) .nil))) (.cons (.unp (.tup2 (.name 9) (.name 10)) (.ite (.cmp .ge (.sub (.var 6) (.int 0)) (.int 0)) (.tup (.cons (.var 7) (.cons (.var 8) .nil))) (.tup (.cons (.var 8) (.cons (.var 7) .nil))))) (.cons (.par [2, 3] (.cons (.call 105 (.cons (.var 2) (.cons (.var 9) .nil))) (.cons (.call 105 (.cons (.var 3) (.cons (.var 10) .nil))) .nil))) .nil)))) (.cons (.ret (.tup (.cons (.var 2) (.cons (.var 3) .nil)))) .nil)))⟩
def c_law_109 : Def := ⟨1, 18, (.cons (.fors (.name 1) (.val (.call 13 (.cons (.var 0) (.cons (.int 4) .nil)))) (.cons (.asg 2 (.call 16 (.cons (.var 1) (.cons (.int 3) .nil)))) (.cons (.asg 3 (.bi .len (.cons (.var 2) .nil))) (.cons (.asg 4 (.bi .tuple (.cons (.comp (.name 17) (.rng1 (.var 3)) .none (.call 26 (.cons (.bin .sub (.call 12 (.cons (.var 1) (.cons (.int 13) .nil))) (.int 6)) (.cons (.bin .add (.int 1) (.call 12 (.cons (.var 1) (.cons (.int 5) .nil)))) .nil))) [17]) .nil))) (.cons (.asgL 5 .nil) (.cons (.fors (.name 6) (.val (.call 29 (.cons (.var 1) (.cons (.var 2) .nil)))) (.cons (.asg 12 (.call 107 (.cons (.var 6) (.cons (.var 4) .nil)))) (.cons (.asg 13 (.bi .max2 (.cons (.neg (.int 9)) (.cons (.bi .min2 (.cons (.int 8) (.cons (.bin .add (.bin .fdiv (.sub (.var 12) (.int 0)) (.sub (.var 12) (.int 1))) (.sub (.lst (.cons (.int 0) (.cons (.int 0) (.cons (.int 1) (.cons (.neg (.int 1)) .nil))))) (.call 12 (.cons (.var 1) (.cons (.int 4) .nil))))) .nil))) .nil)))) (.cons (.app 5 (.tup (.cons (.var 13) (.cons (.bin .add (.var 13) (.call 12 (.cons (.var 1) (.cons (.int 2) .nil)))) .nil)))) .nil)))) (.cons (.frz 5) (.cons (.unp (.tup2 (.name 5) (.name 7)) (.tup (.cons (.bi .tuple (.cons (.var 5) .nil)) (.cons .non .nil)))) (.cons (.fors (.name 8) (.rng3 (.bin .sub (.var 3) (.int 1)) (.neg (.int 1)) (.neg (.int 1))) (.cons (.unp (.tup2 (.name 13) (.name 14)) (.call 108 (.cons (.sub (.var 2) (.var 8)) (.cons (.var 4) .nil)))) (.cons (.unp (.tup2 (.name 15) (.name 16)) (.sub (.var 5) (.var 8))) (.cons (.ifs (.or (.cmp .gt (.sub (.var 13) (.int 0)) (.bin .mul (.var 16) (.sub (.var 13) (.int 1)))) (.cmp .lt (.sub (.var 14) (.int 0)) (.bin .mul (.var 15) (.sub (.var 14) (.int 1))))) (.cons (.asg 7 (.var 8)) .nil) .nil) .nil)))) (.cons (.asg 9 (.call 103 (.cons (.var 2) (.cons (.var 5) (.cons (.var 4) .nil))))) (.cons (.ifs (.or (.cmp .ne (.call 100 (.cons (.var 2) (.cons (.var 5) (.cons (.var 4) .nil)))) (.var 7)) (.cmp .ne (.cmp .isn (.var 9) .non) (.cmp .notn (.var 7) .non))) (.cons (.ret (.bl false)) .nil) .nil) (.cons (.ifs (.cmp .notn (.var 9) .non) (.cons (.ifs (.or (.not (.call 30 (.cons (.var 2) (.cons (.var 9) .nil)))) (.not (.call 104 (.cons (.var 2) (.cons (.var 5) (.cons (.var 4) (.cons (.var 9) .nil))))))) (.cons (.ret (.bl false)) .nil) .nil) (.cons (.fors (.tup2 (.name 6) (.tup2 (.name 13) (.name 14))) (.zip (.var 9) (.var 5)) (.cons (.ifs (.not (.call 27 (.cons (.call 107 (.cons (.var 6) (.cons (.var 4) .nil))) (.cons (.tup (.cons (.var 13) (.cons (.int 1) .nil))) (.cons (.tup (.cons (.var 14) (.cons (.int 1) .nil))) .nil))))) (.cons (.ret (.bl false)) .nil) .nil) .nil)) .nil)) .nil) (.cons (.asg 10 (.lst (.cons (.slice (.var 4) (.some (.int 1)) .none) (.cons (.bi .list (.cons (.var 4) .nil)) (.cons (.bin .mul (.tup (.cons (.tup (.cons (.int 1) (.cons (.int 0) .nil))) .nil)) (.var 3)) (.cons (.bin .mul (.tup (.cons (.tup (.cons (.int 2) (.cons (.int 2) .nil))) .nil)) (.var 3)) (.cons (.bin .mul (.tup (.cons (.int 1) .nil)) (.var 3)) .nil))))))) (.cons (.asg 10 (.bin .add (.var 10) (.lst (.cons (.bin .mul (.tup (.cons (.tup (.cons (.bin .pow (.int 10) (.int 7)) (.cons (.int 1) .nil))) .nil)) (.var 3)) (.cons .non .nil))))) (.cons (.fors (.name 11) (.val (.var 10)) (.cons (.ifs (.cmp .ne (.told (.call 103 (.cons (.var 2) (.cons (.var 5) (.cons (.var 11) .nil))))) (.tup (.cons (.str "error") (.cons (.str "InvalidVector") .nil)))) (.cons (.ret (.bl false)) .nil) .nil) .nil)) .nil))))))))))))))) (.cons (.ret (.bl true)) .nil))⟩
def c_law_good_110 : Def := ⟨4, 10, (.cons (.ifs (.not (.call 30 (.cons (.var 0) (.cons (.var 3) .nil)))) (.cons (.ret (.bl false)) .nil) .nil) (.cons (.fors (.tup2 (.name 4) (.tup2 (.name 5) (.name 6))) (.zip (.var 3) (.var 1)) (.cons (.asg 7 (.tup (.cons (.int 0) (.cons (.int 1) .nil)))) (.cons (.fors (.tup2 (.name 8) (.name 9)) (.zip (.var 4) (.var 2)) (.cons (.asg 7 (.call 105 (.cons (.var 7) (.cons (.call 106 (.cons (.var 8) (.cons (.var 9) .nil))) .nil)))) .nil)) (.cons (.ifs (.not (.call 27 (.cons (.var 7) (.cons (.tup (.cons (.var 5) (.cons (.int 1) .nil))) (.cons (.tup (.cons (.var 6) (.cons (.int 1) .nil))) .nil))))) (.cons (.ret (.bl false)) .nil) .nil) .nil)))) (.cons (.ret (.bl true)) .nil)))⟩
def c_law_111 : Def := ⟨1, 18, (.cons (.fors (.name 1) (.val (.call 13 (.cons (.var 0) (.cons (.int 4) .nil)))) (.cons (.asg 2 (.call 16 (.cons (.var 1) (.cons (.int 3) .nil)))) (.cons (.asg 3 (.bi .len (.cons (.var 2) .nil))) (.cons (.asg 4 (.bi .tuple (.cons (.comp (.name 6) (.rng1 (.var 3)) .none (.call 26 (.cons (.bin .sub (.call 12 (.cons (.var 1) (.cons (.int 9) .nil))) (.int 4)) (.cons (.bin .add (.int 1) (.call 12 (.cons (.var 1) (.cons (.int 3) .nil)))) .nil))) [6]) .nil))) (.cons (.asgL 5 .nil) (.cons (.fors (.name 6) (.rng1 (.var 3)) (.cons (.asg 10 (.bin .sub (.call 12 (.cons (.var 1) (.cons (.int 17) .nil))) (.int 9))) (.cons (.app 5 (.tup (.cons (.var 10) (.cons (.bi .min2 (.cons (.int 9) (.cons (.bin .add (.var 10) (.call 12 (.cons (.var 1) (.cons (.int 9) .nil)))) .nil))) .nil)))) .nil))) (.cons (.frz 5) (.cons (.asg 5 (.bi .tuple (.cons (.var 5) .nil))) (.cons (.asg 7 (.call 103 (.cons (.var 2) (.cons (.var 5) (.cons (.var 4) .nil))))) (.cons (.fors (.name 8) (.rng1 (.int 5)) (.cons (.asg 11 (.ite (.and (.cmp .notn (.var 7) .non) (.cmp .lt (.var 8) (.int 3))) (.var 7) (.call 29 (.cons (.var 1) (.cons (.var 2) .nil))))) (.cons (.par [12, 13] (.cons (.call 12 (.cons (.var 1) (.cons (.var 3) .nil))) (.cons (.call 12 (.cons (.var 1) (.cons (.var 3) .nil))) .nil))) (.cons (.unp (.tup2 (.name 10) (.name 14)) (.sub (.sub (.var 2) (.var 12)) (.var 13))) (.cons (.asg 15 (.ite (.cmp .eq (.bin .mod (.var 8) (.int 2)) (.int 1)) (.call 28 (.cons (.var 1) (.cons (.bin .sub (.var 10) (.int 1)) (.cons (.bin .add (.var 14) (.int 1)) .nil)))) (.sub (.sub (.var 11) (.var 12)) (.var 13)))) (.cons (.asg 16 (.bin .add (.bin .add (.slice (.sub (.var 11) (.var 12)) .none (.some (.var 13))) (.tup (.cons (.var 15) .nil))) (.slice (.sub (.var 11) (.var 12)) (.some (.bin .add (.var 13) (.int 1))) .none))) (.cons (.asg 17 (.bin .add (.bin .add (.slice (.var 11) .none (.some (.var 12))) (.tup (.cons (.var 16) .nil))) (.slice (.var 11) (.some (.bin .add (.var 12) (.int 1))) .none))) (.cons (.ifs (.cmp .ne (.call 104 (.cons (.var 2) (.cons (.var 5) (.cons (.var 4) (.cons (.var 17) .nil))))) (.call 110 (.cons (.var 2) (.cons (.var 5) (.cons (.var 4) (.cons (.var 17) .nil)))))) (.cons (.ret (.bl false)) .nil) .nil) .nil)))))))) (.cons (.ifs (.and (.cmp .notn (.call 100 (.cons (.var 2) (.cons (.var 5) (.cons (.var 4) .nil)))) .non) (.call 104 (.cons (.var 2) (.cons (.var 5) (.cons (.var 4) (.cons (.var 11) .nil)))))) (.cons (.ret (.bl false)) .nil) .nil) (.cons (.fors (.name 9) (.val (.lst (.cons .non (.cons (.tup .nil) (.cons (.slice (.var 11) (.some (.int 1)) .none) (.cons (.bi .list (.cons (.var 11) .nil)) (.cons (.bin .mul (.tup (.cons (.bin .mul (.tup (.cons (.int 0) .nil)) (.var 3)) .nil)) (.var 3)) .nil))))))) (.cons (.ifs (.call 104 (.cons (.var 2) (.cons (.var 5) (.cons (.var 4) (.cons (.var 9) .nil))))) (.cons (.ret (.bl false)) .nil) .nil) .nil)) .nil)))))))))))) (.cons (.ret (.bl true)) .nil))⟩
def c_is_mirrored : Def := ⟨1, 4, (.cons (.asg 1 (.bi .len (.cons (.var 0) .nil))) (.cons (.ret (.bi .all (.cons (.comp (.name 2) (.rng1 (.var 1)) .none (.bi .all (.cons (.comp (.name 3) (.rng1 (.var 1)) .none (.cmp .eq (.sub (.sub (.var 0) (.var 2)) (.var 3)) (.sub (.sub (.var 0) (.var 3)) (.var 2))) [3]) .nil)) [2]) .nil))) .nil))⟩
def c_need_mirrored : Def := ⟨1, 1, (.cons (.ex (.call 6 (.cons (.var 0) .nil))) (.cons (.ifs (.not (.call 112 (.cons (.var 0) .nil))) (.cons (.raise 8) .nil) .nil) .nil))⟩
def c_signs_of : Def := ⟨1, 5, (.cons (.asg 1 (.lst (.cons (.tup (.cons (.int 1) .nil)) .nil))) (.cons (.fors (.name 2) (.rng1 (.bin .sub (.var 0) (.int 1))) (.cons (.asg 1 (.comp2 (.name 3) (.val (.var 1)) (.name 4) (.val (.tup (.cons (.int 1) (.cons (.neg (.int 1)) .nil)))) (.bin .add (.var 3) (.tup (.cons (.var 4) .nil))) [3, 4] [4])) .nil)) (.cons (.ret (.var 1)) .nil)))⟩
def c_least_for : Def := ⟨2, 6, (.cons (.asg 2 (.bi .len (.cons (.var 0) .nil))) (.cons (.asgL 3 .nil) (.cons (.fors (.name 4) (.rng1 (.var 2)) (.cons (.app 3 (.bi .tuple (.cons (.comp (.name 5) (.rng1 (.var 2)) .none (.ite (.cmp .eq (.sub (.var 1) (.var 4)) (.sub (.var 1) (.var 5))) (.sub (.sub (.sub (.var 0) (.var 4)) (.var 5)) (.int 0)) (.sub (.sub (.sub (.var 0) (.var 4)) (.var 5)) (.int 1))) [5]) .nil))) .nil)) (.cons (.frz 3) (.cons (.ret (.bi .tuple (.cons (.var 3) .nil))) .nil)))))⟩
def c_part : Def := ⟨2, 3, (.cons (.ret (.comp (.name 2) (.val (.slice (.var 0) .none (.some (.var 1)))) .none (.bi .list (.cons (.slice (.var 2) .none (.some (.var 1))) .nil)) [2])) .nil)⟩
def c_bad_vector : Def := ⟨1, 6, (.cons (.asg 1 (.bi .len (.cons (.var 0) .nil))) (.cons (.fors (.name 2) (.rng2 (.int 1) (.bin .add (.var 1) (.int 1))) (.cons (.asg 3 (.call 116 (.cons (.var 0) (.cons (.var 2) .nil)))) (.cons (.ifs (.cmp .le (.call 36 (.cons (.var 3) .nil)) (.int 0)) (.cons (.asg 4 (.comp (.name 5) (.rng1 (.var 2)) .none (.call 55 (.cons (.var 3) (.cons (.bin .sub (.var 2) (.int 1)) (.cons (.var 5) .nil)))) [5])) (.cons (.ret (.bin .add (.bi .tuple (.cons (.var 4) .nil)) (.bin .mul (.tup (.cons (.int 0) .nil)) (.bin .sub (.var 1) (.var 2))))) .nil)) .nil) .nil))) (.cons (.ret .non) .nil)))⟩
def c_bad_pair : Def := ⟨1, 4, (.cons (.fors (.name 1) (.val (.call 114 (.cons (.bi .len (.cons (.var 0) .nil)) .nil))) (.cons (.asg 2 (.call 115 (.cons (.var 0) (.cons (.var 1) .nil)))) (.cons (.asg 3 (.call 117 (.cons (.var 2) .nil))) (.cons (.ifs (.cmp .notn (.var 3) .non) (.cons (.ret (.tup (.cons (.call 50 (.cons (.var 2) .nil)) (.cons (.var 3) .nil)))) .nil) .nil) .nil)))) (.cons (.ret .non) .nil))⟩
def c_all_positive : Def := ⟨1, 1, (.cons (.ex (.call 113 (.cons (.var 0) .nil))) (.cons (.ret (.cmp .isn (.call 118 (.cons (.var 0) .nil)) .non)) .nil))⟩
def c_not_positive : Def := ⟨1, 1, (.cons (.ex (.call 113 (.cons (.var 0) .nil))) (.cons (.ret (.call 118 (.cons (.var 0) .nil))) .nil))⟩
def c_is_not_positive : Def := ⟨2, 10, (.cons (.ex (.call 113 (.cons (.var 0) .nil))) (.cons (.ifs (.or (.not (.bi (.isi .tuple) (.cons (.var 1) .nil))) (.or (.cmp .ne (.bi .len (.cons (.var 1) .nil)) (.int 2)) (.not (.call 23 (.cons (.var 0) (.cons (.sub (.var 1) (.int 0)) .nil)))))) (.cons (.ret (.bl false)) .nil) .nil) (.cons (.unp (.tup2 (.name 2) (.name 3)) (.var 1)) (.cons (.ifs (.or (.not (.call 112 (.cons (.var 2) .nil))) (.not (.call 63 (.cons (.var 3) (.cons (.bi .len (.cons (.var 0) .nil)) .nil))))) (.cons (.ret (.bl false)) .nil) .nil) (.cons (.asg 4 (.int 1)) (.cons (.fors (.name 5) (.val (.var 2)) (.cons (.fors (.name 8) (.val (.var 5)) (.cons (.asg 4 (.bin .mul (.var 4) (.sub (.var 8) (.int 1)))) .nil)) .nil)) (.cons (.asg 6 (.int 0)) (.cons (.fors (.tup2 (.name 7) (.name 5)) (.enum (.var 2)) (.cons (.fors (.tup2 (.name 9) (.name 8)) (.enum (.var 5)) (.cons (.aug 6 (.bin .mul (.bin .mul (.bin .mul (.sub (.var 8) (.int 0)) (.bin .fdiv (.var 4) (.sub (.var 8) (.int 1)))) (.sub (.var 3) (.var 7))) (.sub (.var 3) (.var 9)))) .nil)) .nil)) (.cons (.ret (.cmp .le (.var 6) (.int 0))) .nil)))))))))⟩
def c_law_mirrored_122 : Def := ⟨2, 9, (.cons (.par [2, 3] (.cons (.bi .len (.cons (.var 1) .nil)) (.cons (.call 12 (.cons (.var 0) (.cons (.int 4) .nil))) .nil))) (.cons (.asgL 4 .nil) (.cons (.fors (.name 5) (.rng1 (.var 2)) (.cons (.asgO 6 (.comp (.name 8) (.rng1 (.var 2)) .none (.sub (.sub (.var 1) (.bi .min2 (.cons (.var 5) (.cons (.var 8) .nil)))) (.bi .max2 (.cons (.var 5) (.cons (.var 8) .nil)))) [8])) (.cons (.asg 7 (.sub (.sub (.sub (.var 1) (.var 5)) (.var 5)) (.int 0))) (.cons (.setI 6 (.var 5) (.ite (.cmp .gt (.var 3) (.int 0)) (.tup (.cons (.bin .add (.int 5) (.bin .mod (.var 7) (.int 4))) (.cons (.int 9) .nil))) (.subo 6 (.var 5)))) (.cons (.frz 6) (.cons (.app 4 (.bi .tuple (.cons (.var 6) .nil))) .nil)))))) (.cons (.frz 4) (.cons (.ret (.bi .tuple (.cons (.var 4) .nil))) .nil)))))⟩
def c_law_weighed : Def := ⟨2, 9, (.cons (.unp (.tup2 (.name 2) (.name 3)) (.call 45 (.cons (.var 0) .nil))) (.cons (.asg 4 (.int 0)) (.cons (.fors (.tup2 (.name 5) (.name 6)) (.enum (.var 2)) (.cons (.asg 4 (.bin .add (.var 4) (.bi .sum (.cons (.comp (.tup2 (.name 7) (.name 8)) (.enum (.var 6)) .none (.bin .mul (.bin .mul (.var 8) (.sub (.var 1) (.var 5))) (.sub (.var 1) (.var 7))) [7, 8]) .nil)))) .nil)) (.cons (.ret (.var 4)) .nil))))⟩
def c_law_above : Def := ⟨1, 3, (.cons (.ret (.bi .all (.cons (.comp (.name 1) (.rng2 (.int 1) (.bin .add (.bi .len (.cons (.var 0) .nil)) (.int 1))) .none (.cmp .gt (.call 44 (.cons (.bi .tuple (.cons (.comp (.name 2) (.val (.slice (.var 0) .none (.some (.var 1)))) .none (.slice (.var 2) .none (.some (.var 1))) [2]) .nil)) .nil)) (.int 0)) [1]) .nil))) .nil)⟩
def c_law_125 : Def := ⟨1, 15, (.cons (.fors (.name 1) (.val (.call 13 (.cons (.var 0) (.cons (.int 4) .nil)))) (.cons (.asg 2 (.call 122 (.cons (.var 1) (.cons (.call 16 (.cons (.var 1) (.cons (.int 3) .nil))) .nil)))) (.cons (.unp (.tup2 (.name 3) (.name 4)) (.tup (.cons (.bi .len (.cons (.var 2) .nil)) (.cons (.bl true) .nil)))) (.cons (.fors (.name 5) (.val (.lst (.cons (.tup (.cons (.int 1) (.cons (.int 1) (.cons (.int 1) .nil)))) (.cons (.tup (.cons (.int 1) (.cons (.int 1) (.cons (.neg (.int 1)) .nil)))) (.cons (.tup (.cons (.int 1) (.cons (.neg (.int 1)) (.cons (.int 1) .nil)))) (.cons (.tup (.cons (.int 1) (.cons (.neg (.int 1)) (.cons (.neg (.int 1)) .nil)))) .nil)))))) (.cons (.asgL 8 .nil) (.cons (.fors (.name 9) (.rng1 (.var 3)) (.cons (.app 8 (.bi .tuple (.cons (.comp (.name 12) (.rng1 (.var 3)) .none (.sub (.sub (.sub (.var 2) (.var 9)) (.var 12)) (.bi .int (.cons (.cmp .ne (.sub (.var 5) (.var 9)) (.sub (.var 5) (.var 12))) .nil))) [12]) .nil))) .nil)) (.cons (.frz 8) (.cons (.asg 4 (.and (.var 4) (.call 124 (.cons (.bi .tuple (.cons (.var 8) .nil)) .nil)))) .nil))))) (.cons (.asg 6 (.call 120 (.cons (.var 2) .nil))) (.cons (.ifs (.or (.cmp .ne (.call 119 (.cons (.var 2) .nil)) (.var 4)) (.cmp .ne (.cmp .isn (.var 6) .non) (.var 4))) (.cons (.ret (.bl false)) .nil) .nil) (.cons (.ifs (.cmp .notn (.var 6) .non) (.cons (.unp (.tup2 (.name 10) (.name 11)) (.var 6)) (.cons (.ifs (.or (.not (.call 30 (.cons (.var 2) (.cons (.var 10) .nil)))) (.not (.bi .any (.cons (.comp (.name 13) (.val (.var 11)) .none (.cmp .ne (.var 13) (.int 0)) [13]) .nil)))) (.cons (.ret (.bl false)) .nil) .nil) (.cons (.ifs (.cmp .ne (.bi .len (.cons (.var 11) .nil)) (.var 3)) (.cons (.ret (.bl false)) .nil) .nil) (.cons (.ifs (.or (.cmp .gt (.call 123 (.cons (.var 10) (.cons (.var 11) .nil))) (.int 0)) (.not (.call 121 (.cons (.var 2) (.cons (.var 6) .nil))))) (.cons (.ret (.bl false)) .nil) .nil) (.cons (.ifs (.not (.bi .all (.cons (.comp (.name 9) (.rng1 (.var 3)) .none (.bi .all (.cons (.comp (.name 12) (.rng1 (.var 3)) .none (.cmp .eq (.sub (.sub (.var 10) (.var 9)) (.var 12)) (.sub (.sub (.var 10) (.var 12)) (.var 9))) [12]) .nil)) [9]) .nil))) (.cons (.ret (.bl false)) .nil) .nil) .nil))))) (.cons (.ifs (.cmp .le (.call 123 (.cons (.call 31 (.cons (.comp (.name 14) (.val (.var 2)) .none (.comp (.name 12) (.rng1 (.var 3)) .none (.sub (.sub (.var 14) (.var 12)) (.int 0)) [12]) [14]) .nil)) (.cons (.slice (.tup (.cons (.int 1) (.cons (.neg (.int 2)) (.cons (.int 3) .nil)))) .none (.some (.var 3))) .nil))) (.int 0)) (.cons (.ret (.bl false)) .nil) .nil) .nil)) (.cons (.asg 7 (.tup (.cons (.tup (.cons (.tup (.cons (.int 1) (.cons (.int 2) .nil))) (.cons (.tup (.cons (.int 0) (.cons (.int 1) .nil))) .nil))) (.cons (.tup (.cons (.tup (.cons (.int 0) (.cons (.int 2) .nil))) (.cons (.tup (.cons (.int 1) (.cons (.int 2) .nil))) .nil))) .nil)))) (.cons (.ifs (.cmp .ne (.told (.call 119 (.cons (.var 7) .nil))) (.tup (.cons (.str "error") (.cons (.str "NotSymmetric") .nil)))) (.cons (.ret (.bl false)) .nil) .nil) .nil))))))))) (.cons (.ret (.bl true)) .nil))⟩
def c_law_mirrored_126 : Def := ⟨1, 4, (.cons (.asg 1 (.bi .len (.cons (.var 0) .nil))) (.cons (.ret (.bi .tuple (.cons (.comp (.name 2) (.rng1 (.var 1)) .none (.bi .tuple (.cons (.comp (.name 3) (.rng1 (.var 1)) .none (.sub (.sub (.var 0) (.bi .min2 (.cons (.var 2) (.cons (.var 3) .nil)))) (.bi .max2 (.cons (.var 2) (.cons (.var 3) .nil)))) [3]) .nil)) [2]) .nil))) .nil))⟩
def c_law_good_127 : Def := ⟨3, 9, (.cons (.asg 3 (.bi .len (.cons (.var 0) .nil))) (.cons (.ifs (.or (.not (.call 30 (.cons (.var 0) (.cons (.var 1) .nil)))) (.or (.cmp .ne (.bi .len (.cons (.var 2) .nil)) (.var 3)) (.not (.bi .any (.cons (.comp (.name 8) (.val (.var 2)) .none (.cmp .ne (.var 8) (.int 0)) [8]) .nil))))) (.cons (.ret (.bl false)) .nil) .nil) (.cons (.par [4, 5] (.cons (.int 0) (.cons (.sub (.call 45 (.cons (.var 1) .nil)) (.int 0)) .nil))) (.cons (.fors (.name 6) (.rng1 (.var 3)) (.cons (.fors (.name 7) (.rng1 (.var 3)) (.cons (.asg 4 (.bin .add (.var 4) (.bin .mul (.bin .mul (.sub (.sub (.var 5) (.var 6)) (.var 7)) (.sub (.var 2) (.var 6))) (.sub (.var 2) (.var 7))))) (.cons (.ifs (.cmp .ne (.sub (.sub (.var 1) (.var 6)) (.var 7)) (.sub (.sub (.var 1) (.var 7)) (.var 6))) (.cons (.ret (.bl false)) .nil) .nil) .nil))) .nil)) (.cons (.ret (.cmp .le (.var 4) (.int 0))) .nil)))))⟩
def c_law_128 : Def := ⟨1, 15, (.cons (.fors (.name 1) (.val (.call 13 (.cons (.var 0) (.cons (.int 4) .nil)))) (.cons (.asg 2 (.call 126 (.cons (.call 16 (.cons (.var 1) (.cons (.int 3) .nil))) .nil))) (.cons (.unp (.tup2 (.name 3) (.name 4)) (.tup (.cons (.bi .len (.cons (.var 2) .nil)) (.cons (.call 120 (.cons (.var 2) .nil)) .nil)))) (.cons (.fors (.name 5) (.rng1 (.int 6)) (.cons (.asg 8 (.call 29 (.cons (.var 1) (.cons (.var 2) .nil)))) (.cons (.asg 9 (.bi .tuple (.cons (.comp (.name 11) (.rng1 (.var 3)) .none (.bi .tuple (.cons (.comp (.name 14) (.rng1 (.var 3)) .none (.sub (.sub (.var 8) (.bi .min2 (.cons (.var 11) (.cons (.var 14) .nil)))) (.bi .max2 (.cons (.var 11) (.cons (.var 14) .nil)))) [14]) .nil)) [11]) .nil))) (.cons (.asg 10 (.bi .tuple (.cons (.comp (.name 12) (.rng1 (.var 3)) .none (.bin .sub (.call 12 (.cons (.var 1) (.cons (.int 7) .nil))) (.int 3)) [12]) .nil))) (.cons (.ifs (.and (.cmp .notn (.var 4) .non) (.cmp .lt (.var 5) (.int 2))) (.cons (.unp (.tup2 (.name 9) (.name 10)) (.var 4)) .nil) .nil) (.cons (.ifs (.cmp .eq (.var 5) (.int 1)) (.cons (.asg 10 (.bi .tuple (.cons (.comp (.name 13) (.val (.var 10)) .none (.bin .mul (.int 2) (.var 13)) [13]) .nil))) .nil) .nil) (.cons (.ifs (.cmp .eq (.var 5) (.int 5)) (.cons (.asg 9 (.var 8)) .nil) .nil) (.cons (.ifs (.cmp .ne (.call 121 (.cons (.var 2) (.cons (.tup (.cons (.var 9) (.cons (.var 10) .nil))) .nil))) (.call 127 (.cons (.var 2) (.cons (.var 9) (.cons (.var 10) .nil))))) (.cons (.ret (.bl false)) .nil) .nil) .nil)))))))) (.cons (.asg 6 (.lst (.cons .non (.cons (.tup .nil) (.cons (.tup (.cons (.var 9) .nil)) (.cons (.tup (.cons (.var 9) (.cons .non .nil))) (.cons (.tup (.cons (.var 9) (.cons (.bin .mul (.tup (.cons (.int 0) .nil)) (.var 3)) .nil))) (.cons (.tup (.cons .non (.cons (.var 10) .nil))) .nil)))))))) (.cons (.asg 6 (.bin .add (.var 6) (.lst (.cons (.lst (.cons (.var 9) (.cons (.var 10) .nil))) .nil)))) (.cons (.fors (.name 7) (.val (.var 6)) (.cons (.ifs (.call 121 (.cons (.var 2) (.cons (.var 7) .nil))) (.cons (.ret (.bl false)) .nil) .nil) .nil)) (.cons (.ifs (.call 121 (.cons (.var 2) (.cons (.tup (.cons (.var 9) (.cons (.bin .mul (.tup (.cons (.bl true) .nil)) (.var 3)) .nil))) .nil))) (.cons (.ret (.bl false)) .nil) .nil) (.cons (.ifs (.call 121 (.cons (.var 2) (.cons (.tup (.cons (.var 9) (.cons (.bi .list (.cons (.var 10) .nil)) .nil))) .nil))) (.cons (.ret (.bl false)) .nil) .nil) .nil))))))))) (.cons (.ret (.bl true)) .nil))⟩
def c_checked : Def := ⟨1, 1, (.cons (.ifs (.not (.call 5 (.cons (.var 0) .nil))) (.cons (.raise 10) .nil) .nil) (.cons (.ret (.var 0)) .nil))⟩
def c_plus : Def := ⟨2, 8, (.cons (.ex (.call 6 (.cons (.var 0) .nil))) (.cons (.ex (.call 6 (.cons (.var 1) .nil))) (.cons (.ex (.call 7 (.cons (.var 0) (.cons (.var 1) .nil)))) (.cons (.asgL 2 .nil) (.cons (.fors (.tup2 (.name 3) (.name 4)) (.zip (.var 0) (.var 1)) (.cons (.app 2 (.bi .tuple (.cons (.comp (.tup2 (.name 5) (.tup2 (.name 6) (.name 7))) (.enum (.var 3)) .none (.tup (.cons (.bin .add (.var 6) (.sub (.sub (.var 4) (.var 5)) (.int 0))) (.cons (.bin .add (.var 7) (.sub (.sub (.var 4) (.var 5)) (.int 1))) .nil))) [5, 6, 7]) .nil))) .nil)) (.cons (.frz 2) (.cons (.ret (.call 129 (.cons (.bi .tuple (.cons (.var 2) .nil)) .nil))) .nil)))))))⟩
def c_ordered : Def := ⟨2, 2, (.cons (.ret (.tup (.cons (.bi .min2 (.cons (.var 0) (.cons (.var 1) .nil))) (.cons (.bi .max2 (.cons (.var 0) (.cons (.var 1) .nil))) .nil)))) .nil)⟩
def c_times : Def := ⟨2, 5, (.cons (.ex (.call 6 (.cons (.var 0) .nil))) (.cons (.ifs (.not (.call 2 (.cons (.var 1) (.cons (.neg (.int 9)) (.cons (.int 9) .nil))))) (.cons (.raise 4) .nil) .nil) (.cons (.ret (.call 129 (.cons (.bi .tuple (.cons (.comp (.name 2) (.val (.var 0)) .none (.bi .tuple (.cons (.comp (.tup2 (.name 3) (.name 4)) (.val (.var 2)) .none (.call 131 (.cons (.bin .mul (.var 3) (.var 1)) (.cons (.bin .mul (.var 4) (.var 1)) .nil))) [3, 4]) .nil)) [2]) .nil)) .nil))) .nil)))⟩
def c_law_fits : Def := ⟨1, 4, (.cons (.ret (.bi .all (.cons (.comp (.name 1) (.val (.var 0)) .none (.bi .all (.cons (.comp (.tup2 (.name 2) (.name 3)) (.val (.var 1)) .none (.and (.cmp .le (.neg (.int 9)) (.var 2)) (.cmp .le (.var 3) (.int 9))) [2, 3]) .nil)) [1]) .nil))) .nil)⟩
def c_law_134 : Def := ⟨1, 25, (.cons (.fors (.name 1) (.val (.call 13 (.cons (.var 0) (.cons (.int 4) .nil)))) (.cons (.unp (.tup3 (.name 2) (.name 3) (.name 4)) (.tup (.cons (.call 16 (.cons (.var 1) (.cons (.int 3) .nil))) (.cons (.call 16 (.cons (.var 1) (.cons (.int 3) .nil))) (.cons (.bin .sub (.call 12 (.cons (.var 1) (.cons (.int 7) .nil))) (.int 3)) .nil))))) (.cons (.asg 5 (.bi .len (.cons (.var 2) .nil))) (.cons (.ifs (.cmp .eq (.bi .len (.cons (.var 3) .nil)) (.var 5)) (.cons (.asgL 6 .nil) (.cons (.fors (.tup2 (.name 7) (.name 12)) (.zip (.var 2) (.var 3)) (.cons (.app 6 (.bi .tuple (.cons (.comp (.tup2 (.name 14) (.name 15)) (.zip (.var 7) (.var 12)) .none (.tup (.cons (.bin .add (.sub (.var 14) (.int 0)) (.sub (.var 15) (.int 0))) (.cons (.bin .add (.sub (.var 14) (.int 1)) (.sub (.var 15) (.int 1))) .nil))) [14, 15]) .nil))) .nil)) (.cons (.asg 8 (.told (.call 130 (.cons (.var 2) (.cons (.var 3) .nil))))) (.cons (.frz 6) (.cons (.ifs (.cmp .ne (.var 8) (.ite (.call 133 (.cons (.var 6) .nil)) (.bi .tuple (.cons (.var 6) .nil)) (.tup (.cons (.str "error") (.cons (.str "TooLarge") .nil))))) (.cons (.ret (.bl false)) .nil) .nil) (.cons (.ifs (.call 133 (.cons (.var 6) .nil)) (.cons (.par [14, 15] (.cons (.call 29 (.cons (.var 1) (.cons (.var 2) .nil))) (.cons (.call 29 (.cons (.var 1) (.cons (.var 3) .nil))) .nil))) (.cons (.asg 16 (.comp (.tup2 (.name 19) (.name 20)) (.zip (.var 14) (.var 15)) .none (.bi .tuple (.cons (.comp (.tup2 (.name 22) (.name 23)) (.zip (.var 19) (.var 20)) .none (.call 105 (.cons (.var 22) (.cons (.var 23) .nil))) [22, 23]) .nil)) [19, 20])) (.cons (.ifs (.not (.call 24 (.cons (.var 8) (.cons (.bi .tuple (.cons (.var 16) .nil)) .nil)))) (.cons (.ret (.bl false)) .nil) .nil) .nil))) .nil) .nil)))))) (.cons (.ifs (.cmp .ne (.told (.call 130 (.cons (.var 2) (.cons (.var 3) .nil)))) (.tup (.cons (.str "error") (.cons (.str "Unlike") .nil)))) (.cons (.ret (.bl false)) .nil) .nil) .nil)) (.cons (.asgL 6 .nil) (.cons (.fors (.name 7) (.val (.var 2)) (.cons (.asg 13 (.comp (.tup2 (.name 17) (.name 18)) (.val (.var 7)) .none (.bi .sorted (.cons (.lst (.cons (.bin .mul (.var 17) (.var 4)) (.cons (.bin .mul (.var 18) (.var 4)) .nil))) .nil)) [17, 18])) (.cons (.app 6 (.bi .tuple (.cons (.comp (.tup2 (.name 14) (.name 15)) (.val (.var 13)) .none (.tup (.cons (.var 14) (.cons (.var 15) .nil))) [14, 15]) .nil))) .nil))) (.cons (.asg 8 (.told (.call 132 (.cons (.var 2) (.cons (.var 4) .nil))))) (.cons (.frz 6) (.cons (.ifs (.cmp .ne (.var 8) (.ite (.call 133 (.cons (.var 6) .nil)) (.bi .tuple (.cons (.var 6) .nil)) (.tup (.cons (.str "error") (.cons (.str "TooLarge") .nil))))) (.cons (.ret (.bl false)) .nil) .nil) (.cons (.asg 9 (.call 29 (.cons (.var 1) (.cons (.var 2) .nil)))) (.cons (.asg 10 (.comp (.name 7) (.val (.var 9)) .none (.bi .tuple (.cons (.comp (.name 14) (.val (.var 7)) .none (.call 106 (.cons (.var 14) (.cons (.tup (.cons (.var 4) (.cons (.int 1) .nil))) .nil))) [14]) .nil)) [7])) (.cons (.ifs (.and (.call 133 (.cons (.var 6) .nil)) (.not (.call 24 (.cons (.var 8) (.cons (.bi .tuple (.cons (.var 10) .nil)) .nil))))) (.cons (.ret (.bl false)) .nil) .nil) (.cons (.ifs (.cmp .ne (.call 43 (.cons (.var 2) .nil)) (.bi .tuple (.cons (.comp (.name 21) (.rng1 (.var 5)) .none (.bi .tuple (.cons (.comp (.name 24) (.rng1 (.var 5)) .none (.sub (.sub (.var 2) (.var 24)) (.var 21)) [24]) .nil)) [21]) .nil))) (.cons (.ret (.bl false)) .nil) .nil) (.cons (.fors (.name 11) (.val (.lst (.cons (.int 10) (.cons (.neg (.int 10)) (.cons (.bl true) (.cons .non (.cons (.str "1") .nil))))))) (.cons (.ifs (.cmp .ne (.told (.call 132 (.cons (.var 2) (.cons (.var 11) .nil)))) (.tup (.cons (.str "error") (.cons (.str "InvalidNumber") .nil)))) (.cons (.ret (.bl false)) .nil) .nil) .nil)) .nil)))))))))))))) (.cons (.ret (.bl true)) .nil))⟩
def c_vector_ranges : Def := ⟨2, 9, (.cons (.ex (.call 6 (.cons (.var 0) .nil))) (.cons (.ifs (.or (.not (.bi (.isi .tuple) (.cons (.var 1) .nil))) (.cmp .ne (.bi .len (.cons (.var 1) .nil)) (.bi .len (.cons (.var 0) .nil)))) (.cons (.raise 4) .nil) .nil) (.cons (.ifs (.not (.bi .all (.cons (.comp (.name 8) (.val (.var 1)) .none (.call 2 (.cons (.var 8) (.cons (.neg (.int 99)) (.cons (.int 99) .nil)))) [8]) .nil))) (.cons (.raise 4) .nil) .nil) (.cons (.asgL 2 .nil) (.cons (.fors (.name 3) (.val (.var 0)) (.cons (.asg 4 (.comp (.tup2 (.name 5) (.tup2 (.name 6) (.name 7))) (.enum (.var 3)) .none (.call 131 (.cons (.bin .mul (.var 6) (.sub (.var 1) (.var 5))) (.cons (.bin .mul (.var 7) (.sub (.var 1) (.var 5))) .nil))) [5, 6, 7])) (.cons (.app 2 (.tup (.cons (.bi .sum (.cons (.comp (.name 8) (.val (.var 4)) .none (.sub (.var 8) (.int 0)) [8]) .nil)) (.cons (.bi .sum (.cons (.comp (.name 8) (.val (.var 4)) .none (.sub (.var 8) (.int 1)) [8]) .nil)) .nil)))) .nil))) (.cons (.frz 2) (.cons (.ret (.bi .tuple (.cons (.var 2) .nil))) .nil)))))))⟩
def c_product_range : Def := ⟨2, 5, (.cons (.asg 2 (.comp2 (.name 3) (.val (.var 0)) (.name 4) (.val (.var 1)) (.bin .mul (.var 3) (.var 4)) [3, 4] [4])) (.cons (.ret (.tup (.cons (.bi .min1 (.cons (.var 2) .nil)) (.cons (.bi .max1 (.cons (.var 2) .nil)) .nil)))) .nil))⟩
def c_product_ranges : Def := ⟨2, 10, (.cons (.ex (.call 6 (.cons (.var 0) .nil))) (.cons (.ex (.call 6 (.cons (.var 1) .nil))) (.cons (.ex (.call 7 (.cons (.var 0) (.cons (.var 1) .nil)))) (.cons (.asg 2 (.bi .len (.cons (.var 0) .nil))) (.cons (.asgL 3 .nil) (.cons (.fors (.name 4) (.rng1 (.var 2)) (.cons (.asgL 5 .nil) (.cons (.fors (.name 6) (.rng1 (.var 2)) (.cons (.asg 7 (.comp (.name 8) (.rng1 (.var 2)) .none (.call 136 (.cons (.sub (.sub (.var 0) (.var 4)) (.var 8)) (.cons (.sub (.sub (.var 1) (.var 8)) (.var 6)) .nil))) [8])) (.cons (.app 5 (.tup (.cons (.bi .sum (.cons (.comp (.name 9) (.val (.var 7)) .none (.sub (.var 9) (.int 0)) [9]) .nil)) (.cons (.bi .sum (.cons (.comp (.name 9) (.val (.var 7)) .none (.sub (.var 9) (.int 1)) [9]) .nil)) .nil)))) .nil))) (.cons (.frz 5) (.cons (.app 3 (.bi .tuple (.cons (.var 5) .nil))) .nil))))) (.cons (.frz 3) (.cons (.ret (.bi .tuple (.cons (.var 3) .nil))) .nil))))))))⟩
def c_law_138 : Def := ⟨1, 28, (.cons (.fors (.name 1) (.val (.call 13 (.cons (.var 0) (.cons (.int 4) .nil)))) (.cons (.unp (.tup2 (.name 2) (.name 3)) (.tup (.cons (.call 16 (.cons (.var 1) (.cons (.int 3) .nil))) (.cons (.call 16 (.cons (.var 1) (.cons (.int 3) .nil))) .nil)))) (.cons (.asg 4 (.bi .len (.cons (.var 2) .nil))) (.cons (.asg 5 (.bi .tuple (.cons (.comp (.name 22) (.rng1 (.var 4)) .none (.bin .sub (.call 12 (.cons (.var 1) (.cons (.int 41) .nil))) (.int 20)) [22]) .nil))) (.cons (.parB 6 7 (.call 29 (.cons (.var 1) (.cons (.var 2) .nil)))) (.cons (.fors (.tup2 (.name 8) (.name 9)) (.zip (.var 2) (.var 7)) (.cons (.asg 14 (.comp (.tup2 (.tup2 (.name 19) (.name 20)) (.name 16)) (.zip (.var 8) (.var 5)) .none (.bi .sorted (.cons (.lst (.cons (.bin .mul (.var 19) (.var 16)) (.cons (.bin .mul (.var 20) (.var 16)) .nil))) .nil)) [19, 20, 16])) (.cons (.app 6 (.tup (.cons (.bi .sum (.cons (.comp (.name 16) (.val (.var 14)) .none (.sub (.var 16) (.int 0)) [16]) .nil)) (.cons (.bi .sum (.cons (.comp (.name 16) (.val (.var 14)) .none (.sub (.var 16) (.int 1)) [16]) .nil)) .nil)))) (.cons (.asg 15 (.tup (.cons (.int 0) (.cons (.int 1) .nil)))) (.cons (.fors (.tup2 (.name 16) (.name 17)) (.zip (.var 9) (.var 5)) (.cons (.asg 15 (.call 105 (.cons (.var 15) (.cons (.call 106 (.cons (.var 16) (.cons (.tup (.cons (.var 17) (.cons (.int 1) .nil))) .nil))) .nil)))) .nil)) (.cons (.ifs (.not (.call 27 (.cons (.var 15) (.cons (.tup (.cons (.sub (.subo 6 (.neg (.int 1))) (.int 0)) (.cons (.int 1) .nil))) (.cons (.tup (.cons (.sub (.subo 6 (.neg (.int 1))) (.int 1)) (.cons (.int 1) .nil))) .nil))))) (.cons (.ret (.bl false)) .nil) .nil) .nil)))))) (.cons (.frz 6) (.cons (.ifs (.cmp .ne (.call 135 (.cons (.var 2) (.cons (.var 5) .nil))) (.bi .tuple (.cons (.var 6) .nil))) (.cons (.ret (.bl false)) .nil) .nil) (.cons (.ifs (.cmp .ne (.bi .len (.cons (.var 3) .nil)) (.var 4)) (.cons (.ifs (.cmp .ne (.told (.call 137 (.cons (.var 2) (.cons (.var 3) .nil)))) (.tup (.cons (.str "error") (.cons (.str "Unlike") .nil)))) (.cons (.ret (.bl false)) .nil) .nil) (.cons (.asg 3 (.call 43 (.cons (.var 2) .nil))) .nil)) .nil) (.cons (.par [10, 11] (.cons (.call 137 (.cons (.var 2) (.cons (.var 3) .nil))) (.cons (.call 29 (.cons (.var 1) (.cons (.var 3) .nil))) .nil))) (.cons (.fors (.name 12) (.rng1 (.var 4)) (.cons (.fors (.name 18) (.rng1 (.var 4)) (.cons (.unp (.tup3 (.name 19) (.name 20) (.name 15)) (.tup (.cons (.int 0) (.cons (.int 0) (.cons (.tup (.cons (.int 0) (.cons (.int 1) .nil))) .nil))))) (.cons (.fors (.name 21) (.rng1 (.var 4)) (.cons (.unp (.tup2 (.tup2 (.name 23) (.name 24)) (.tup2 (.name 25) (.name 26))) (.tup (.cons (.sub (.sub (.var 2) (.var 12)) (.var 21)) (.cons (.sub (.sub (.var 3) (.var 21)) (.var 18)) .nil)))) (.cons (.asg 27 (.lst (.cons (.bin .mul (.var 23) (.var 25)) (.cons (.bin .mul (.var 23) (.var 26)) (.cons (.bin .mul (.var 24) (.var 25)) (.cons (.bin .mul (.var 24) (.var 26)) .nil)))))) (.cons (.par [19, 20] (.cons (.bin .add (.var 19) (.bi .min1 (.cons (.var 27) .nil))) (.cons (.bin .add (.var 20) (.bi .max1 (.cons (.var 27) .nil))) .nil))) (.cons (.asg 15 (.call 105 (.cons (.var 15) (.cons (.call 106 (.cons (.sub (.sub (.var 7) (.var 12)) (.var 21)) (.cons (.sub (.sub (.var 11) (.var 21)) (.var 18)) .nil))) .nil)))) .nil))))) (.cons (.ifs (.or (.cmp .ne (.sub (.sub (.var 10) (.var 12)) (.var 18)) (.tup (.cons (.var 19) (.cons (.var 20) .nil)))) (.not (.call 27 (.cons (.var 15) (.cons (.tup (.cons (.var 19) (.cons (.int 1) .nil))) (.cons (.tup (.cons (.var 20) (.cons (.int 1) .nil))) .nil)))))) (.cons (.ret (.bl false)) .nil) .nil) .nil)))) .nil)) (.cons (.fors (.name 13) (.val (.lst (.cons (.slice (.var 5) (.some (.int 1)) .none) (.cons (.bi .list (.cons (.var 5) .nil)) (.cons (.bin .mul (.tup (.cons (.int 100) .nil)) (.var 4)) (.cons (.bin .mul (.tup (.cons (.bl true) .nil)) (.var 4)) (.cons .non .nil))))))) (.cons (.ifs (.cmp .ne (.told (.call 135 (.cons (.var 2) (.cons (.var 13) .nil)))) (.tup (.cons (.str "error") (.cons (.str "InvalidNumber") .nil)))) (.cons (.ret (.bl false)) .nil) .nil) .nil)) .nil)))))))))))) (.cons (.ret (.bl true)) .nil))⟩
def c_law_put : Def := ⟨4, 5, (.cons (.asg 4 (.bin .add (.bin .add (.slice (.sub (.var 0) (.var 1)) .none (.some (.var 2))) (.tup (.cons (.var 3) .nil))) (.slice (.sub (.var 0) (.var 1)) (.some (.bin .add (.var 2) (.int 1))) .none))) (.cons (.ret (.bin .add (.bin .add (.slice (.var 0) .none (.some (.var 1))) (.tup (.cons (.var 4) .nil))) (.slice (.var 0) (.some (.bin .add (.var 1) (.int 1))) .none))) .nil))⟩
def c_law_143 : Def := ⟨1, 19, (.cons (.fors (.name 1) (.val (.call 13 (.cons (.var 0) (.cons (.int 4) .nil)))) (.cons (.asg 2 (.call 16 (.cons (.var 1) (.cons (.bin .add (.int 2) (.bi .int (.cons (.cmp .eq (.call 12 (.cons (.var 1) (.cons (.int 3) .nil))) (.int 0)) .nil))) .nil)))) (.cons (.asg 3 (.bi .len (.cons (.var 2) .nil))) (.cons (.par [4, 5] (.cons (.call 12 (.cons (.var 1) (.cons (.var 3) .nil))) (.cons (.call 12 (.cons (.var 1) (.cons (.var 3) .nil))) .nil))) (.cons (.unp (.tup2 (.name 6) (.name 7)) (.sub (.sub (.var 2) (.var 4)) (.var 5))) (.cons (.asg 8 (.bin .add (.var 6) (.call 12 (.cons (.var 1) (.cons (.bin .add (.bin .sub (.var 7) (.var 6)) (.int 1)) .nil))))) (.cons (.par [9, 10] (.cons (.call 139 (.cons (.var 2) (.cons (.var 4) (.cons (.var 5) (.cons (.tup (.cons (.var 6) (.cons (.var 8) .nil))) .nil))))) (.cons (.call 139 (.cons (.var 2) (.cons (.var 4) (.cons (.var 5) (.cons (.tup (.cons (.var 8) (.cons (.var 7) .nil))) .nil))))) .nil))) (.cons (.par [11, 12] (.cons (.call 39 (.cons (.var 9) .nil)) (.cons (.call 39 (.cons (.var 10) .nil)) .nil))) (.cons (.asg 13 (.call 39 (.cons (.var 2) .nil))) (.cons (.ifs (.cmp .ne (.var 13) (.tup (.cons (.bi .min2 (.cons (.sub (.var 11) (.int 0)) (.cons (.sub (.var 12) (.int 0)) .nil))) (.cons (.bi .max2 (.cons (.sub (.var 11) (.int 1)) (.cons (.sub (.var 12) (.int 1)) .nil))) .nil)))) (.cons (.ret (.bl false)) .nil) .nil) (.cons (.ifs (.cmp .ne (.call 57 (.cons (.var 2) .nil)) (.and (.call 57 (.cons (.var 9) .nil)) (.call 57 (.cons (.var 10) .nil)))) (.cons (.ret (.bl false)) .nil) .nil) (.cons (.ifs (.or (.not (.call 9 (.cons (.var 9) (.cons (.var 2) .nil)))) (.not (.call 9 (.cons (.var 10) (.cons (.var 2) .nil))))) (.cons (.ret (.bl false)) .nil) .nil) (.cons (.ifs (.call 57 (.cons (.var 2) .nil)) (.cons (.par [14, 15] (.cons (.call 12 (.cons (.var 1) (.cons (.var 3) .nil))) (.cons (.call 12 (.cons (.var 1) (.cons (.var 3) .nil))) .nil))) (.cons (.asg 16 (.bin .add (.bi .list (.cons (.call 75 (.cons (.var 9) (.cons (.var 14) (.cons (.var 15) .nil)))) .nil)) (.bi .list (.cons (.call 75 (.cons (.var 10) (.cons (.var 14) (.cons (.var 15) .nil)))) .nil)))) (.cons (.ifs (.cmp .ne (.call 75 (.cons (.var 2) (.cons (.var 14) (.cons (.var 15) .nil)))) (.call 78 (.cons (.var 16) .nil))) (.cons (.ret (.bl false)) .nil) .nil) (.cons (.asg 17 (.bi .tuple (.cons (.comp (.name 18) (.rng1 (.var 3)) .none (.tup (.cons (.bin .sub (.var 18) (.int 1)) (.cons (.bin .add (.var 18) (.int 1)) .nil))) [18]) .nil))) (.cons (.asg 16 (.bin .add (.bi .list (.cons (.call 89 (.cons (.var 9) (.cons (.var 17) (.cons (.var 14) .nil)))) .nil)) (.bi .list (.cons (.call 89 (.cons (.var 10) (.cons (.var 17) (.cons (.var 14) .nil)))) .nil)))) (.cons (.ifs (.cmp .ne (.call 89 (.cons (.var 2) (.cons (.var 17) (.cons (.var 14) .nil)))) (.call 78 (.cons (.var 16) .nil))) (.cons (.ret (.bl false)) .nil) .nil) (.cons (.ifs (.or (.cmp .lt (.call 81 (.cons (.var 9) .nil)) (.call 81 (.cons (.var 2) .nil))) (.cmp .lt (.call 81 (.cons (.var 10) .nil)) (.call 81 (.cons (.var 2) .nil)))) (.cons (.ret (.bl false)) .nil) .nil) .nil))))))) .nil) .nil))))))))))))) (.cons (.ret (.bl true)) .nil))⟩
def c_range_text : Def := ⟨1, 1, (.cons (.ret (.ite (.cmp .eq (.sub (.var 0) (.int 0)) (.sub (.var 0) (.int 1))) (.bi .str (.cons (.sub (.var 0) (.int 0)) .nil)) (.bin .add (.bin .add (.bi .str (.cons (.sub (.var 0) (.int 0)) .nil)) (.str "..")) (.bi .str (.cons (.sub (.var 0) (.int 1)) .nil))))) .nil)⟩
def c_law_rest : Def := ⟨5, 10, (.cons (.par [5, 6] (.cons (.bi .len (.cons (.var 1) .nil)) (.cons (.call 44 (.cons (.var 1) .nil)) .nil))) (.cons (.asg 4 (.bi .tuple (.cons (.var 4) .nil))) (.cons (.ifs (.cmp .notn (.call 100 (.cons (.var 2) (.cons (.var 3) (.cons (.var 4) .nil)))) .non) (.cons (.ret (.bl false)) .nil) .nil) (.cons (.ifs (.cmp .ne (.call 103 (.cons (.var 2) (.cons (.var 3) (.cons (.var 4) .nil)))) (.call 31 (.cons (.var 1) .nil))) (.cons (.ret (.bl false)) .nil) .nil) (.cons (.par [7, 8] (.cons (.call 12 (.cons (.var 0) (.cons (.var 5) .nil))) (.cons (.call 12 (.cons (.var 0) (.cons (.var 5) .nil))) .nil))) (.cons (.asg 9 (.call 26 (.cons (.call 44 (.cons (.call 77 (.cons (.var 1) (.cons (.var 7) (.cons (.call 66 (.cons (.var 5) (.cons (.var 8) .nil))) .nil)))) .nil)) (.cons (.var 6) .nil)))) (.cons (.ifs (.cmp .ne (.call 75 (.cons (.var 2) (.cons (.var 7) (.cons (.var 8) .nil)))) (.tup (.cons (.var 9) (.cons (.var 9) .nil)))) (.cons (.ret (.bl false)) .nil) .nil) (.cons (.ret (.bl true)) .nil))))))))⟩
def c_law_151 : Def := ⟨1, 19, (.cons (.fors (.name 1) (.val (.call 13 (.cons (.var 0) (.cons (.int 4) .nil)))) (.cons (.asg 2 (.bin .add (.int 1) (.call 12 (.cons (.var 1) (.cons (.int 3) .nil))))) (.cons (.asg 3 (.bi .tuple (.cons (.comp (.name 9) (.rng1 (.var 2)) .none (.bi .tuple (.cons (.comp (.name 18) (.rng1 (.var 2)) .none (.bin .sub (.call 12 (.cons (.var 1) (.cons (.int 19) .nil))) (.int 9)) [18]) .nil)) [9]) .nil))) (.cons (.asg 4 (.bi .tuple (.cons (.comp (.name 10) (.val (.var 3)) .none (.bi .tuple (.cons (.comp (.name 11) (.val (.var 10)) .none (.tup (.cons (.var 11) (.cons (.var 11) .nil))) [11]) .nil)) [10]) .nil))) (.cons (.asg 5 (.call 44 (.cons (.var 3) .nil))) (.cons (.ifs (.or (.cmp .ne (.call 39 (.cons (.var 4) .nil)) (.tup (.cons (.var 5) (.cons (.var 5) .nil)))) (.cmp .ne (.call 8 (.cons (.var 4) .nil)) (.int 1))) (.cons (.ret (.bl false)) .nil) .nil) (.cons (.ifs (.cmp .ne (.call 41 (.cons (.var 4) .nil)) (.var 3)) (.cons (.ret (.bl false)) .nil) .nil) (.cons (.ifs (.or (.cmp .ne (.call 57 (.cons (.var 4) .nil)) (.cmp .ne (.var 5) (.int 0))) (.cmp .ne (.call 42 (.cons (.var 4) .nil)) (.var 3))) (.cons (.ret (.bl false)) .nil) .nil) (.cons (.ifs (.cmp .ne (.call 53 (.cons (.var 4) (.cons (.tup (.cons (.var 5) (.cons (.int 1) .nil))) .nil))) (.call 31 (.cons (.var 3) .nil))) (.cons (.ret (.bl false)) .nil) .nil) (.cons (.ifs (.cmp .notn (.call 53 (.cons (.var 4) (.cons (.tup (.cons (.bin .add (.var 5) (.int 1)) (.cons (.int 1) .nil))) .nil))) .non) (.cons (.ret (.bl false)) .nil) .nil) (.cons (.ifs (.cmp .ne (.var 5) (.int 0)) (.cons (.asg 6 (.bi .tuple (.cons (.comp (.name 17) (.rng1 (.var 2)) .none (.bin .sub (.call 12 (.cons (.var 1) (.cons (.int 19) .nil))) (.int 9)) [17]) .nil))) (.cons (.parA 7 8 (.bi .tuple (.cons (.comp (.name 11) (.val (.var 6)) .none (.tup (.cons (.var 11) (.cons (.var 11) .nil))) [11]) .nil))) (.cons (.fors (.name 9) (.rng1 (.var 2)) (.cons (.unp (.tup2 (.name 12) (.name 13)) (.call 89 (.cons (.var 4) (.cons (.var 7) (.cons (.var 9) .nil))))) (.cons (.app 8 (.var 12)) (.cons (.ifs (.or (.cmp .ne (.var 12) (.var 13)) (.cmp .ne (.call 92 (.cons (.var 4) (.cons (.var 7) (.cons (.var 9) .nil)))) (.tup (.cons (.var 3) (.cons (.var 6) .nil))))) (.cons (.ret (.bl false)) .nil) .nil) .nil)))) (.cons (.frz 8) (.cons (.fors (.tup2 (.name 10) (.name 11)) (.zip (.var 3) (.var 6)) (.cons (.asg 14 (.tup (.cons (.int 0) (.cons (.int 1) .nil)))) (.cons (.fors (.tup2 (.name 15) (.name 16)) (.zip (.var 10) (.var 8)) (.cons (.asg 14 (.call 105 (.cons (.var 14) (.cons (.call 106 (.cons (.tup (.cons (.var 15) (.cons (.int 1) .nil))) (.cons (.var 16) .nil))) .nil)))) .nil)) (.cons (.ifs (.cmp .ne (.var 14) (.tup (.cons (.var 11) (.cons (.int 1) .nil)))) (.cons (.ret (.bl false)) .nil) .nil) .nil)))) .nil))))) .nil) (.cons (.ifs (.and (.cmp .ne (.var 5) (.int 0)) (.not (.call 150 (.cons (.var 1) (.cons (.var 3) (.cons (.var 4) (.cons (.var 7) (.cons (.var 8) .nil)))))))) (.cons (.ret (.bl false)) .nil) .nil) .nil)))))))))))) (.cons (.ret (.bl true)) .nil))⟩
def c_wall : Def := ⟨1, 1, (.cons (.whl (.bl true) (.cons .pass .nil)) .nil)⟩
def Pd : Nat → Option Def
  | 1 => some c_is_number
  | 2 => some c_is_whole
  | 3 => some c_is_range
  | 4 => some c_is_row
  | 5 => some c_is_table
  | 6 => some c_need_table
  | 7 => some c_need_alike
  | 8 => some c_count_corners
  | 9 => some c_is_within
  | 10 => some c_law_cell
  | 11 => some c_law_drawn
  | 12 => some c_law_roll
  | 13 => some c_law_rounds
  | 16 => some c_law_any_table
  | 17 => some c_law_corners
  | 18 => some c_law_bad_table
  | 19 => some c_law_19
  | 20 => some c_divisor
  | 21 => some c_is_fraction
  | 22 => some c_lies_in
  | 23 => some c_is_filled
  | 24 => some c_is_member
  | 25 => some c_law_divisor
  | 26 => some c_law_lowest
  | 27 => some c_law_is_in
  | 28 => some c_law_part
  | 29 => some c_law_any_member
  | 30 => some c_law_lies
  | 31 => some c_law_as_member
  | 32 => some c_law_32
  | 33 => some c_rows_of
  | 34 => some c_corners_of
  | 35 => some c_minor
  | 36 => some c_determinant_of
  | 37 => some c_with_values
  | 38 => some c_ends_of
  | 39 => some c_determinant_range
  | 40 => some c_corner_with
  | 41 => some c_least_corner
  | 42 => some c_greatest_corner
  | 43 => some c_turned
  | 44 => some c_law_det
  | 45 => some c_law_whole
  | 46 => some c_law_value
  | 47 => some c_law_47
  | 48 => some c_lowest
  | 49 => some c_is_short
  | 50 => some c_as_member
  | 51 => some c_put
  | 52 => some c_member_at
  | 53 => some c_member_with
  | 54 => some c_law_54
  | 55 => some c_signed
  | 56 => some c_are_invertible
  | 57 => some c_all_invertible
  | 58 => some c_whole_rows
  | 59 => some c_without_common
  | 60 => some c_zero_vector
  | 61 => some c_singular
  | 62 => some c_is_singular
  | 63 => some c_are_integers
  | 64 => some c_law_zeros
  | 65 => some c_law_65
  | 66 => some c_law_unit
  | 67 => some c_law_good_67
  | 68 => some c_law_68
  | 69 => some c_need_place
  | 70 => some c_need_invertible
  | 71 => some c_inverse_values
  | 72 => some c_is_less
  | 73 => some c_best_pair
  | 74 => some c_need_inverse
  | 75 => some c_inverse_range
  | 76 => some c_inverse_corner
  | 77 => some c_law_replaced
  | 78 => some c_law_ends
  | 79 => some c_law_79
  | 80 => some c_widened
  | 81 => some c_margin
  | 82 => some c_law_keeps
  | 83 => some c_law_83
  | 84 => some c_need_right
  | 85 => some c_unknown
  | 86 => some c_best_side
  | 87 => some c_extremes
  | 88 => some c_need_system
  | 89 => some c_solution_range
  | 90 => some c_law_sides
  | 91 => some c_law_91
  | 92 => some c_solution_corner
  | 93 => some c_law_93
  | 94 => some c_need_vector
  | 95 => some c_sum_of
  | 96 => some c_end_of
  | 97 => some c_meets
  | 98 => some c_need_all
  | 99 => some c_excluding
  | 100 => some c_first_excluding
  | 101 => some c_between
  | 102 => some c_row_for
  | 103 => some c_solved_by
  | 104 => some c_is_solved_by
  | 105 => some c_law_plus
  | 106 => some c_law_by
  | 107 => some c_law_sum
  | 108 => some c_law_reach
  | 109 => some c_law_109
  | 110 => some c_law_good_110
  | 111 => some c_law_111
  | 112 => some c_is_mirrored
  | 113 => some c_need_mirrored
  | 114 => some c_signs_of
  | 115 => some c_least_for
  | 116 => some c_part
  | 117 => some c_bad_vector
  | 118 => some c_bad_pair
  | 119 => some c_all_positive
  | 120 => some c_not_positive
  | 121 => some c_is_not_positive
  | 122 => some c_law_mirrored_122
  | 123 => some c_law_weighed
  | 124 => some c_law_above
  | 125 => some c_law_125
  | 126 => some c_law_mirrored_126
  | 127 => some c_law_good_127
  | 128 => some c_law_128
  | 129 => some c_checked
  | 130 => some c_plus
  | 131 => some c_ordered
  | 132 => some c_times
  | 133 => some c_law_fits
  | 134 => some c_law_134
  | 135 => some c_vector_ranges
  | 136 => some c_product_range
  | 137 => some c_product_ranges
  | 138 => some c_law_138
  | 139 => some c_law_put
  | 143 => some c_law_143
  | 144 => some c_range_text
  | 150 => some c_law_rest
  | 151 => some c_law_151
  | 152 => some c_wall
  | _ => none
end Rt
namespace Rt
open PySem
section
variable (F : Nat → List D → Sto → Res D) (r : Env) (s : Sto)
@[simp] theorem ev_var (i : Nat) : ev F (.var i) r s = match getV r i with | some d => .ok d s | none => .bad := by rw [ev] <;> rfl
@[simp] theorem ev_int (i : Int) : ev F (.int i) r s = .ok (.int i) s := by rw [ev] <;> rfl
@[simp] theorem ev_bl (i : Bool) : ev F (.bl i) r s = .ok (.bl i) s := by rw [ev] <;> rfl
@[simp] theorem ev_non : ev F (.non) r s = .ok .non s := by rw [ev] <;> rfl
@[simp] theorem ev_str (x : Str) : ev F (.str x) r s = .ok (.str x) s := by rw [ev] <;> rfl
@[simp] theorem ev_tup (es : Es) : ev F (.tup es) r s = (evs F es r s).bind fun ds s => .ok (.tup ds) s := by rw [ev] <;> rfl
@[simp] theorem ev_lst (es : Es) : ev F (.lst es) r s = (evs F es r s).bind fun ds s => .ok (.lst ds) s := by rw [ev] <;> rfl
@[simp] theorem ev_cel (es : Es) : ev F (.cel es) r s = (evs F es r s).bind fun ds s => .ok (.cell s.length) (s ++ [ds]) := by rw [ev] <;> rfl
@[simp] theorem ev_bin (op : Bop) (a b : E) : ev F (.bin op a b) r s = (ev F a r s).bind fun x s => (ev F b r s).bind fun y s => binD s op x y := by rw [ev] <;> rfl
@[simp] theorem ev_rep (es : Es) (k : E) : ev F (.rep es k) r s = (evs F es r s).bind fun ds s => (ev F k r s).bind fun y s => repD s ds y := by rw [ev] <;> rfl
@[simp] theorem ev_neg (a : E) : ev F (.neg a) r s = (ev F a r s).bind fun x s => match x with | .int i => .ok (.int (-i)) s | _ => .bad := by rw [ev] <;> rfl
@[simp] theorem ev_not (a : E) : ev F (.not a) r s = (ev F a r s).bind fun x s => match x with | .bl b => .ok (.bl (!b)) s | _ => .bad := by rw [ev] <;> rfl
@[simp] theorem ev_cmp (op : Cop) (a b : E) : ev F (.cmp op a b) r s = (ev F a r s).bind fun x s => (ev F b r s).bind fun y s => cmpD s op x y := by rw [ev] <;> rfl
def chainK (F : Nat → List D → Sto → Res D) (o2 : Cop) (c : E) (r : Env) (y : D) (k : D) (s : Sto) : Res D := match k with
    | .bl true => (ev F c r s).bind fun z s => cmpD s o2 y z
    | .bl false => .ok (.bl false) s
    | _ => .bad
@[simp] theorem chainK_bl (o2 : Cop) (c : E) (y : D) (b : Bool) : chainK F o2 c r y (.bl b) s = if b then (ev F c r s).bind fun z s => cmpD s o2 y z else .ok (.bl false) s := by cases b <;> rfl
@[simp] theorem ev_chain (o1 o2 : Cop) (a b c : E) : ev F (.chain o1 o2 a b c) r s = (ev F a r s).bind fun x s => (ev F b r s).bind fun y s => (cmpD s o1 x y).bind fun k s => chainK F o2 c r y k s := by rw [ev] <;> rfl
def andK (F : Nat → List D → Sto → Res D) (b : E) (r : Env) (x : D) (s : Sto) : Res D := match x with | .bl true => ev F b r s | .bl false => .ok (.bl false) s | _ => .bad
def orK (F : Nat → List D → Sto → Res D) (b : E) (r : Env) (x : D) (s : Sto) : Res D := match x with | .bl true => .ok (.bl true) s | .bl false => ev F b r s | _ => .bad
def iteK (F : Nat → List D → Sto → Res D) (a b : E) (r : Env) (x : D) (s : Sto) : Res D := match x with | .bl true => ev F a r s | .bl false => ev F b r s | _ => .bad
@[simp] theorem andK_bl (b : E) (k : Bool) : andK F b r (.bl k) s = if k then ev F b r s else .ok (.bl false) s := by cases k <;> rfl
@[simp] theorem orK_bl (b : E) (k : Bool) : orK F b r (.bl k) s = if k then .ok (.bl true) s else ev F b r s := by cases k <;> rfl
@[simp] theorem iteK_bl (a b : E) (k : Bool) : iteK F a b r (.bl k) s = if k then ev F a r s else ev F b r s := by cases k <;> rfl
@[simp] theorem ev_and (a b : E) : ev F (.and a b) r s = (ev F a r s).bind fun x s => andK F b r x s := by rw [ev] <;> rfl
@[simp] theorem ev_or (a b : E) : ev F (.or a b) r s = (ev F a r s).bind fun x s => orK F b r x s := by rw [ev] <;> rfl
@[simp] theorem ev_ite (c a b : E) : ev F (.ite c a b) r s = (ev F c r s).bind fun x s => iteK F a b r x s := by rw [ev] <;> rfl
@[simp] theorem ev_sub (a i : E) : ev F (.sub a i) r s = (ev F a r s).bind fun x s => (ev F i r s).bind fun y s => subD s x y := by rw [ev] <;> rfl
@[simp] theorem ev_subo (i : Nat) (x : E) : ev F (.subo i x) r s = match getO r i with
    | some ds => (ev F x r s).bind fun y s => match y with | .int k => atD s ds k | _ => .bad
    | none => .bad := by rw [ev] <;> rfl
@[simp] theorem ev_slice (a : E) (lo hi : Oe) : ev F (.slice a lo hi) r s = (ev F a r s).bind fun x s => (evo F lo r s).bind fun l s => ofP (partsD l) fun l => (evo F hi r s).bind fun h s => ofP (partsD h) fun h => sliceD s x l h := by rw [ev] <;> rfl
@[simp] theorem ev_rev (a : E) : ev F (.rev a) r s = (ev F a r s).bind fun x s => revD s x := by rw [ev] <;> rfl
@[simp] theorem ev_call (f : Nat) (es : Es) : ev F (.call f es) r s = (evs F es r s).bind fun ds s => F f ds s := by rw [ev] <;> rfl
@[simp] theorem ev_bi (b : Bi) (es : Es) : ev F (.bi b es) r s = (evs F es r s).bind fun ds s => biD s b ds := by rw [ev] <;> rfl
/-- an item of a comprehension -/
def itemK (F : Nat → List D → Sto → Res D) (tg : Tg) (cond : Oe) (elt : E) (r : Env) (d : D) (s : Sto) : Res (Option D) := match bindT tg d r with
      | none => .bad
      | some r' => (evo F cond r' s).bind fun k s => match k with
        | none => (ev F elt r' s).bind fun y s => .ok (some y) s
        | some (.bl true) => (ev F elt r' s).bind fun y s => .ok (some y) s
        | some (.bl false) => .ok none s
        | _ => .bad
def capL (ys : List D) (s : Sto) : Res D := if ys.length ≤ sizeN then .ok (.lst ys) s else .bad
@[simp] theorem ev_comp (tg : Tg) (it : It) (cond : Oe) (elt : E) (own : List Nat) : ev F (.comp tg it cond elt own) r s = (evi F it r s).bind fun ds s => (mapR (itemK F tg cond elt (wipeE r own)) ds s).bind capL := by rw [ev] <;> rfl
@[simp] theorem ev_told (c : E) : ev F (.told c) r s = caught (ev F c r s) := by rw [ev] <;> rfl
@[simp] theorem evs_nil : evs F .nil r s = .ok [] s := by rw [evs] <;> rfl
@[simp] theorem evs_cons (e : E) (es : Es) : evs F (.cons e es) r s = (ev F e r s).bind fun x s => (evs F es r s).bind fun xs s => .ok (x :: xs) s := by rw [evs] <;> rfl
@[simp] theorem evo_none : evo F .none r s = .ok none s := by rw [evo] <;> rfl
@[simp] theorem evo_some (e : E) : evo F (.some e) r s = (ev F e r s).bind fun x s => .ok (some x) s := by rw [evo] <;> rfl
def valK (x : D) (s : Sto) : Res (List D) := match itemsD x with | some ds => .ok ds s | none => .bad
@[simp] theorem valK_tup (xs : List D) : valK (.tup xs) s = .ok xs s := rfl
@[simp] theorem valK_lst (xs : List D) : valK (.lst xs) s = .ok xs s := rfl
def enumK (x : D) (s : Sto) : Res (List D) := match itemsD x with | some ds => .ok (enumD 0 ds) s | none => .bad
@[simp] theorem enumK_tup (xs : List D) : enumK (.tup xs) s = .ok (enumD 0 xs) s := rfl
@[simp] theorem enumK_lst (xs : List D) : enumK (.lst xs) s = .ok (enumD 0 xs) s := rfl
def zipK (x y : D) (s : Sto) : Res (List D) := match x, y with | .tup ds, .tup es => .ok (zipD ds es) s | .lst ds, .lst es => .ok (zipD ds es) s | .tup ds, .lst es => .ok (zipD ds es) s | _, _ => .bad
@[simp] theorem zipK_tup (xs ys : List D) : zipK (.tup xs) (.tup ys) s = .ok (zipD xs ys) s := rfl
@[simp] theorem zipK_tl (xs ys : List D) : zipK (.tup xs) (.lst ys) s = .ok (zipD xs ys) s := rfl
@[simp] theorem zipK_lst (xs ys : List D) : zipK (.lst xs) (.lst ys) s = .ok (zipD xs ys) s := rfl
def rngK (x : D) (s : Sto) : Res (List D) := match x with | .int n => if small n then .ok (rngD 0 n.toNat 1) s else .bad | _ => .bad
@[simp] theorem rngK_int (n : Int) : rngK (.int n) s = if small n then .ok (rngD 0 n.toNat 1) s else .bad := rfl
@[simp] theorem evi_val (e : E) : evi F (.val e) r s = (ev F e r s).bind valK := by rw [evi] <;> rfl
@[simp] theorem evi_rng1 (e : E) : evi F (.rng1 e) r s = (ev F e r s).bind rngK := by rw [evi] <;> rfl
@[simp] theorem evi_enum (e : E) : evi F (.enum e) r s = (ev F e r s).bind enumK := by rw [evi] <;> rfl
@[simp] theorem evi_zip (a b : E) : evi F (.zip a b) r s = (ev F a r s).bind fun x s => (ev F b r s).bind fun y s => zipK x y s := by rw [evi] <;> rfl
end
@[simp] theorem getV_zero (d : D) (r : Env) : getV (.val d :: r) 0 = some d := rfl
@[simp] theorem getV_succ (x : Slot) (r : Env) (i : Nat) : getV (x :: r) (i + 1) = getV r i := rfl
@[simp] theorem getO_zero (d : List D) (r : Env) : getO (.own d :: r) 0 = some d := rfl
@[simp] theorem getO_succ (x : Slot) (r : Env) (i : Nat) : getO (x :: r) (i + 1) = getO r i := rfl
@[simp] theorem wipe_nil (r : Env) : wipeE r [] = r := rfl
@[simp] theorem wipe_cons (r : Env) (v : Nat) (vs : List Nat) : wipeE r (v :: vs) = (wipeE r vs).set v .no := rfl
@[simp] theorem bindT_name (i : Nat) (d : D) (r : Env) : bindT (.name i) d r = some (r.set i (.val d)) := by rw [bindT] <;> rfl
@[simp] theorem bindT_tup2 (a b : Tg) (x y : D) (r : Env) : bindT (.tup2 a b) (.tup [x, y]) r = (bindT a x r).bind (bindT b y) := by rw [bindT] <;> rfl
@[simp] theorem bindT_lst2 (a b : Tg) (x y : D) (r : Env) : bindT (.tup2 a b) (.lst [x, y]) r = (bindT a x r).bind (bindT b y) := by rw [bindT] <;> rfl
@[simp] theorem bindT_tup3 (a b c : Tg) (x y z : D) (r : Env) : bindT (.tup3 a b c) (.tup [x, y, z]) r = ((bindT a x r).bind (bindT b y)).bind (bindT c z) := by rw [bindT] <;> rfl
section
variable (F : Nat → List D → Sto → Res D) (W : Nat) (r : Env) (s : Sto)
@[simp] theorem caught_ok (d : D) : caught (.ok d s) = .ok d s := rfl
@[simp] theorem caught_exc (c : Nat) (h : c < 12) : caught (.exc c s) = .ok (.tup [.str "error", .str (excName c)]) s := by show (if c < 12 then _ else _) = _; rw [if_pos h]
@[simp] theorem seqR_next (f : Env → Sto → Res Flow) : seqR (.ok (.next r) s) f = f r s := rfl
@[simp] theorem seqR_ret (d : D) (f : Env → Sto → Res Flow) : seqR (.ok (.ret d) s) f = .ok (.ret d) s := rfl
@[simp] theorem seqR_exc (c : Nat) (f : Env → Sto → Res Flow) : seqR (.exc c s) f = .exc c s := rfl
@[simp] theorem tst_bl (b : Bool) : tst (.ok (.bl b) s) = .ok b s := rfl
@[simp] theorem tst_int (b : Int) : tst (.ok (.int b) s) = .ok (b != 0) s := rfl
@[simp] theorem tst_exc (c : Nat) : tst (.exc c s) = .exc c s := rfl
@[simp] theorem execs_nil : execs F W .nil r s = .ok (.next r) s := by rw [execs] <;> rfl
@[simp] theorem execs_cons (a : S) (b : Ss) : execs F W (.cons a b) r s = seqR (exec F W a r s) (fun r s => execs F W b r s) := by rw [execs] <;> rfl
@[simp] theorem exec_pass : exec F W .pass r s = .ok (.next r) s := by rw [exec] <;> rfl
@[simp] theorem exec_frz (i : Nat) : exec F W (.frz i) r s = match getO r i with | some ds => .ok (.next (r.set i (.val (.lst ds)))) s | none => .bad := by rw [exec] <;> rfl
@[simp] theorem exec_asg (i : Nat) (e : E) : exec F W (.asg i e) r s = (ev F e r s).bind fun x s => .ok (.next (r.set i (.val x))) s := by rw [exec] <;> rfl
@[simp] theorem exec_asgL (i : Nat) (es : Es) : exec F W (.asgL i es) r s = (evs F es r s).bind fun ds s => .ok (.next (r.set i (.own ds))) s := by rw [exec] <;> rfl
@[simp] theorem exec_asgC (i : Nat) (a b : E) : exec F W (.asgC i a b) r s = (ev F a r s).bind fun x s => (ev F b r s).bind fun y s => (binD s .add x y).bind fun z s => match z with | .lst ds => .ok (.next (r.set i (.own ds))) s | _ => .bad := by rw [exec] <;> rfl
@[simp] theorem exec_asgR (i : Nat) (es : Es) (k : E) : exec F W (.asgR i es k) r s = (evs F es r s).bind fun ds s => (ev F k r s).bind fun y s => (repD s ds y).bind fun z s => match z with | .lst ds => .ok (.next (r.set i (.own ds))) s | _ => .bad := by rw [exec] <;> rfl
@[simp] theorem exec_asgO (i : Nat) (e : E) : exec F W (.asgO i e) r s = (ev F e r s).bind fun x s => match x with | .lst ds => .ok (.next (r.set i (.own ds))) s | _ => .bad := by rw [exec] <;> rfl
@[simp] theorem exec_parA (i j : Nat) (e : E) : exec F W (.parA i j e) r s = (ev F e r s).bind fun x s => .ok (.next ((r.set i (.val x)).set j (.own []))) s := by rw [exec] <;> rfl
@[simp] theorem exec_parB (i j : Nat) (e : E) : exec F W (.parB i j e) r s = (ev F e r s).bind fun x s => .ok (.next ((r.set i (.own [])).set j (.val x))) s := by rw [exec] <;> rfl
@[simp] theorem exec_par (is : List Nat) (es : Es) : exec F W (.par is es) r s = (evs F es r s).bind fun ds s => match setAll is ds r with | some r => .ok (.next r) s | none => .bad := by rw [exec] <;> rfl
@[simp] theorem exec_unp (tg : Tg) (e : E) : exec F W (.unp tg e) r s = (ev F e r s).bind fun x s => match bindT tg x r with | some r => .ok (.next r) s | none => .bad := by rw [exec] <;> rfl
@[simp] theorem exec_app (i : Nat) (e : E) : exec F W (.app i e) r s = match getO r i with | some ds => (ev F e r s).bind fun x s => (if ds.length < sizeN then .ok (.next (r.set i (.own (ds ++ [x])))) s else .bad) | none => .bad := by rw [exec] <;> rfl
@[simp] theorem exec_setI (i : Nat) (x e : E) : exec F W (.setI i x e) r s = if slotB r i = false then .bad else (ev F e r s).bind fun d s => (ev F x r s).bind fun k s => putD r s i k d := by rw [exec] <;> rfl
@[simp] theorem exec_aug (i : Nat) (e : E) : exec F W (.aug i e) r s = match getV r i with | some (.int a) => (ev F e r s).bind fun y s => (match y with | .int b => .ok (.next (r.set i (.val (.int (a + b))))) s | _ => .bad) | _ => .bad := by rw [exec] <;> rfl
@[simp] theorem exec_ex (e : E) : exec F W (.ex e) r s = (ev F e r s).bind fun _ s => .ok (.next r) s := by rw [exec] <;> rfl
@[simp] theorem exec_ret (e : E) : exec F W (.ret e) r s = (ev F e r s).bind fun x s => .ok (.ret x) s := by rw [exec] <;> rfl
@[simp] theorem exec_ifs (c : E) (a b : Ss) : exec F W (.ifs c a b) r s = (tst (ev F c r s)).bind fun k s => if k then execs F W a r s else execs F W b r s := by rw [exec] <;> rfl
/-- a round of a loop -/
def roundK (F : Nat → List D → Sto → Res D) (W : Nat) (tg : Tg) (b : Ss) (d : D) (r : Env) (s : Sto) : Res Flow := match bindT tg d r with | some r => execs F W b r s | none => .bad
@[simp] theorem exec_fors (tg : Tg) (it : It) (b : Ss) : exec F W (.fors tg it b) r s = (evi F it r s).bind fun ds s => forR (roundK F W tg b) ds r s := by rw [exec] <;> rfl
theorem exec_whl (c : E) (b : Ss) : exec F W (.whl c b) r s = whileR (fun r s => tst (ev F c r s)) (fun r s => execs F W b r s) W r s := by rw [exec] <;> rfl
@[simp] theorem exec_raise (c : Nat) : exec F W (.raise c) r s = .exc c s := by rw [exec] <;> rfl
end
@[simp] theorem setAll_nil (r : Env) : setAll [] [] r = some r := rfl
@[simp] theorem setAll_cons (i : Nat) (is : List Nat) (d : D) (ds : List D) (r : Env) : setAll (i :: is) (d :: ds) r = setAll is ds (r.set i (.val d)) := rfl
def outK (x : Res Flow) : Res D := match x with
    | .ok (.next _) s => .ok .non s
    | .ok (.ret x) s => .ok x s
    | .exc c s => .exc c s
    | .bad => .bad
@[simp] theorem outK_next (r : Env) (s : Sto) : outK (.ok (.next r) s) = .ok .non s := rfl
@[simp] theorem outK_ret (d : D) (s : Sto) : outK (.ok (.ret d) s) = .ok d s := rfl
@[simp] theorem outK_exc (c : Nat) (s : Sto) : outK (.exc c s) = .exc c s := rfl
theorem body_of {F : Nat → List D → Sto → Res D} {W : Nat} {d : Def} {ds : List D} {s : Sto} (h : ds.length = d.np) : body F W d ds s = outK (execs F W d.body (ds.map .val ++ List.replicate (d.nn - d.np) .no) s) := by
  unfold body outK
  rw [if_pos h] <;> rfl
/-- a call of a def of the program -/
theorem call_of {W n f : Nat} {d : Def} {ds : List D} {s : Sto} (h : Pd f = some d) (hl : ds.length = d.np) : run Pd W (n + 1) f ds s = outK (execs (run Pd W n) W d.body (ds.map .val ++ List.replicate (d.nn - d.np) .no) s) := by
  rw [run, h]
  exact body_of hl
section
variable (s : Sto)
@[simp] theorem bi_len_tup (xs : List D) : biD s .len [.tup xs] = .ok (.int xs.length) s := rfl
@[simp] theorem bi_len_lst (xs : List D) : biD s .len [.lst xs] = .ok (.int xs.length) s := rfl
@[simp] theorem bi_abs (i : Int) : biD s .abs [.int i] = .ok (.int (if i < 0 then -i else i)) s := rfl
@[simp] theorem bi_min2 (i j : Int) : biD s .min2 [.int i, .int j] = .ok (.int (if j < i then j else i)) s := rfl
@[simp] theorem bi_max2 (i j : Int) : biD s .max2 [.int i, .int j] = .ok (.int (if j > i then j else i)) s := rfl
@[simp] theorem bi_min1 (xs : List D) : biD s .min1 [.lst xs] = ofI (intsD xs) fun ns => match ns with | [] => .bad | x :: r => .ok (.int (minL x r)) s := rfl
@[simp] theorem bi_max1 (xs : List D) : biD s .max1 [.lst xs] = ofI (intsD xs) fun ns => match ns with | [] => .bad | x :: r => .ok (.int (maxL x r)) s := rfl
@[simp] theorem bi_sum (xs : List D) : biD s .sum [.lst xs] = ofI (intsD xs) fun ns => .ok (.int ns.sum) s := rfl
@[simp] theorem bz_all (xs : List D) : biD s .all [.lst xs] = ofB (boolsD xs) fun bs => .ok (.bl (bs.all id)) s := rfl
@[simp] theorem bi_any (xs : List D) : biD s .any [.lst xs] = ofB (boolsD xs) fun bs => .ok (.bl (bs.any id)) s := rfl
@[simp] theorem bi_tuple_lst (xs : List D) : biD s .tuple [.lst xs] = .ok (.tup xs) s := rfl
@[simp] theorem bi_tuple_tup (xs : List D) : biD s .tuple [.tup xs] = .ok (.tup xs) s := rfl
@[simp] theorem bi_list_lst (xs : List D) : biD s .list [.lst xs] = .ok (.lst xs) s := rfl
@[simp] theorem bi_list_tup (xs : List D) : biD s .list [.tup xs] = .ok (.lst xs) s := rfl
@[simp] theorem bi_int (i : Int) : biD s .int [.int i] = .ok (.int i) s := rfl
@[simp] theorem bi_int_bl (b : Bool) : biD s .int [.bl b] = .ok (.int (if b then 1 else 0)) s := rfl
@[simp] theorem bi_isi (t : Ty) (d : D) : biD s (.isi t) [d] = match isTy t d with | some b => .ok (.bl b) s | none => .bad := rfl
@[simp] theorem ofI_some (ns : List Int) (f : List Int → Res D) : ofI (some ns) f = f ns := rfl
@[simp] theorem ofB_some (ns : List Bool) (f : List Bool → Res D) : ofB (some ns) f = f ns := rfl
@[simp] theorem ofP_some {a : Type} (p : Option Int) (f : Option Int → Res a) : ofP (some p) f = f p := rfl
@[simp] theorem partsD_none : partsD none = some none := rfl
@[simp] theorem partsD_int (i : Int) : partsD (some (.int i)) = some (some i) := rfl
@[simp] theorem slice_tup (xs : List D) (l h : Option Int) : sliceD s (.tup xs) l h = .ok (.tup (cutD xs l h)) s := rfl
@[simp] theorem slice_lst (xs : List D) (l h : Option Int) : sliceD s (.lst xs) l h = .ok (.lst (cutD xs l h)) s := rfl
@[simp] theorem sub_tup (xs : List D) (i : Int) : subD s (.tup xs) (.int i) = atD s xs i := rfl
@[simp] theorem sub_lst (xs : List D) (i : Int) : subD s (.lst xs) (.int i) = atD s xs i := rfl
@[simp] theorem sub_cell (k : Nat) (i : Int) : subD s (.cell k) (.int i) = match s[k]? with | none => .bad | some xs => atD s xs i := rfl
theorem at_nat {xs : List D} {k : Nat} {d : D} (h : xs[k]? = some d) : atD s xs (k : Int) = .ok d s := by
  have hk : k < xs.length := (List.getElem?_eq_some_iff.mp h).1
  unfold atD ixD
  rw [if_pos (by omega), if_pos (by omega)]
  simp [h]
@[simp] theorem at_zero (x : D) (xs : List D) : atD s (x :: xs) 0 = .ok x s := at_nat s (k := 0) rfl
@[simp] theorem at_one (x y : D) (xs : List D) : atD s (x :: y :: xs) 1 = .ok y s := at_nat s (k := 1) rfl
@[simp] theorem at_two (x y z : D) (xs : List D) : atD s (x :: y :: z :: xs) 2 = .ok z s := at_nat s (k := 2) rfl
@[simp] theorem cmp_eq (x y : D) : cmpD s .eq x y = if shp 30 x && shp 30 y then .ok (.bl (eqv x y)) s else .bad := rfl
@[simp] theorem cmp_ne (x y : D) : cmpD s .ne x y = if shp 30 x && shp 30 y then .ok (.bl (!eqv x y)) s else .bad := rfl
@[simp] theorem cmp_lt (i j : Int) : cmpD s .lt (.int i) (.int j) = .ok (.bl (decide (i < j))) s := rfl
@[simp] theorem cmp_le (i j : Int) : cmpD s .le (.int i) (.int j) = .ok (.bl (decide (i ≤ j))) s := rfl
@[simp] theorem cmp_gt (i j : Int) : cmpD s .gt (.int i) (.int j) = .ok (.bl (decide (j < i))) s := rfl
@[simp] theorem cmp_ge (i j : Int) : cmpD s .ge (.int i) (.int j) = .ok (.bl (decide (j ≤ i))) s := rfl
@[simp] theorem bin_add (i j : Int) : binD s .add (.int i) (.int j) = .ok (.int (i + j)) s := rfl
@[simp] theorem bin_sub (i j : Int) : binD s .sub (.int i) (.int j) = .ok (.int (i - j)) s := rfl
theorem bin_mul (i j : Int) : binD s .mul (.int i) (.int j) = if mulOk i j then .ok (.int (i * j)) s else .bad := rfl
theorem bin_fdiv (i j : Int) : binD s .fdiv (.int i) (.int j) = if divOk j then .ok (.int (i.fdiv j)) s else .bad := rfl
@[simp] theorem bin_mod (i j : Int) : binD s .mod (.int i) (.int j) = if j ≠ 0 then .ok (.int (i.fmod j)) s else .bad := rfl
@[simp] theorem bin_pow (i j : Int) : binD s .pow (.int i) (.int j) = if 0 ≤ j ∧ j ≤ 1000 ∧ i.natAbs < 2 ^ 64 then .ok (.int (i ^ j.toNat)) s else .bad := rfl
theorem bin_addT (a b : List D) : binD s .add (.tup a) (.tup b) = if a.length + b.length ≤ sizeN then .ok (.tup (a ++ b)) s else .bad := rfl
theorem bin_addL (a b : List D) : binD s .add (.lst a) (.lst b) = if a.length + b.length ≤ sizeN then .ok (.lst (a ++ b)) s else .bad := rfl
/-- bounds: a product of small things -/
theorem mul_ok {i j : Int} (h : i.natAbs < 2 ^ 64 ∨ j.natAbs < 2 ^ 64) : binD s .mul (.int i) (.int j) = .ok (.int (i * j)) s := by
  rw [bin_mul, if_pos]
  unfold mulOk
  rcases h with h | h <;> simp [h]
theorem big_lt {k : Nat} (h : k < 2 ^ 1000) : k < bigN := Nat.lt_trans h (Nat.pow_lt_pow_right (by decide) (by decide))
theorem div_lt {k : Nat} (h : k < 2 ^ 1000) : k < divN := Nat.lt_trans h (Nat.pow_lt_pow_right (by decide) (by decide))
theorem mul_big {i j : Int} (h : i.natAbs < 2 ^ 1000) (g : j.natAbs < 2 ^ 1000) : binD s .mul (.int i) (.int j) = .ok (.int (i * j)) s := by
  rw [bin_mul, if_pos]
  unfold mulOk
  simp [big_lt h, big_lt g]
theorem fdiv_ok {i j : Int} (h : j ≠ 0) (g : j.natAbs < 2 ^ 1000) : binD s .fdiv (.int i) (.int j) = .ok (.int (i.fdiv j)) s := by
  rw [bin_fdiv, if_pos]
  unfold divOk
  simp [div_lt g, h]
@[simp] theorem eqv_int (i j : Int) : eqv (.int i) (.int j) = (i == j) := by rw [eqv]
@[simp] theorem shp_int (k : Nat) (j : Int) : shp k (.int j) = true := by cases k <;> rfl
@[simp] theorem shp_bl (k : Nat) (j : Bool) : shp k (.bl j) = true := by cases k <;> rfl
@[simp] theorem shp_non (k : Nat) : shp k .non = true := by cases k <;> rfl
@[simp] theorem isTy_tup (t : Ty) (xs : List D) : isTy t (.tup xs) = some (decide (t = .tuple)) := by cases t <;> rfl
@[simp] theorem isTy_lst (t : Ty) (xs : List D) : isTy t (.lst xs) = some false := by cases t <;> rfl
@[simp] theorem isTy_non (t : Ty) : isTy t .non = some false := by cases t <;> rfl
@[simp] theorem isTy_int (t : Ty) (i : Int) : isTy t (.int i) = some (decide (t = .int)) := by cases t <;> rfl
@[simp] theorem isTy_bl (t : Ty) (i : Bool) : isTy t (.bl i) = some (decide (t = .int) || decide (t = .bool)) := by cases t <;> rfl
@[simp] theorem sizeN_eq : sizeN = 1000000 := rfl
@[simp] theorem mapR_nil (f : D → Sto → Res (Option D)) : mapR f [] s = .ok [] s := rfl
@[simp] theorem mapR_cns (f : D → Sto → Res (Option D)) (x : D) (xs : List D) : mapR f (x :: xs) s = (f x s).bindN fun o s => (mapR f xs s).bindN fun ys s => .ok (o.toList ++ ys) s := rfl
@[simp] theorem boolsD_nil : boolsD [] = some [] := rfl
@[simp] theorem boolsD_cons (b : Bool) (r : List D) : boolsD (.bl b :: r) = (boolsD r).map (b :: ·) := rfl
@[simp] theorem intsD_nil : intsD [] = some [] := rfl
@[simp] theorem intsD_cons (b : Int) (r : List D) : intsD (.int b :: r) = (intsD r).map (b :: ·) := rfl
end
/-- two lists, item by item -/
inductive All2 {a b : Type} (Q : a → b → Prop) : List a → List b → Prop where
  | nil : All2 Q [] []
  | cons {x : a} {y : b} {l : List a} {m : List b} : Q x y → All2 Q l m → All2 Q (x :: l) (y :: m)
theorem mapR_eq {a : Type} {f : D → Sto → Res (Option D)} {φ : a → D} (o : a → Option D) {s : Sto} : ∀ {l : List a}, (∀ x ∈ l, f (φ x) s = .ok (o x) s) → mapR f (l.map φ) s = .ok (l.filterMap o) s
  | [], _ => rfl
  | x :: l, h => by
    rw [List.map_cons, mapR, h x (by simp), Res.bindN_ok, mapR_eq o (fun y hy => h y (by simp [hy])), Res.bindN_ok, List.filterMap_cons]
    cases o x <;> rfl
theorem mapR_all {a : Type} {f : D → Sto → Res (Option D)} {φ : a → D} (g : a → D) {s : Sto} {l : List a} (h : ∀ x ∈ l, f (φ x) s = .ok (some (g x)) s) : mapR f (l.map φ) s = .ok (l.map g) s := by
  rw [mapR_eq (fun x => some (g x)) h]
  congr 1
  induction l with
  | nil => rfl
  | cons x l ih => rw [List.filterMap_cons]; simp only [List.map_cons]; rw [ih (fun y hy => h y (by simp [hy]))]
/-- items drawn one after another: what holds of each -/
theorem mapR_inv {a : Type} {f : D → Sto → Res (Option D)} {φ : a → D} {b : Type} (ψ : b → D) (I : Sto → Prop) (Q : a → b → Prop) : ∀ (l : List a) (s : Sto), I s → (∀ x ∈ l, ∀ s, I s → ∃ y s', f (φ x) s = .ok (some (ψ y)) s' ∧ I s' ∧ Q x y) →
    ∃ ys s', mapR f (l.map φ) s = .ok (ys.map ψ) s' ∧ I s' ∧ All2 Q l ys
  | [], s, hi, _ => ⟨[], s, rfl, hi, .nil⟩
  | x :: l, s, hi, h => by
    obtain ⟨y, s1, e1, i1, q1⟩ := h x (by simp) s hi
    obtain ⟨ys, s2, e2, i2, q2⟩ := mapR_inv ψ I Q l s1 i1 (fun y hy => h y (by simp [hy]))
    exact ⟨y :: ys, s2, by rw [List.map_cons, mapR, e1, Res.bindN_ok, e2]; rfl, i2, .cons q1 q2⟩
@[simp] theorem capL_eq (ys : List D) (s : Sto) : capL ys s = if ys.length ≤ 1000000 then .ok (.lst ys) s else .bad := rfl
theorem boolsD_map {a : Type} (p : a → Bool) : ∀ l : List a, boolsD (l.map fun x => .bl (p x)) = some (l.map p)
  | [] => rfl
  | x :: l => by rw [List.map_cons, boolsD, boolsD_map p l]; rfl
theorem intsD_map {a : Type} (p : a → Int) : ∀ l : List a, intsD (l.map fun x => .int (p x)) = some (l.map p)
  | [] => rfl
  | x :: l => by rw [List.map_cons, intsD, intsD_map p l]; rfl
theorem biD_all {a : Type} (p : a → Bool) (l : List a) (s : Sto) : biD s .all [.lst (l.map fun x => .bl (p x))] = .ok (.bl (l.all p)) s := by
  simp only [biD, ofB, boolsD_map]
  congr 2
  induction l with
  | nil => rfl
  | cons x l ih => simp only [List.map_cons, List.all_cons, ih, id]
end Rt
set_option maxHeartbeats 1000000
namespace Rt
open PySem
variable {W n : Nat} {s : Sto}
abbrev Tab := List (List (Int × Int))
def pD (p : Int × Int) : D := .tup [.int p.1, .int p.2]
def rowD (l : List (Int × Int)) : D := .tup (l.map pD)
def tabD (t : Tab) : D := .tup (t.map rowD)
structure TabOk (t : Tab) : Prop where
  lo : 1 ≤ t.length
  hi : t.length ≤ 3
  sq : ∀ row ∈ t, row.length = t.length
  rg : ∀ row ∈ t, ∀ p ∈ row, -9 ≤ p.1 ∧ p.1 ≤ p.2 ∧ p.2 ≤ 9
theorem run_is_number (d : D) (b : Bool) (h1 : isTy .int d = some b) (c : Bool) (h2 : isTy .bool d = some c) : run Pd W (n + 1) 1 [d] s = .ok (.bl (b && !c)) s := by
  rw [call_of (d := c_is_number) rfl rfl]
  cases b <;> simp [c_is_number, h1, h2]
theorem num_int (v : Int) : run Pd W (n + 1) 1 [.int v] s = .ok (.bl true) s := run_is_number _ true rfl false rfl
theorem run_is_whole (v a b : Int) : run Pd W (n + 2) 2 [.int v, .int a, .int b] s = .ok (.bl (decide (a ≤ v) && decide (v ≤ b))) s := by
  rw [call_of (d := c_is_whole) rfl rfl]
  by_cases h : a ≤ v <;> simp [c_is_whole, h, num_int]
theorem run_is_range (p : Int × Int) (h : -9 ≤ p.1 ∧ p.1 ≤ p.2 ∧ p.2 ≤ 9) : run Pd W (n + 3) 3 [pD p] s = .ok (.bl true) s := by
  rw [call_of (d := c_is_range) rfl rfl]
  have h1 : p.1 ≤ 9 := by omega
  have h2 : -9 ≤ p.2 := by omega
  simp [c_is_range, pD, itemK, run_is_whole, h, h1, h2]
theorem run_is_row (l : List (Int × Int)) (k : Int) (hk : (l.length : Int) = k) (hs : l.length ≤ 1000) (h : ∀ p ∈ l, -9 ≤ p.1 ∧ p.1 ≤ p.2 ∧ p.2 ≤ 9) : run Pd W (n + 4) 4 [rowD l, .int k] s = .ok (.bl true) s := by
  rw [call_of (d := c_is_row) rfl rfl]
  have e := mapR_all (f := itemK (run Pd W (n + 3)) (.name 2) .none (.call 3 (.cons (.var 2) .nil)) [.val (rowD l), .val (.int k), .no]) (φ := pD) (fun _ => D.bl true) (s := s) (l := l) fun p hp => by
    simp [itemK, run_is_range p (h p hp)]
  have a := biD_all (fun _ : Int × Int => true) l s
  have hl : l.length ≤ 1000000 := by omega
  simp [c_is_row, rowD, hk, hl] at e a ⊢
  simp [e, hl, a]
theorem run_is_table (t : Tab) (h : TabOk t) : run Pd W (n + 5) 5 [tabD t] s = .ok (.bl true) s := by
  rw [call_of (d := c_is_table) rfl rfl]
  have e := mapR_all (f := itemK (run Pd W (n + 4)) (.name 1) .none (.call 4 (.cons (.var 1) (.cons (.bi .len (.cons (.var 0) .nil)) .nil))) [.val (tabD t), .no]) (φ := rowD) (fun _ => D.bl true) (s := s) (l := t) fun p hp => by
    have := run_is_row (W := W) (n := n) (s := s) p t.length (by rw [h.sq p hp]) (by rw [h.sq p hp]; have := h.hi; omega) (h.rg p hp)
    simp [itemK, tabD, this]
  have a := biD_all (fun _ : List (Int × Int) => true) t s
  have hl : t.length ≤ 1000000 := by have := h.hi; omega
  have h1 : 1 ≤ (t.length : Int) := by have := h.lo; omega
  have h2 : (t.length : Int) ≤ 3 := by have := h.hi; omega
  simp [c_is_table, tabD, hl, h1, h2] at e a ⊢
  simp [e, hl, a]
theorem run_need_table (t : Tab) (h : TabOk t) : run Pd W (n + 6) 6 [tabD t] s = .ok .non s := by
  rw [call_of (d := c_need_table) rfl rfl]
  simp [c_need_table, run_is_table t h]
end Rt
set_option maxHeartbeats 1000000
namespace Rt
open PySem
variable {W n : Nat} {s : Sto}
/-- every cell holds two ints -/
structure Dice (L : Nat) (s : Sto) : Prop where
  len : s.length = L
  two : ∀ ds ∈ s, ∃ a b : Int, ds = [.int a, .int b]
theorem Dice.get {L i : Nat} (h : Dice L s) (hi : i < L) : ∃ a b : Int, s[i]? = some [.int a, .int b] := by
  have hi2 : i < s.length := by rw [h.len]; exact hi
  obtain ⟨a, b, e⟩ := h.two s[i] (List.getElem_mem hi2)
  exact ⟨a, b, by rw [List.getElem?_eq_getElem hi2, e]⟩
theorem Dice.set {L i : Nat} (h : Dice L s) (a b : Int) : Dice L (s.set i [.int a, .int b]) := by
  refine ⟨by rw [List.length_set]; exact h.len, fun ds hd => ?_⟩
  rcases List.mem_or_eq_of_mem_set hd with z | z
  · exact h.two ds z
  · exact ⟨a, b, z⟩
theorem fm {a b : Int} (h : 0 < b) : a.fmod b = a % b := Int.fmod_eq_emod_of_nonneg a (by omega)
theorem fd {a b : Int} (h : 0 < b) : a.fdiv b = a / b := Int.fdiv_eq_ediv_of_nonneg a (by omega)
theorem natAbs_lt {a : Int} {k : Nat} (h1 : -(k : Int) < a) (h2 : a < k) : a.natAbs < k := by omega
theorem run_drawn (c k : Int) : ∃ v, run Pd W (n + 1) 11 [.int c, .int k] s = .ok (.int v) s := by
  rw [call_of (d := c_law_drawn) rfl rfl]
  simp only [c_law_drawn, List.map, List.replicate, List.cons_append, List.nil_append, execs_cons, exec_asg, ev_bin, ev_var, getV_zero, getV_succ, ev_int, Res.bind_ok]
  generalize e1 : c * 6364136223846793005 + (k + 1) * 1442695040888963407 = x1
  have b1 : (6364136223846793005 : Int).natAbs < 2 ^ 64 := by decide
  have b2 : (1442695040888963407 : Int).natAbs < 2 ^ 64 := by decide
  simp only [bin_add, Res.bind_ok, mul_ok s (Or.inr b1), mul_ok s (Or.inr b2), bin_mod, e1]
  rw [if_pos (by decide)]
  have hx := Int.emod_nonneg x1 (b := 340282366920938463463374607431768211507) (by decide)
  have hy := Int.emod_lt_of_pos x1 (b := 340282366920938463463374607431768211507) (by decide)
  rw [fm (by decide)]
  generalize x1 % 340282366920938463463374607431768211507 = x2 at hx hy
  have b3 : x2.natAbs < 2 ^ 1000 := Nat.lt_trans (natAbs_lt (k := 2 ^ 129) (by omega) (by omega)) (Nat.pow_lt_pow_right (by decide) (by decide))
  simp only [Res.bind_ok, seqR_next, List.set_cons_succ, List.set_cons_zero, getV_succ, getV_zero, execs_cons, exec_asg, ev_bin, ev_var, ev_int, mul_big s b3 b3, bin_mod]
  rw [if_pos (by decide), fm (by decide)]
  have hx3 := Int.emod_nonneg (x2 * x2) (b := 340282366920938463463374607431768211297) (by decide)
  have hy3 := Int.emod_lt_of_pos (x2 * x2) (b := 340282366920938463463374607431768211297) (by decide)
  generalize (x2 * x2) % 340282366920938463463374607431768211297 = x3 at hx3 hy3
  have b4 : (18446744073709551557 : Int).natAbs < 2 ^ 1000 := Nat.lt_trans (show (18446744073709551557 : Int).natAbs < 2 ^ 64 by decide) (Nat.pow_lt_pow_right (by decide) (by decide))
  simp only [Res.bind_ok, seqR_next, List.set_cons_succ, List.set_cons_zero, getV_succ, getV_zero, execs_cons, exec_asg, ev_bin, ev_var, ev_int, bin_mod, fdiv_ok s (show (18446744073709551557 : Int) ≠ 0 by decide) b4, bin_add]
  rw [if_pos (by decide), fm (by decide)]
  simp only [Res.bind_ok, bin_add, fdiv_ok s (show (18446744073709551557 : Int) ≠ 0 by decide) b4]
  rw [fd (by decide)]
  have b5 : (x3 % 18446744073709551557 + 1).natAbs < 2 ^ 64 := natAbs_lt (by omega) (by omega)
  have b6 : (x3 / 18446744073709551557 + 1).natAbs < 2 ^ 65 := natAbs_lt (by omega) (by omega)
  rw [mul_ok s (Or.inl b5)]
  have b7 : ((x3 % 18446744073709551557 + 1) * (x3 / 18446744073709551557 + 1)).natAbs < 2 ^ 1000 := by
    rw [Int.natAbs_mul]
    exact Nat.lt_trans (Nat.mul_lt_mul'' b5 b6) (by rw [← Nat.pow_add]; exact Nat.pow_lt_pow_right (by decide) (by decide))
  have b8 : x3.natAbs < 2 ^ 1000 := Nat.lt_trans (natAbs_lt (k := 2 ^ 128) (by omega) (by omega)) (Nat.pow_lt_pow_right (by decide) (by decide))
  simp only [Res.bind_ok, mul_big s b7 b8]
  simp
theorem run_roll {L i : Nat} (h : Dice L s) (hi : i < L) (m : Int) (hm : 0 < m) (hb : m < 1000000) : ∃ r s', run Pd W (n + 2) 12 [.cell i, .int m] s = .ok (.int r) s' ∧ Dice L s' ∧ 0 ≤ r ∧ r < m := by
  obtain ⟨a, b, e⟩ := h.get hi
  have hm0 : m ≠ 0 := by omega
  have hmb : m.natAbs < 2 ^ 1000 := Nat.lt_trans (natAbs_lt (k := 2 ^ 64) (by omega) (by omega)) (Nat.pow_lt_pow_right (by decide) (by decide))
  rw [call_of (d := c_law_roll) rfl rfl]
  by_cases h1 : (10 : Int) ^ 18 ≤ a
  · refine ⟨a % m, s.set i [.int (a / m), .int b], ?_, h.set _ _, Int.emod_nonneg _ hm0, Int.emod_lt_of_pos _ hm⟩
    have h2 : (1000000000000000000 : Int) ≤ a := h1
    simp [c_law_roll, e, h2, hm0, fm hm, slotB, fdiv_ok s hm0 hmb, fd hm, putD, ixD]
  · obtain ⟨v, hv⟩ := run_drawn (W := W) (n := n) (s := s.set i [.int a, .int (b + 1)]) a (b + 1)
    refine ⟨v / 8 % m, s.set i [.int a, .int (b + 1)], ?_, h.set _ _, Int.emod_nonneg _ hm0, Int.emod_lt_of_pos _ hm⟩
    have h2 : ¬ (1000000000000000000 : Int) ≤ a := h1
    have hi2 : i < s.length := by rw [h.len]; exact hi
    have e2 : (s.set i [.int a, .int (b + 1)])[i]? = some [.int a, .int (b + 1)] := by rw [List.getElem?_set_self hi2]
    have h8 : (8 : Int).natAbs < 2 ^ 1000 := Nat.lt_trans (show (8 : Int).natAbs < 2 ^ 64 by decide) (Nat.pow_lt_pow_right (by decide) (by decide))
    simp [c_law_roll, e, e2, h2, hm0, fm hm, slotB, fd hm, putD, ixD, hv, fdiv_ok _ (show (8 : Int) ≠ 0 by decide) h8, fd (show (0 : Int) < 8 by decide)]
theorem run_cell (ns : List Int) (k : Nat) (hk : k < 1000) (hl : ns.length < 1000) : ∃ v, run Pd W (n + 1) 10 [.lst (ns.map D.int), .int k] s = .ok (.int v) s := by
  rw [call_of (d := c_law_cell) rfl rfl]
  have b1 : (7919 : Int).natAbs < 2 ^ 64 := by decide
  have b2 : (104729 : Int).natAbs < 2 ^ 64 := by decide
  cases ns with
  | nil => simp [c_law_cell, shp, eqv, eqvAll, mul_ok s (Or.inr b1)]
  | cons x ns =>
    have h0 : (0 : Int) < (ns.length : Int) + 1 := by omega
    have h1 : ((ns.length : Int) + 1) ≠ 0 := by omega
    have h2 : ((ns.length : Int) + 1).natAbs < 2 ^ 1000 := Nat.lt_trans (natAbs_lt (k := 2 ^ 64) (by omega) (by simp only [List.length_cons] at hl; omega)) (Nat.pow_lt_pow_right (by decide) (by decide))
    have h3 := Int.emod_nonneg (k : Int) h1
    have h4 := Int.emod_lt_of_pos (k : Int) h0
    obtain ⟨j, hj⟩ := Int.eq_ofNat_of_zero_le h3
    have h5 : j < (x :: ns).length := by simp only [List.length_cons]; omega
    have h6 : (D.int x :: ns.map D.int)[j]? = some (.int (x :: ns)[j]) := by
      rw [← List.map_cons, List.getElem?_map, List.getElem?_eq_getElem h5]; rfl
    have h7 := at_nat s h6
    simp [c_law_cell, shp, eqv, eqvAll, h1, fm h0, fd h0, fdiv_ok s h1 h2, mul_ok s (Or.inr b2), hj, h7]
theorem rngD_map (m : Nat) : rngD 0 m 1 = (List.range m).map fun i : Nat => D.int i := by
  unfold rngD
  apply List.map_congr_left
  intro i _
  simp
/-- the rounds: as many cells as items -/
theorem run_rounds (ns : List Int) (most : Int) (hm : 1 ≤ most) (hb : most ≤ 100) (hl : ns.length < 1000) : ∃ L s', run Pd W (n + 2) 13 [.lst (ns.map D.int), .int most] [] = .ok (.lst ((List.range L).map D.cell)) s' ∧ Dice L s' ∧ L ≤ 100 := by
  rw [call_of (d := c_law_rounds) rfl rfl]
  have hk : ∃ k : Nat, (if (1 : Int) < (if (ns.length : Int) < most then (ns.length : Int) else most) then (if (ns.length : Int) < most then (ns.length : Int) else most) else 1) = (k : Int) ∧ k ≤ 100 := by
    by_cases c1 : (ns.length : Int) < most
    · by_cases c2 : (1 : Int) < (ns.length : Int)
      · exact ⟨ns.length, by rw [if_pos c1, if_pos c2], by omega⟩
      · exact ⟨1, by rw [if_pos c1, if_neg c2]; rfl, by omega⟩
    · by_cases c2 : (1 : Int) < most
      · exact ⟨most.toNat, by rw [if_neg c1, if_pos c2]; omega, by omega⟩
      · exact ⟨1, by rw [if_neg c1, if_neg c2]; rfl, by omega⟩
  obtain ⟨k, hk, hk2⟩ := hk
  have key : ∀ (js : List Nat) (s : Sto) (r : Env), (∀ j ∈ js, j < 1000) → Dice s.length s → r[0]? = some (.val (.lst (ns.map D.int))) → r.length = 3 → ∃ s', mapR (itemK (run Pd W (n + 1)) (.name 2) .none (.cel (.cons (.call 10 (.cons (.var 0) (.cons (.var 2) .nil))) (.cons (.int 0) .nil))) r) (js.map fun i : Nat => D.int i) s =
      .ok ((List.range' s.length js.length).map D.cell) s' ∧ Dice (s.length + js.length) s' := by
    intro js
    induction js with
    | nil => intro s r _ hs _ _; exact ⟨s, rfl, by simpa using hs⟩
    | cons j js ih =>
      intro s r hj hs hr hr3
      obtain ⟨v, hv⟩ := run_cell (W := W) (n := n) (s := s) ns j (hj j (by simp)) hl
      obtain ⟨s', e, d⟩ := ih (s ++ [[.int v, .int 0]]) r (fun j h => hj j (by simp [h])) (by
        refine ⟨rfl, fun ds hd => ?_⟩
        rcases List.mem_append.mp hd with z | z
        · exact hs.two ds z
        · exact ⟨v, 0, by simpa using z⟩) hr hr3
      refine ⟨s', ?_, ?_⟩
      · match r, hr, hr3 with
        | [a, b, c], hr, _ =>
          simp at hr
          subst hr
          simp [itemK, hv]
          simp [itemK] at e
          rw [e]
          simp [List.range'_succ]
      · simp only [List.length_append, List.length_cons, List.length_nil] at d
        simp only [List.length_cons]
        rw [show s.length + (js.length + 1) = s.length + (0 + 1) + js.length by omega]
        exact d
  obtain ⟨s', e, d⟩ := key (List.range k) [] [.val (.lst (ns.map D.int)), .val (.int most), .no] (fun j hj => by have := List.mem_range.mp hj; omega) ⟨rfl, by simp⟩ rfl rfl
  refine ⟨k, s', ?_, by simpa using d, hk2⟩
  have h1 : small (k : Int) = true := by unfold small; simp; omega
  have h2 : k ≤ 1000000 := by omega
  simp [c_law_rounds, hk, h1, rngD_map, h2]
  simp [List.length_nil, ← List.range_eq_range'] at e
  rw [e]
  simp [h2]
end Rt
set_option maxHeartbeats 1000000
namespace Rt
open PySem
section
variable {a b : Type}
def Wp (x : Res a) (Q : a → Sto → Prop) : Prop := match x with
  | .ok v s => Q v s
  | _ => False
theorem wp_iff {x : Res a} {Q : a → Sto → Prop} : Wp x Q ↔ ∃ v s, x = .ok v s ∧ Q v s := by
  cases x with
  | ok v s => exact ⟨fun h => ⟨v, s, rfl, h⟩, fun ⟨_, _, e, h⟩ => by cases e; exact h⟩
  | exc c s => exact ⟨fun h => h.elim, fun ⟨_, _, e, _⟩ => by cases e⟩
  | bad => exact ⟨fun h => h.elim, fun ⟨_, _, e, _⟩ => by cases e⟩
theorem Wp.mono {x : Res a} {Q R : a → Sto → Prop} (h : Wp x Q) (k : ∀ v s, Q v s → R v s) : Wp x R := by
  cases x with
  | ok v s => exact k _ _ h
  | exc c s => exact h
  | bad => exact h
@[simp] theorem wp_ok (v : a) (s : Sto) (Q : a → Sto → Prop) : Wp (.ok v s) Q = Q v s := rfl
@[simp] theorem wp_bind (x : Res a) (f : a → Sto → Res b) (Q : b → Sto → Prop) : Wp (x.bind f) Q = Wp x (fun v s => Wp (f v s) Q) := by cases x <;> rfl
def seqP (f : Env → Sto → Res Flow) (Q : Flow → Sto → Prop) (fl : Flow) (s : Sto) : Prop := match fl with
  | .next r => Wp (f r s) Q
  | .ret d => Q (.ret d) s
@[simp] theorem seqP_next (f : Env → Sto → Res Flow) (Q : Flow → Sto → Prop) (r : Env) (s : Sto) : seqP f Q (.next r) s = Wp (f r s) Q := rfl
@[simp] theorem seqP_ret (f : Env → Sto → Res Flow) (Q : Flow → Sto → Prop) (d : D) (s : Sto) : seqP f Q (.ret d) s = Q (.ret d) s := rfl
@[simp] theorem wp_seq (x : Res Flow) (f : Env → Sto → Res Flow) (Q : Flow → Sto → Prop) : Wp (seqR x f) Q = Wp x (seqP f Q) := by
  cases x with
  | ok fl s => cases fl <;> rfl
  | exc c s => rfl
  | bad => rfl
def outP (Q : D → Sto → Prop) (fl : Flow) (s : Sto) : Prop := match fl with
  | .next _ => Q .non s
  | .ret d => Q d s
@[simp] theorem outP_next (Q : D → Sto → Prop) (r : Env) (s : Sto) : outP Q (.next r) s = Q .non s := rfl
@[simp] theorem outP_ret (Q : D → Sto → Prop) (d : D) (s : Sto) : outP Q (.ret d) s = Q d s := rfl
@[simp] theorem wp_out (x : Res Flow) (Q : D → Sto → Prop) : Wp (outK x) Q = Wp x (outP Q) := by
  cases x with
  | ok fl s => cases fl <;> rfl
  | exc c s => rfl
  | bad => rfl
/-- one round: on, or out -/
def loopP (I : Env → Sto → Prop) (Q : Flow → Sto → Prop) (fl : Flow) (s : Sto) : Prop := match fl with
  | .next r => I r s
  | .ret d => Q (.ret d) s
@[simp] theorem loopP_next (I : Env → Sto → Prop) (Q : Flow → Sto → Prop) (r : Env) (s : Sto) : loopP I Q (.next r) s = I r s := rfl
@[simp] theorem loopP_ret (I : Env → Sto → Prop) (Q : Flow → Sto → Prop) (d : D) (s : Sto) : loopP I Q (.ret d) s = Q (.ret d) s := rfl
theorem wp_forL {f : D → Env → Sto → Res Flow} {Q : Flow → Sto → Prop} {tot : Nat} (I : Nat → Env → Sto → Prop) (fin : ∀ r s, I tot r s → Q (.next r) s) : ∀ (ds : List D) (j : Nat) (r : Env) (s : Sto), j + ds.length = tot → I j r s →
    (∀ k d, ds[k]? = some d → ∀ r s, I (j + k) r s → Wp (f d r s) (loopP (I (j + k + 1)) Q)) → Wp (forR f ds r s) Q
  | [], j, r, s, e, h, _ => fin r s (by rw [← e]; exact h)
  | d :: ds, j, r, s, e, h, st => by
    have h1 := st 0 d rfl r s h
    rw [forR, wp_seq]
    refine h1.mono fun fl s1 q => ?_
    cases fl with
    | next r1 =>
      refine wp_forL I fin ds (j + 1) r1 s1 (by simp only [List.length_cons] at e; omega) q fun k d hd r s hI => ?_
      have := st (k + 1) d (by simpa using hd) r s (by rw [show j + (k + 1) = j + 1 + k by omega]; exact hI)
      rw [show j + 1 + k + 1 = j + (k + 1) + 1 by omega]
      exact this
    | ret x => exact q
theorem wp_for {f : D → Env → Sto → Res Flow} {Q : Flow → Sto → Prop} {ds : List D} {r : Env} {s : Sto} (I : Nat → Env → Sto → Prop) (h0 : I 0 r s)
    (st : ∀ k d, ds[k]? = some d → ∀ r s, I k r s → Wp (f d r s) (loopP (I (k + 1)) Q)) (fin : ∀ r s, I ds.length r s → Q (.next r) s) : Wp (forR f ds r s) Q :=
  wp_forL I fin ds 0 r s (Nat.zero_add _) h0 fun k d hd r s hI => by
    have := st k d hd r s (by rw [Nat.zero_add] at hI; exact hI)
    rw [Nat.zero_add]; exact this
end
variable {W n : Nat} {s : Sto}
theorem wp_roll {L i : Nat} (h : Dice L s) (hi : i < L) (m : Int) (hm : 0 < m) (hb : m < 1000000) {Q : D → Sto → Prop} (k : ∀ r s', Dice L s' → 0 ≤ r → r < m → Q (.int r) s') : Wp (run Pd W (n + 2) 12 [.cell i, .int m] s) Q := by
  obtain ⟨r, s', e, h1, h2, h3⟩ := run_roll (W := W) (n := n) h hi m hm hb
  rw [e]
  exact k r s' h1 h2 h3
end Rt
set_option maxHeartbeats 1000000
namespace Rt
open PySem
variable {W n : Nat} {s : Sto}
abbrev Big (W : Nat) : Prop := 10000000000000000000000000000000000000000 ≤ W
theorem gcd_while {c : Env → Sto → Res Bool} {f : Env → Sto → Res Flow} (hc : ∀ a b : Nat, c [.val (.int a), .val (.int b)] s = .ok (decide (b ≠ 0)) s)
    (hf : ∀ a b : Nat, b ≠ 0 → f [.val (.int a), .val (.int b)] s = .ok (.next [.val (.int b), .val (.int (a % b : Nat))]) s) : ∀ (fuel b a : Nat), b < fuel → whileR c f fuel [.val (.int a), .val (.int b)] s = .ok (.next [.val (.int (Nat.gcd b a)), .val (.int 0)]) s
  | 0, _, _, h => by omega
  | fuel + 1, b, a, h => by
    rw [whileR, hc]
    by_cases z : b = 0
    · subst z; simp
    · have hlt : a % b < b := Nat.mod_lt _ (by omega)
      rw [Res.bind_ok, decide_eq_true z, if_pos rfl, hf a b z, seqR_next, gcd_while hc hf fuel (a % b) b (by omega), Nat.gcd_rec b a]
theorem nz_nat (b : Nat) : ((b : Int) == 0) = decide (b = 0) := by
  by_cases z : b = 0
  · subst z; rfl
  · have : (b : Int) ≠ 0 := by omega
    rw [decide_eq_false z]
    exact beq_false_of_ne this
theorem abs_nat (i : Int) : (if i < 0 then -i else i) = (i.natAbs : Int) := by split <;> omega
theorem run_divisor (hW : Big W) (a b : Int) (hb : b.natAbs < 1000000000000000) : run Pd W (n + 1) 20 [.int a, .int b] s = .ok (.int (Nat.gcd b.natAbs a.natAbs)) s := by
  rw [call_of (d := c_divisor) rfl rfl]
  simp [c_divisor, exec_whl, abs_nat]
  rw [gcd_while (s := s)]
  · simp
  · intro a b; simp [nz_nat, bne]
  · intro a b z
    have : (b : Int) ≠ 0 := by omega
    simp [this, z, fm (show (0 : Int) < b by omega)]
  · have : 10000000000000000000000000000000000000000 ≤ W := hW
    omega
/-- a small fraction in lowest terms -/
structure Fr (p : Int × Int) : Prop where
  pos : 0 < p.2
  sm : p.2 < 1000000000000000
  t1 : -1000000000000000 < p.1
  t2 : p.1 < 1000000000000000
  co : Nat.gcd p.2.natAbs p.1.natAbs = 1
theorem run_is_fraction (hW : Big W) (p : Int × Int) (h : Fr p) : run Pd W (n + 2) 21 [pD p] s = .ok (.bl true) s := by
  rw [call_of (d := c_is_fraction) rfl rfl]
  have h1 := h.pos
  have h2 : p.2 < 1000000000000000000000000000000000000000000000000000000000000 := by have := h.sm; omega
  have h3 : -1000000000000000000000000000000000000000000000000000000000000 < p.1 := by have := h.t1; omega
  have h4 : p.1 < 1000000000000000000000000000000000000000000000000000000000000 := by have := h.t2; omega
  have h5 := run_divisor (W := W) (n := n) (s := s) hW p.1 p.2 (by have := h.sm; omega)
  rw [h.co] at h5
  simp [c_is_fraction, pD, itemK, num_int, h1, h2, h3, h4, h5]
def inB (one b : Int × Int) : Bool := decide (b.1 * one.2 ≤ one.1) && decide (one.1 ≤ b.2 * one.2)
structure Bd (b : Int × Int) : Prop where
  a1 : -1000000000000000 < b.1
  a2 : b.1 < 1000000000000000
  b1 : -1000000000000000 < b.2
  b2 : b.2 < 1000000000000000
structure MemOk (t m : Tab) : Prop where
  len : m.length = t.length
  row : ∀ r ∈ m, r.length = t.length
  fr : ∀ r ∈ m, ∀ p ∈ r, Fr p
theorem TabOk.bd {t : Tab} (h : TabOk t) {r : List (Int × Int)} (hr : r ∈ t) {p : Int × Int} (hp : p ∈ r) : Bd p := by
  have := h.rg r hr p hp
  exact ⟨by omega, by omega, by omega, by omega⟩
end Rt
set_option maxHeartbeats 1000000
namespace Rt
open PySem
variable {W n : Nat} {s : Sto}
@[simp] theorem shp_pD (k : Nat) (p : Int × Int) : shp (k + 1) (pD p) = true := by simp [pD, shp]
@[simp] theorem eqv_pD (p q : Int × Int) : eqv (pD p) (pD q) = (p.1 == q.1 && p.2 == q.2) := by simp [pD, eqv, eqvAll]
@[simp] theorem sub_pD0 (s : Sto) (p : Int × Int) : subD s (pD p) (.int 0) = .ok (.int p.1) s := by simp [pD]
@[simp] theorem sub_pD1 (s : Sto) (p : Int × Int) : subD s (pD p) (.int 1) = .ok (.int p.2) s := by simp [pD]
theorem wp_mapR {a b : Type} {f : D → Sto → Res (Option D)} {φ : a → D} (ψ : b → D) (I : Sto → Prop) (R : a → b → Prop) {l : List a} {Q : List D → Sto → Prop} (hi : I s) (h : ∀ x ∈ l, ∀ s, I s → Wp (f (φ x) s) (fun o s' => ∃ y, o = some (ψ y) ∧ I s' ∧ R x y))
    (k : ∀ ys s', I s' → All2 R l ys → Q (ys.map ψ) s') : Wp (mapR f (l.map φ) s) Q := by
  obtain ⟨ys, s', e, h1, h2⟩ := mapR_inv (f := f) (φ := φ) ψ I R l s hi (fun x hx s hs => by
    obtain ⟨o, s', e, y, rfl, h1, h2⟩ := wp_iff.mp (h x hx s hs)
    exact ⟨y, s', e, h1, h2⟩)
  rw [e]
  exact k ys s' h1 h2
theorem All2.length {a b : Type} {R : a → b → Prop} : ∀ {l : List a} {m : List b}, All2 R l m → m.length = l.length
  | _, _, .nil => rfl
  | _, _, .cons _ t => by simp [All2.length t]
theorem All2.zip {a b : Type} {R : a → b → Prop} (p : b × a → Bool) (h : ∀ x y, R x y → p (y, x) = true) : ∀ {l : List a} {m : List b}, All2 R l m → (m.zip l).all p = true
  | _, _, .nil => rfl
  | _, _, .cons r t => by simp only [List.zip_cons_cons, List.all_cons, h _ _ r, Bool.true_and]; exact All2.zip p h t
theorem All2.right {a b : Type} {R : a → b → Prop} (P : b → Prop) (h : ∀ x y, R x y → P y) : ∀ {l : List a} {m : List b}, All2 R l m → ∀ y ∈ m, P y
  | _, _, .nil, _, hy => by cases hy
  | _, _, .cons r t, y, hy => by
    rcases List.mem_cons.mp hy with rfl | z
    · exact h _ _ r
    · exact All2.right P h t y z
theorem All2.mem_left {a b : Type} {R S : a → b → Prop} : ∀ {l : List a} {m : List b}, All2 R l m → (∀ x ∈ l, ∀ y, R x y → S x y) → All2 S l m
  | _, _, .nil, _ => .nil
  | _, _, .cons r t, h => .cons (h _ (by simp) _ r) (All2.mem_left t fun x hx => h x (by simp [hx]))
def endsP (p : Int × Int) : List Int := if p.1 = p.2 then [p.1] else [p.1, p.2]
def growR (some : List (List Int)) (p : Int × Int) : List (List Int) := some.flatMap fun one => (endsP p).map fun e => one ++ [e]
def rowsC (row : List (Int × Int)) : List (List Int) := row.foldl growR [[]]
def growT (found : List (List (List Int))) (row : List (Int × Int)) : List (List (List Int)) := found.flatMap fun one => (rowsC row).map fun r => one ++ [r]
def cornersL (t : Tab) : List (List (List Int)) := t.foldl growT [[]]
def vecD (l : List Int) : D := .tup (l.map D.int)
def matD (m : List (List Int)) : D := .tup (m.map vecD)
theorem ends_len (p : Int × Int) : (endsP p).length ≤ 2 := by unfold endsP; split <;> simp
theorem flat_len {a b : Type} (f : a → List b) (c : Nat) (h : ∀ x, (f x).length ≤ c) : ∀ l : List a, (l.flatMap f).length ≤ l.length * c
  | [] => by simp
  | x :: l => by
    have := flat_len f c h l
    have := h x
    simp only [List.flatMap_cons, List.length_append, List.length_cons, Nat.add_mul, Nat.one_mul]
    omega
theorem growR_len (l : List (List Int)) (p : Int × Int) : (growR l p).length ≤ l.length * 2 := flat_len _ 2 (fun x => by simp [ends_len]) l
theorem foldR_len : ∀ (row : List (Int × Int)) (l : List (List Int)), (row.foldl growR l).length ≤ l.length * 2 ^ row.length
  | [], l => by simp
  | p :: row, l => by
    have h1 := foldR_len row (growR l p)
    have h2 := Nat.mul_le_mul_right (2 ^ row.length) (growR_len l p)
    simp only [List.foldl_cons, List.length_cons, Nat.pow_succ]
    rw [Nat.mul_comm (2 ^ row.length) 2, ← Nat.mul_assoc]
    omega
theorem rowsC_len (row : List (Int × Int)) (h : row.length ≤ 3) : (rowsC row).length ≤ 8 := by
  have h1 := foldR_len row [[]]
  have h2 : 2 ^ row.length ≤ 2 ^ 3 := Nat.pow_le_pow_right (by decide) h
  unfold rowsC
  simp only [List.length_cons, List.length_nil] at h1
  omega
end Rt
set_option maxHeartbeats 1000000
namespace Rt
open PySem
variable {W n : Nat} {s : Sto}
theorem take_get {a : Type} {l : List a} {k : Nat} {x : a} (h : l[k]? = some x) : l.take (k + 1) = l.take k ++ [x] := by
  rw [List.take_add_one, h]; rfl
theorem map_get {a : Type} {φ : a → D} {l : List a} {k : Nat} {d : D} (h : (l.map φ)[k]? = some d) : ∃ x, l[k]? = some x ∧ d = φ x := by
  rw [List.getElem?_map] at h
  cases z : l[k]? with
  | none => rw [z] at h; cases h
  | some x => rw [z] at h; cases h; exact ⟨x, rfl, rfl⟩
theorem growT_len (found : List (List (List Int))) (row : List (Int × Int)) (h : row.length ≤ 3) : (growT found row).length ≤ found.length * 8 := flat_len _ 8 (fun x => by simpa using rowsC_len row h) found
theorem foldT_len : ∀ (t : Tab) (l : List (List (List Int))), (∀ r ∈ t, r.length ≤ 3) → (t.foldl growT l).length ≤ l.length * 8 ^ t.length
  | [], l, _ => by simp
  | p :: t, l, h => by
    have h1 := foldT_len t (growT l p) (fun r hr => h r (by simp [hr]))
    have h2 := Nat.mul_le_mul_right (8 ^ t.length) (growT_len l p (h p (by simp)))
    simp only [List.foldl_cons, List.length_cons, Nat.pow_succ]
    rw [Nat.mul_comm (8 ^ t.length) 8, ← Nat.mul_assoc]
    omega
/-- a table's shape -/
structure Shp (t : Tab) : Prop where
  hi : t.length ≤ 3
  sq : ∀ row ∈ t, row.length = t.length
theorem TabOk.shp {t : Tab} (h : TabOk t) : Shp t := ⟨h.hi, h.sq⟩
theorem foldT_take (t : Tab) (k : Nat) (h : Shp t) : ((t.take k).foldl growT [[]]).length ≤ 512 := by
  have h1 := foldT_len (t.take k) [[]] (fun r hr => by rw [h.sq r (List.mem_of_mem_take hr)]; exact h.hi)
  have h2 : (t.take k).length ≤ 3 := by rw [List.length_take]; have := h.hi; omega
  have h3 : 8 ^ (t.take k).length ≤ 8 ^ 3 := Nat.pow_le_pow_right (by decide) h2
  simp only [List.length_cons, List.length_nil] at h1
  omega
theorem foldR_take (row : List (Int × Int)) (k : Nat) (h : row.length ≤ 3) : ((row.take k).foldl growR [[]]).length ≤ 8 := by
  have := rowsC_len (row.take k) (by rw [List.length_take]; omega)
  exact this
theorem ends_mem {p : Int × Int} {e : Int} : e ∈ endsP p ↔ e = p.1 ∨ e = p.2 := by
  unfold endsP
  split
  · next h => rw [h]; simp
  · simp
abbrev IsEnd (p : Int × Int) (z : Int) : Prop := z = p.1 ∨ z = p.2
theorem foldR_mem : ∀ (row : List (Int × Int)) (l : List (List Int)) (y : List Int), y ∈ row.foldl growR l ↔ ∃ x ∈ l, ∃ zs, y = x ++ zs ∧ All2 IsEnd row zs
  | [], l, y => by
    simp only [List.foldl_nil]
    constructor
    · intro h; exact ⟨y, h, [], by simp, .nil⟩
    · rintro ⟨x, hx, zs, rfl, h⟩
      cases h
      simpa using hx
  | p :: row, l, y => by
    rw [List.foldl_cons, foldR_mem row (growR l p) y]
    constructor
    · rintro ⟨x, hx, zs, rfl, h⟩
      unfold growR at hx
      simp only [List.mem_flatMap, List.mem_map] at hx
      obtain ⟨one, h1, e, he, rfl⟩ := hx
      exact ⟨one, h1, e :: zs, by simp, .cons (ends_mem.mp he) h⟩
    · rintro ⟨x, hx, zs, rfl, h⟩
      cases h with
      | cons q t =>
        refine ⟨x ++ [_], ?_, _, by simp; rfl, t⟩
        unfold growR
        simp only [List.mem_flatMap, List.mem_map]
        exact ⟨x, hx, _, ends_mem.mpr q, rfl⟩
theorem rowsC_mem {row : List (Int × Int)} {y : List Int} : y ∈ rowsC row ↔ All2 IsEnd row y := by
  unfold rowsC
  rw [foldR_mem]
  constructor
  · rintro ⟨x, hx, zs, rfl, h⟩
    simp at hx; subst hx; exact h
  · intro h; exact ⟨[], by simp, y, rfl, h⟩
theorem foldT_mem : ∀ (t : Tab) (l : List (List (List Int))) (y : List (List Int)), y ∈ t.foldl growT l ↔ ∃ x ∈ l, ∃ zs, y = x ++ zs ∧ All2 (All2 IsEnd) t zs
  | [], l, y => by
    simp only [List.foldl_nil]
    constructor
    · intro h; exact ⟨y, h, [], by simp, .nil⟩
    · rintro ⟨x, hx, zs, rfl, h⟩
      cases h
      simpa using hx
  | p :: row, l, y => by
    rw [List.foldl_cons, foldT_mem row (growT l p) y]
    constructor
    · rintro ⟨x, hx, zs, rfl, h⟩
      unfold growT at hx
      simp only [List.mem_flatMap, List.mem_map] at hx
      obtain ⟨one, h1, e, he, rfl⟩ := hx
      exact ⟨one, h1, e :: zs, by simp, .cons (rowsC_mem.mp he) h⟩
    · rintro ⟨x, hx, zs, rfl, h⟩
      cases h with
      | cons q t =>
        refine ⟨x ++ [_], ?_, _, by simp; rfl, t⟩
        unfold growT
        simp only [List.mem_flatMap, List.mem_map]
        exact ⟨x, hx, _, rowsC_mem.mpr q, rfl⟩
/-- the corners are the choices of ends -/
theorem corners_mem {t : Tab} {y : List (List Int)} : y ∈ cornersL t ↔ All2 (All2 IsEnd) t y := by
  unfold cornersL
  rw [foldT_mem]
  constructor
  · rintro ⟨x, hx, zs, rfl, h⟩
    simp at hx; subst hx; exact h
  · intro h; exact ⟨[], by simp, y, rfl, h⟩
end Rt
set_option maxHeartbeats 1000000
namespace Rt
open PySem
variable {W n : Nat} {s : Sto}
theorem run_as_member (m : List (List Int)) (h1 : m.length ≤ 1000) (h2 : ∀ r ∈ m, r.length ≤ 1000) : run Pd W (n + 1) 31 [matD m] s = .ok (tabD (m.map fun r => r.map fun x => (x, (1 : Int)))) s := by
  rw [call_of (d := c_law_as_member) rfl rfl]
  have e0 := mapR_all (f := itemK (run Pd W n) (.name 1) .none (.bi .tuple (.cons (.comp (.name 2) (.val (.var 1)) .none (.tup (.cons (.var 2) (.cons (.int 1) .nil))) [2]) .nil)) [.val (matD m), .no, .no]) (φ := vecD) (fun r => rowD (r.map fun x => (x, (1 : Int)))) (s := s) (l := m) fun r hr => by
    have hsz : r.length ≤ 1000000 := by have := h2 r hr; omega
    have e1 := mapR_all (f := itemK (run Pd W n) (.name 2) .none (.tup (.cons (.var 2) (.cons (.int 1) .nil))) [.val (matD m), .val (vecD r), .no]) (φ := D.int) (fun x => pD (x, 1)) (s := s) (l := r) fun p hp => by
      simp [itemK, pD]
    simp [vecD] at e1
    simp [itemK, vecD, e1, hsz, rowD, pD]
  have hsz : m.length ≤ 1000000 := by omega
  simp [matD] at e0
  simp [c_law_as_member, matD, e0, hsz, tabD]
end Rt
set_option maxHeartbeats 1000000
namespace Rt
open PySem
variable {W n : Nat} {s : Sto}
def pI1 (s0 : Sto) (pre : Env) (p : Int × Int) (so : List (List Int)) (k : Nat) (r : Env) (s : Sto) : Prop := ∃ x5, r = pre ++ [.val (.lst ((growR (so.take k) p).map vecD)), x5] ∧ s = s0
def pI2 (s0 : Sto) (row : List (Int × Int)) (k : Nat) (r : Env) (s : Sto) : Prop := ∃ x2 x3 x4 x5, r = [.val (rowD row), .val (.lst (((row.take k).foldl growR [[]]).map vecD)), x2, x3, x4, x5] ∧ s = s0
theorem run_rows_of (row : List (Int × Int)) (hr3 : row.length ≤ 3) : run Pd W (n + 1) 33 [rowD row] s = .ok (.lst ((rowsC row).map vecD)) s := by
  have key : Wp (run Pd W (n + 1) 33 [rowD row] s) (fun v s' => v = .lst ((rowsC row).map vecD) ∧ s' = s) := by
    rw [call_of (d := c_rows_of) rfl rfl]
    simp [c_rows_of]
    rw [show valK (rowD row) s = .ok (row.map pD) s from rfl]
    simp
    refine wp_for (pI2 s row) ⟨_, _, _, _, rfl, rfl⟩ (fun j d hd r s2 hI => ?_) (fun r s2 hI => ?_)
    · obtain ⟨x2, x3, x4, x5, rfl, rfl⟩ := hI
      obtain ⟨p, hp, rfl⟩ := map_get hd
      have hsl := foldR_take row j hr3
      generalize hso : (row.take j).foldl growR [[]] = so at hsl
      simp [roundK, pD]
      refine wp_for (pI1 s2 [.val (rowD row), .val (.lst (so.map vecD)), .val (.int p.1), .val (.int p.2)] p so) ⟨_, rfl, rfl⟩ (fun i d hd r s3 hI => ?_) (fun r s3 hI => ?_)
      · obtain ⟨x5, rfl, rfl⟩ := hI
        obtain ⟨one, hone, rfl⟩ := map_get hd
        have hgl : (growR (so.take i) p).length ≤ 16 := by
          have := growR_len (so.take i) p
          have h2 : (so.take i).length ≤ 8 := by rw [List.length_take]; omega
          omega
        have hol : one.length ≤ 100 := by
          have hm : one ∈ (row.take j).foldl growR [[]] := by rw [hso]; exact List.mem_of_getElem? hone
          obtain ⟨x, hx, zs, rfl, hz⟩ := (foldR_mem _ _ _).mp hm
          simp at hx
          subst hx
          have := hz.length
          rw [List.length_take] at this
          simp
          omega
        have fin : ∀ ends : List Int, ends = endsP p → ∀ y5, pI1 s3 [.val (rowD row), .val (.lst (so.map vecD)), .val (.int p.1), .val (.int p.2)] p so (i + 1)
           [.val (rowD row), .val (.lst (so.map vecD)), .val (.int p.1), .val (.int p.2), .val (.lst ((growR (so.take i) p).map vecD ++ ends.map fun e => vecD (one ++ [e]))), y5] s3 := by
          rintro ends rfl y5
          refine ⟨y5, ?_, rfl⟩
          simp [take_get hone, growR, vecD]
        by_cases hpe : p.1 = p.2
        · have e1 : endsP p = [p.1] := by unfold endsP; rw [if_pos hpe]
          have hb : (p.1 == p.2) = true := by simpa using hpe
          have hs1 : one.length + 1 ≤ 1000000 := by omega
          have hs2 : (growR (so.take i) p).length + 1 ≤ 1000000 := by omega
          simp only [roundK, bindT_name, List.append_assoc, List.cons_append, List.nil_append, List.set_cons_succ, List.set_cons_zero]
          simp [itemK, hb, vecD, bin_addT, bin_addL, hs1, hs2]
          simpa [vecD] using fin [p.1] e1.symm _
        · have e1 : endsP p = [p.1, p.2] := by unfold endsP; rw [if_neg hpe]
          have hb : (p.1 == p.2) = false := by simpa using hpe
          have hs1 : one.length + 1 ≤ 1000000 := by omega
          have hs2 : (growR (so.take i) p).length + 2 ≤ 1000000 := by omega
          simp only [roundK, bindT_name, List.append_assoc, List.cons_append, List.nil_append, List.set_cons_succ, List.set_cons_zero]
          simp [itemK, hb, vecD, bin_addT, bin_addL, hs1, hs2]
          simpa [vecD] using fin [p.1, p.2] e1.symm _
      · obtain ⟨x5, rfl, rfl⟩ := hI
        simp
        have e : (row.take (j + 1)).foldl growR [[]] = growR so p := by rw [take_get hp, List.foldl_append, hso]; rfl
        unfold pI2
        rw [e]
        exact ⟨_, _, _, _, rfl, rfl⟩
    · obtain ⟨x2, x3, x4, x5, rfl, rfl⟩ := hI
      simp [rowsC]
  obtain ⟨v, s', e, rfl, rfl⟩ := wp_iff.mp key
  exact e
def pI3 (s0 : Sto) (pre : Env) (found : List (List (List Int))) (row : List (Int × Int)) (k : Nat) (r : Env) (s : Sto) : Prop := ∃ x4 x5, r = pre ++ [.val (.lst ((growT (found.take k) row).map matD)), x4, x5] ∧ s = s0
def pI4 (s0 : Sto) (t : Tab) (k : Nat) (r : Env) (s : Sto) : Prop := ∃ x2 x3 x4 x5, r = [.val (tabD t), .val (.lst (((t.take k).foldl growT [[]]).map matD)), x2, x3, x4, x5] ∧ s = s0
theorem run_corners_of (t : Tab) (ht : Shp t) : run Pd W (n + 2) 34 [tabD t] s = .ok (.lst ((cornersL t).map matD)) s := by
  have key : Wp (run Pd W (n + 2) 34 [tabD t] s) (fun v s' => v = .lst ((cornersL t).map matD) ∧ s' = s) := by
    rw [call_of (d := c_corners_of) rfl rfl]
    simp [c_corners_of]
    rw [show valK (tabD t) s = .ok (t.map rowD) s from rfl]
    simp
    refine wp_for (pI4 s t) ⟨_, _, _, _, rfl, rfl⟩ (fun k d hd r s' hI => ?_) (fun r s' hI => ?_)
    · obtain ⟨x2, x3, x4, x5, rfl, rfl⟩ := hI
      obtain ⟨row, hrow, rfl⟩ := map_get hd
      have hrm : row ∈ t := List.mem_of_getElem? hrow
      have hr3 : row.length ≤ 3 := by rw [ht.sq row hrm]; exact ht.hi
      have hfl := foldT_take t k ht
      have hrl := rowsC_len row hr3
      generalize hfound : (t.take k).foldl growT [[]] = found at hfl
      simp [roundK]
      refine wp_for (pI3 s' [.val (tabD t), .val (.lst (found.map matD)), .val (rowD row)] found row) ⟨_, _, rfl, rfl⟩ (fun j d hd r s3 hI => ?_) (fun r s3 hI => ?_)
      · obtain ⟨x4, x5, rfl, rfl⟩ := hI
        obtain ⟨one, hone, rfl⟩ := map_get hd
        have hgl : (growT (found.take j) row).length ≤ 512 * 8 := by
          have := growT_len (found.take j) row hr3
          have h2 : (found.take j).length ≤ 512 := by rw [List.length_take]; omega
          omega
        have hol : one.length + 1 ≤ 1000000 := by
          have hm : one ∈ (t.take k).foldl growT [[]] := by rw [hfound]; exact List.mem_of_getElem? hone
          obtain ⟨x, hx, zs, rfl, hz⟩ := (foldT_mem _ _ _).mp hm
          simp at hx
          subst hx
          have := hz.length
          have := ht.hi
          rw [List.length_take] at *
          simp
          omega
        have hs1 : (rowsC row).length ≤ 1000000 := by omega
        have hs2 : (growT (found.take j) row).length + (rowsC row).length ≤ 1000000 := by omega
        have e1 := mapR_all (f := itemK (run Pd W (n + 1)) (.name 5) .none (.bin .add (.var 4) (.tup (.cons (.var 5) .nil))) [.val (tabD t), .val (.lst (found.map matD)), .val (rowD row), .val (.lst ((growT (found.take j) row).map matD)), .val (matD one), .no]) (φ := vecD) (fun r => matD (one ++ [r])) (s := s3) (l := rowsC row) fun p hp => by
          simp [itemK, matD, bin_addT, hol]
        simp [roundK, run_rows_of row hr3, e1, hs1, bin_addL, hs2]
        refine ⟨.val (matD one), x5, ?_, rfl⟩
        simp [take_get hone, growT]
      · obtain ⟨x4, x5, rfl, rfl⟩ := hI
        simp
        have e : (t.take (k + 1)).foldl growT [[]] = growT found row := by rw [take_get hrow, List.foldl_append, hfound]; rfl
        unfold pI4
        rw [e]
        exact ⟨_, _, _, _, rfl, rfl⟩
    · obtain ⟨x2, x3, x4, x5, rfl, rfl⟩ := hI
      simp [cornersL]
  obtain ⟨v, s', e, rfl, rfl⟩ := wp_iff.mp key
  exact e
end Rt
set_option maxHeartbeats 1000000
namespace Rt
open PySem
variable {W n : Nat} {s : Sto}
/-- rows as a tuple of tuples, or a list of lists -/
def mkD (b : Bool) (xs : List D) : D := if b then .tup xs else .lst xs
def gmD (b : Bool) (m : List (List Int)) : D := mkD b (m.map fun r => mkD b (r.map D.int))
theorem gm_tup (m : List (List Int)) : gmD true m = matD m := rfl
@[simp] theorem mk_val (b : Bool) (xs : List D) (s : Sto) : valK (mkD b xs) s = .ok xs s := by cases b <;> rfl
@[simp] theorem mk_enum (b : Bool) (xs : List D) (s : Sto) : enumK (mkD b xs) s = .ok (enumD 0 xs) s := by cases b <;> rfl
@[simp] theorem mk_len (b : Bool) (xs : List D) (s : Sto) : biD s .len [mkD b xs] = .ok (.int xs.length) s := by cases b <;> rfl
@[simp] theorem mk_sub (b : Bool) (xs : List D) (i : Int) (s : Sto) : subD s (mkD b xs) (.int i) = atD s xs i := by cases b <;> rfl
theorem enum_erase {a : Type} {f : D → Sto → Res (Option D)} {φ : a → D} (g : a → D) (j : Nat) : ∀ (xs : List a) (k : Nat), (∀ (i : Nat) x, x ∈ xs → f (.tup [.int i, φ x]) s = .ok (if i = j then none else some (g x)) s) → mapR f (enumD k (xs.map φ)) s = .ok ((if k ≤ j then xs.eraseIdx (j - k) else xs).map g) s
  | [], k, _ => by simp [enumD]
  | x :: xs, k, hf => by
    rw [List.map_cons, enumD, mapR_cns, hf k x (by simp), Res.bindN_ok, enum_erase g j xs (k + 1) (fun i y hy => hf i y (by simp [hy])), Res.bindN_ok]
    by_cases h : k = j
    · subst h
      have : ¬ k + 1 ≤ k := by omega
      simp [this]
    · by_cases h2 : k ≤ j
      · have h3 : k + 1 ≤ j := by omega
        have h4 : j - k = (j - (k + 1)) + 1 := by omega
        rw [if_neg h, if_pos h2, if_pos h3, h4]
        simp
      · have h3 : ¬ k + 1 ≤ j := by omega
        rw [if_neg h, if_neg h2, if_neg h3]
        simp
theorem run_minor (b : Bool) (m : List (List Int)) (i j : Nat) (h1 : m.length ≤ 1000) (h2 : ∀ r ∈ m, r.length ≤ 1000) : run Pd W (n + 1) 35 [gmD b m, .int i, .int j] s = .ok (gmD false ((m.eraseIdx i).map fun r => r.eraseIdx j)) s := by
  rw [call_of (d := c_minor) rfl rfl]
  have e0 := enum_erase (s := s) (f := itemK (run Pd W n) (.tup2 (.name 3) (.name 4)) (.some (.cmp .ne (.var 3) (.var 1))) (.comp (.tup2 (.name 5) (.name 6)) (.enum (.var 4)) (.some (.cmp .ne (.var 5) (.var 2))) (.var 6) [5, 6]) [.val (gmD b m), .val (.int i), .val (.int j), .no, .no, .no, .no]) (φ := fun r : List Int => mkD b (r.map D.int)) (fun r => .lst ((r.eraseIdx j).map D.int)) i m 0 (fun k r hr => by
    have e1 := enum_erase (s := s) (f := itemK (run Pd W n) (.tup2 (.name 5) (.name 6)) (.some (.cmp .ne (.var 5) (.var 2))) (.var 6) [.val (gmD b m), .val (.int i), .val (.int j), .val (.int k), .val (mkD b (r.map D.int)), .no, .no]) (φ := D.int) D.int j r 0 (fun k' x _ => by
      by_cases h : k' = j
      · subst h; simp [itemK]
      · have : ((k' : Int) == (j : Int)) = false := by
          have : (k' : Int) ≠ (j : Int) := by omega
          simpa using this
        simp [itemK, this, h])
    have hs : (r.eraseIdx j).length ≤ 1000000 := by
      have := List.length_eraseIdx_le r j
      have := h2 r hr
      omega
    by_cases h : k = i
    · subst h; simp [itemK]
    · have : ((k : Int) == (i : Int)) = false := by
        have : (k : Int) ≠ (i : Int) := by omega
        simpa using this
      simp at e1
      simp [itemK, this, h, e1, hs])
  have hs : (m.eraseIdx i).length ≤ 1000000 := by
    have := List.length_eraseIdx_le m i
    omega
  simp [gmD] at e0
  simp [c_minor, gmD, e0, hs]
  simp [mkD, Function.comp]
def detM : List (List Int) → Int
  | [] => 1
  | [[a]] => a
  | [[a, b], [c, d]] => a * d - b * c
  | [[a, b, c], [d, e, f], [g, h, i]] => a * (e * i - f * h) - b * (d * i - f * g) + c * (d * h - e * g)
  | _ => 0
/-- entries that may be multiplied -/
def Ent64 (m : List (List Int)) : Prop := ∀ r ∈ m, ∀ x ∈ r, x.natAbs < 2 ^ 63
theorem run_det1 (b : Bool) (a : Int) : run Pd W (n + 1) 36 [gmD b [[a]]] s = .ok (.int a) s := by
  rw [call_of (d := c_determinant_of) rfl rfl]
  simp [c_determinant_of, gmD]
theorem mul1 (s : Sto) (x : Int) : binD s .mul (.int 1) (.int x) = .ok (.int x) s := by
  rw [mul_ok s (Or.inl (by decide)), Int.one_mul]
theorem muln1 (s : Sto) (x : Int) : binD s .mul (.int (-1)) (.int x) = .ok (.int (-x)) s := by
  rw [mul_ok s (Or.inl (by decide)), Int.neg_one_mul]
theorem run_det2 (t : Bool) (a b c d : Int) (ha : a.natAbs < 2 ^ 63) (hb : b.natAbs < 2 ^ 63) : run Pd W (n + 2) 36 [gmD t [[a, b], [c, d]]] s = .ok (.int (a * d - b * c)) s := by
  rw [call_of (d := c_determinant_of) rfl rfl]
  have m0 := run_minor (W := W) (n := n) (s := s) t [[a, b], [c, d]] 0 0 (by simp) (by simp)
  have m1 := run_minor (W := W) (n := n) (s := s) t [[a, b], [c, d]] 0 1 (by simp) (by simp)
  have d0 := run_det1 (W := W) (n := n) (s := s) false d
  have d1 := run_det1 (W := W) (n := n) (s := s) false c
  have hb' : (-b).natAbs < 2 ^ 64 := by omega
  simp [gmD] at m0 m1 d0 d1
  simp [c_determinant_of, gmD, enumD, forR, roundK, mul1, muln1, m0, m1, d0, d1, mul_ok s (Or.inl (show a.natAbs < 2 ^ 64 by omega)), mul_ok s (Or.inl hb')]
  rw [Int.neg_mul]; omega
theorem run_det3 (t : Bool) (a b c d e f g h i : Int) (H : Ent64 [[a, b, c], [d, e, f], [g, h, i]]) : run Pd W (n + 3) 36 [gmD t [[a, b, c], [d, e, f], [g, h, i]]] s = .ok (.int (a * (e * i - f * h) - b * (d * i - f * g) + c * (d * h - e * g))) s := by
  have H1 := H [a, b, c] (by simp)
  have H2 := H [d, e, f] (by simp)
  have ha := H1 a (by simp)
  have hb := H1 b (by simp)
  have hc := H1 c (by simp)
  have hd := H2 d (by simp)
  have he := H2 e (by simp)
  have hf := H2 f (by simp)
  rw [call_of (d := c_determinant_of) rfl rfl]
  have m0 := run_minor (W := W) (n := n + 1) (s := s) t [[a, b, c], [d, e, f], [g, h, i]] 0 0 (by simp) (by simp)
  have m1 := run_minor (W := W) (n := n + 1) (s := s) t [[a, b, c], [d, e, f], [g, h, i]] 0 1 (by simp) (by simp)
  have m2 := run_minor (W := W) (n := n + 1) (s := s) t [[a, b, c], [d, e, f], [g, h, i]] 0 2 (by simp) (by simp)
  have d0 := run_det2 (W := W) (n := n) (s := s) false e f h i he hf
  have d1 := run_det2 (W := W) (n := n) (s := s) false d f g i hd hf
  have d2 := run_det2 (W := W) (n := n) (s := s) false d e g h hd he
  have hb' : (-b).natAbs < 2 ^ 64 := by omega
  simp [gmD] at m0 m1 m2 d0 d1 d2
  simp [c_determinant_of, gmD, enumD, forR, roundK, mul1, muln1, m0, m1, m2, d0, d1, d2, mul_ok s (Or.inl (show a.natAbs < 2 ^ 64 by omega)), mul_ok s (Or.inl hb'), mul_ok s (Or.inl (show c.natAbs < 2 ^ 64 by omega))]
  rw [Int.neg_mul]; omega
/-- a square of at most three rows -/
structure SqM (m : List (List Int)) : Prop where
  hi : m.length ≤ 3
  sq : ∀ r ∈ m, r.length = m.length
theorem sq_cases {m : List (List Int)} (h : SqM m) : m = [] ∨ (∃ a, m = [[a]]) ∨ (∃ a b c d, m = [[a, b], [c, d]]) ∨ ∃ a b c d e f g h i, m = [[a, b, c], [d, e, f], [g, h, i]] := by
  have hi := h.hi
  have sq := h.sq
  match m, hi, sq with
  | [], _, _ => exact .inl rfl
  | [r], _, sq =>
    have := sq r (by simp)
    match r, this with
    | [a], _ => exact .inr (.inl ⟨a, rfl⟩)
  | [r, q], _, sq =>
    have h1 := sq r (by simp)
    have h2 := sq q (by simp)
    match r, h1, q, h2 with
    | [a, b], _, [c, d], _ => exact .inr (.inr (.inl ⟨a, b, c, d, rfl⟩))
  | [r, q, z], _, sq =>
    have h1 := sq r (by simp)
    have h2 := sq q (by simp)
    have h3 := sq z (by simp)
    match r, h1, q, h2, z, h3 with
    | [a, b, c], _, [d, e, f], _, [g, h, i], _ => exact .inr (.inr (.inr ⟨a, b, c, d, e, f, g, h, i, rfl⟩))
  | _ :: _ :: _ :: _ :: _, h, _ => simp at h
theorem run_det (b : Bool) (m : List (List Int)) (h : SqM m) (H : Ent64 m) : run Pd W (n + 3) 36 [gmD b m] s = .ok (.int (detM m)) s := by
  rcases sq_cases h with rfl | ⟨a, rfl⟩ | ⟨a, b, c, d, rfl⟩ | ⟨a, b, c, d, e, f, g, h', i, rfl⟩
  · rw [call_of (d := c_determinant_of) rfl rfl]
    simp [c_determinant_of, gmD, detM]
  · exact run_det1 b a
  · exact run_det2 _ a b c d (H [a, b] (by simp) a (by simp)) (H [a, b] (by simp) b (by simp))
  · exact run_det3 _ a b c d e f g h' i H
theorem run_ldet (m : List (List Int)) (h : SqM m) (h1 : 1 ≤ m.length) (H : Ent64 m) : run Pd W (n + 1) 44 [matD m] s = .ok (.int (detM m)) s := by
  rw [call_of (d := c_law_det) rfl rfl]
  rcases sq_cases h with rfl | ⟨a, rfl⟩ | ⟨a, b, c, d, rfl⟩ | ⟨a, b, c, d, e, f, g, h, i, rfl⟩
  · simp at h1
  · simp [c_law_det, matD, vecD, detM]
  · have ha := H [a, b] (by simp) a (by simp)
    have hb := H [a, b] (by simp) b (by simp)
    simp [c_law_det, matD, vecD, detM, mul_ok s (Or.inl (show a.natAbs < 2 ^ 64 by omega)), mul_ok s (Or.inl (show b.natAbs < 2 ^ 64 by omega))]
  · have H1 := H [a, b, c] (by simp)
    have H2 := H [d, e, f] (by simp)
    have ha := H1 a (by simp)
    have hb := H1 b (by simp)
    have hc := H1 c (by simp)
    have hd := H2 d (by simp)
    have he := H2 e (by simp)
    have hf := H2 f (by simp)
    simp [c_law_det, matD, vecD, detM, mul_ok s (Or.inl (show a.natAbs < 2 ^ 64 by omega)), mul_ok s (Or.inl (show b.natAbs < 2 ^ 64 by omega)), mul_ok s (Or.inl (show c.natAbs < 2 ^ 64 by omega)), mul_ok s (Or.inl (show d.natAbs < 2 ^ 64 by omega)), mul_ok s (Or.inl (show e.natAbs < 2 ^ 64 by omega)), mul_ok s (Or.inl (show f.natAbs < 2 ^ 64 by omega))]
end Rt
set_option maxHeartbeats 1000000
namespace Rt
open PySem
variable {W n : Nat} {s : Sto}
def BdT (t : Tab) : Prop := ∀ row ∈ t, ∀ p ∈ row, Bd p
theorem TabOk.bdT {t : Tab} (h : TabOk t) : BdT t := fun _ hr _ hp => h.bd hr hp
theorem corner_len {t : Tab} {c : List (List Int)} (h : c ∈ cornersL t) : c.length = t.length := (corners_mem.mp h).length
theorem corner_sq {t : Tab} (ht : Shp t) {c : List (List Int)} (h : c ∈ cornersL t) : SqM c := by
  have h1 := corners_mem.mp h
  have hl := h1.length
  have h2 := All2.mem_left (S := fun bs r => r.length = t.length) h1 fun bs hb r hr => by rw [hr.length]; exact ht.sq bs hb
  exact ⟨by rw [hl]; exact ht.hi, fun r hr => by rw [hl]; exact All2.right (fun y => y.length = t.length) (fun x y r => r) h2 r hr⟩
theorem corner_64 {t : Tab} (hb : BdT t) {c : List (List Int)} (h : c ∈ cornersL t) : Ent64 c := by
  have h1 := corners_mem.mp h
  have h2 := All2.mem_left (S := fun bs r => ∀ x ∈ r, x.natAbs < 2 ^ 63) h1 fun bs hbs r hr => by
    have h3 := All2.mem_left (S := fun b x => x.natAbs < 2 ^ 63) hr fun b hbb x hx => by
      have := hb bs hbs b hbb
      have h4 := this.a1; have h5 := this.a2; have h6 := this.b1; have h7 := this.b2
      rcases hx with rfl | rfl <;> omega
    exact All2.right (fun y : Int => y.natAbs < 2 ^ 63) (fun x y r => r) h3
  exact All2.right (fun y : List Int => ∀ x ∈ y, x.natAbs < 2 ^ 63) (fun x y r => r) h2
theorem ends_row : ∀ r : List (Int × Int), All2 IsEnd r (r.map fun p => p.1)
  | [] => .nil
  | p :: r => .cons (.inl rfl) (ends_row r)
theorem ends_tab : ∀ t : Tab, All2 (All2 IsEnd) t (t.map fun r => r.map fun p => p.1)
  | [] => .nil
  | r :: t => .cons (ends_row r) (ends_tab t)
theorem corners_ne (t : Tab) : cornersL t ≠ [] := by
  intro h
  have := corners_mem.mpr (ends_tab t)
  rw [h] at this
  cases this
theorem corners_small {t : Tab} (ht : Shp t) : (cornersL t).length ≤ 512 := by
  have := foldT_take t t.length ht
  rw [List.take_length] at this
  exact this
def valD (c : List (List Int)) : D := .tup [.int (detM c), matD c]
theorem run_with_values (t : Tab) (ht : Shp t) (hb : BdT t) : run Pd W (n + 4) 37 [tabD t] s = .ok (.lst ((cornersL t).map valD)) s := by
  rw [call_of (d := c_with_values) rfl rfl]
  have hsz : (cornersL t).length ≤ 1000000 := by have := corners_small ht; omega
  have e1 := mapR_all (f := itemK (run Pd W (n + 3)) (.name 1) .none (.tup (.cons (.call 36 (.cons (.var 1) .nil)) (.cons (.var 1) .nil))) [.val (tabD t), .no]) (φ := matD) valD (s := s) (l := cornersL t) fun c hc => by
    have := run_det (W := W) (n := n) (s := s) true c (corner_sq ht hc) (corner_64 hb hc)
    rw [gm_tup] at this
    simp [itemK, this, valD]
  simp [c_with_values, run_corners_of t ht, e1, hsz]
def minV : List Int → Int
  | [] => 0
  | x :: r => minL x r
def maxV : List Int → Int
  | [] => 0
  | x :: r => maxL x r
def vals (t : Tab) : List Int := (cornersL t).map detM
theorem minL_le : ∀ (r : List Int) (x : Int), minL x r ≤ x ∧ (∀ y ∈ r, minL x r ≤ y) ∧ (minL x r = x ∨ minL x r ∈ r)
  | [], x => by simp [minL]
  | y :: r, x => by
    rw [minL]
    obtain ⟨h1, h2, h3⟩ := minL_le r (if y < x then y else x)
    by_cases z : y < x
    · rw [if_pos z] at h1 h2 h3 ⊢
      refine ⟨by omega, fun z hz => ?_, ?_⟩
      · rcases List.mem_cons.mp hz with rfl | hz
        · exact h1
        · exact h2 z hz
      · rcases h3 with h3 | h3
        · exact .inr (by rw [h3]; simp)
        · exact .inr (by simp [h3])
    · rw [if_neg z] at h1 h2 h3 ⊢
      refine ⟨h1, fun z hz => ?_, ?_⟩
      · rcases List.mem_cons.mp hz with rfl | hz
        · omega
        · exact h2 z hz
      · rcases h3 with h3 | h3
        · exact .inl h3
        · exact .inr (by simp [h3])
theorem maxL_le : ∀ (r : List Int) (x : Int), x ≤ maxL x r ∧ (∀ y ∈ r, y ≤ maxL x r) ∧ (maxL x r = x ∨ maxL x r ∈ r)
  | [], x => by simp [maxL]
  | y :: r, x => by
    rw [maxL]
    obtain ⟨h1, h2, h3⟩ := maxL_le r (if y > x then y else x)
    by_cases z : y > x
    · rw [if_pos z] at h1 h2 h3 ⊢
      refine ⟨by omega, fun z hz => ?_, ?_⟩
      · rcases List.mem_cons.mp hz with rfl | hz
        · exact h1
        · exact h2 z hz
      · rcases h3 with h3 | h3
        · exact .inr (by rw [h3]; simp)
        · exact .inr (by simp [h3])
    · rw [if_neg z] at h1 h2 h3 ⊢
      refine ⟨h1, fun z hz => ?_, ?_⟩
      · rcases List.mem_cons.mp hz with rfl | hz
        · omega
        · exact h2 z hz
      · rcases h3 with h3 | h3
        · exact .inl h3
        · exact .inr (by simp [h3])
theorem minV_mem {l : List Int} (h : l ≠ []) : minV l ∈ l := by
  cases l with
  | nil => exact absurd rfl h
  | cons x r =>
    rcases (minL_le r x).2.2 with z | z
    · show minL x r ∈ _; rw [z]; simp
    · exact List.mem_cons_of_mem _ z
theorem minV_le {l : List Int} {y : Int} (h : y ∈ l) : minV l ≤ y := by
  cases l with
  | nil => cases h
  | cons x r =>
    rcases List.mem_cons.mp h with rfl | z
    · exact (minL_le r _).1
    · exact (minL_le r _).2.1 y z
theorem maxV_mem {l : List Int} (h : l ≠ []) : maxV l ∈ l := by
  cases l with
  | nil => exact absurd rfl h
  | cons x r =>
    rcases (maxL_le r x).2.2 with z | z
    · show maxL x r ∈ _; rw [z]; simp
    · exact List.mem_cons_of_mem _ z
theorem le_maxV {l : List Int} {y : Int} (h : y ∈ l) : y ≤ maxV l := by
  cases l with
  | nil => cases h
  | cons x r =>
    rcases List.mem_cons.mp h with rfl | z
    · exact (maxL_le r _).1
    · exact (maxL_le r _).2.1 y z
theorem vals_ne (t : Tab) : vals t ≠ [] := by simp [vals, corners_ne]
/-- least and greatest of ints, as data -/
theorem bi_minV (s : Sto) {a : Type} (f : a → Int) {l : List a} (h : l ≠ []) : biD s .min1 [.lst (l.map fun x => .int (f x))] = .ok (.int (minV (l.map f))) s := by
  rw [bi_min1, intsD_map, ofI_some]
  cases l with
  | nil => exact absurd rfl h
  | cons x r => rfl
theorem bi_maxV (s : Sto) {a : Type} (f : a → Int) {l : List a} (h : l ≠ []) : biD s .max1 [.lst (l.map fun x => .int (f x))] = .ok (.int (maxV (l.map f))) s := by
  rw [bi_max1, intsD_map, ofI_some]
  cases l with
  | nil => exact absurd rfl h
  | cons x r => rfl
theorem run_ends_of (t : Tab) (ht : Shp t) (hb : BdT t) : run Pd W (n + 5) 38 [tabD t] s = .ok (.tup [.int (minV (vals t)), .int (maxV (vals t))]) s := by
  rw [call_of (d := c_ends_of) rfl rfl]
  have hsz : (cornersL t).length ≤ 1000000 := by have := corners_small ht; omega
  have e1 := mapR_all (f := itemK (run Pd W (n + 4)) (.tup2 (.name 2) (.name 3)) .none (.var 2) [.val (tabD t), .no, .no, .no]) (φ := valD) (fun c => .int (detM c)) (s := s) (l := cornersL t) fun c hc => by
    simp [itemK, valD]
  have b1 := bi_minV s detM (corners_ne t)
  have b2 := bi_maxV s detM (corners_ne t)
  simp only [bi_min1] at b1
  simp only [bi_max1] at b2
  simp [c_ends_of, run_with_values t ht hb, e1, hsz, b1, b2, vals]
theorem run_determinant_range (t : Tab) (ht : TabOk t) : run Pd W (n + 7) 39 [tabD t] s = .ok (.tup [.int (minV (vals t)), .int (maxV (vals t))]) s := by
  rw [call_of (d := c_determinant_range) rfl rfl]
  simp [c_determinant_range, run_need_table t ht, run_ends_of t ht.shp ht.bdT]
theorem mapR_filter {a : Type} {f : D → Sto → Res (Option D)} {φ g : a → D} (p : a → Bool) {l : List a} (h : ∀ x ∈ l, f (φ x) s = .ok (if p x then some (g x) else none) s) : mapR f (l.map φ) s = .ok ((l.filter p).map g) s := by
  rw [mapR_eq (fun x => if p x then some (g x) else none) h]
  congr 1
  induction l with
  | nil => rfl
  | cons x l ih =>
    rw [List.filterMap_cons]
    by_cases z : p x = true
    · simp [z, ih (fun y hy => h y (by simp [hy]))]
    · simp [z, ih (fun y hy => h y (by simp [hy]))]
/-- the first corner with a value -/
def headM : List (List (List Int)) → List (List Int)
  | [] => []
  | x :: _ => x
def firstC (t : Tab) (v : Int) : List (List Int) := headM ((cornersL t).filter fun c => detM c == v)
theorem run_corner_with (t : Tab) (ht : Shp t) (hb : BdT t) (v : Int) (hv : v ∈ vals t) : run Pd W (n + 5) 40 [tabD t, .int v] s = .ok (matD (firstC t v)) s := by
  rw [call_of (d := c_corner_with) rfl rfl]
  have e1 := mapR_filter (s := s) (f := itemK (run Pd W (n + 4)) (.tup2 (.name 2) (.name 3)) (.some (.cmp .eq (.var 2) (.var 1))) (.var 3) [.val (tabD t), .val (.int v), .no, .no]) (φ := valD) (g := matD) (fun c => detM c == v) (l := cornersL t) fun c hc => by
    cases z : (detM c == v) <;> simp [itemK, valD, z]
  have hsz : ((cornersL t).filter fun c => detM c == v).length ≤ 1000000 := by
    have := corners_small ht
    have := List.length_filter_le (fun c => detM c == v) (cornersL t)
    omega
  obtain ⟨c, hc, hcv⟩ := List.mem_map.mp hv
  have hne : c ∈ (cornersL t).filter fun c => detM c == v := by simp [hc, hcv]
  unfold firstC
  simp [c_corner_with, run_with_values t ht hb, e1, hsz]
  generalize (cornersL t).filter (fun c => detM c == v) = l at *
  cases l with
  | nil => cases hne
  | cons x l => simp [headM]
theorem firstC_mem {t : Tab} {v : Int} (hv : v ∈ vals t) : firstC t v ∈ cornersL t ∧ detM (firstC t v) = v := by
  obtain ⟨c, hc, hcv⟩ := List.mem_map.mp hv
  have hne : c ∈ (cornersL t).filter fun c => detM c == v := by simp [hc, hcv]
  have hin : firstC t v ∈ (cornersL t).filter fun c => detM c == v := by
    unfold firstC
    generalize (cornersL t).filter (fun c => detM c == v) = l at *
    cases l with
    | nil => cases hne
    | cons x l => simp [headM]
  have := List.mem_filter.mp hin
  exact ⟨this.1, by simpa using this.2⟩
theorem run_least_corner (t : Tab) (ht : TabOk t) : run Pd W (n + 7) 41 [tabD t] s = .ok (matD (firstC t (minV (vals t)))) s := by
  rw [call_of (d := c_least_corner) rfl rfl]
  simp [c_least_corner, run_need_table t ht, run_ends_of t ht.shp ht.bdT, run_corner_with t ht.shp ht.bdT _ (minV_mem (vals_ne t))]
theorem run_greatest_corner (t : Tab) (ht : TabOk t) : run Pd W (n + 7) 42 [tabD t] s = .ok (matD (firstC t (maxV (vals t)))) s := by
  rw [call_of (d := c_greatest_corner) rfl rfl]
  simp [c_greatest_corner, run_need_table t ht, run_ends_of t ht.shp ht.bdT, run_corner_with t ht.shp ht.bdT _ (maxV_mem (vals_ne t))]
theorem run_are_invertible (t : Tab) (ht : Shp t) (hb : BdT t) : run Pd W (n + 6) 56 [tabD t] s = .ok (.bl (decide (0 < minV (vals t)) || decide (maxV (vals t) < 0))) s := by
  rw [call_of (d := c_are_invertible) rfl rfl]
  by_cases z : 0 < minV (vals t) <;> simp [c_are_invertible, run_ends_of t ht hb, z]
theorem run_all_invertible (t : Tab) (ht : TabOk t) : run Pd W (n + 7) 57 [tabD t] s = .ok (.bl (decide (0 < minV (vals t)) || decide (maxV (vals t) < 0))) s := by
  rw [call_of (d := c_all_invertible) rfl rfl]
  simp [c_all_invertible, run_need_table t ht, run_are_invertible t ht.shp ht.bdT]
end Rt
set_option maxHeartbeats 2000000
namespace Rt
open PySem
def d3 (a b c d e f g h i : Int) : Int := a * (e * i - f * h) - b * (d * i - f * g) + c * (d * h - e * g)
end Rt
set_option maxHeartbeats 2000000
set_option maxHeartbeats 2000000
set_option maxHeartbeats 2000000
set_option maxHeartbeats 2000000
set_option maxHeartbeats 2000000
namespace Rt
open PySem
variable {W n : Nat} {s : Sto}
def invB (t : Tab) : Bool := decide (0 < minV (vals t)) || decide (maxV (vals t) < 0)
theorem run_inv (t : Tab) (ht : Shp t) (hb : BdT t) : run Pd W (n + 6) 56 [tabD t] s = .ok (.bl (invB t)) s := run_are_invertible t ht hb
end Rt
set_option maxHeartbeats 1000000
namespace Rt
open PySem
variable {W n : Nat} {s : Sto}
theorem cut_take (xs : List D) (j : Nat) : cutD xs none (some (j : Int)) = xs.take j := by
  unfold cutD partD
  have : ¬ (j : Int) < 0 := by omega
  simp only [if_neg this, List.drop_zero, Int.toNat_natCast, Nat.sub_zero]
  rw [List.take_eq_take_iff]
  omega
theorem cut_drop (xs : List D) (j : Nat) : cutD xs (some ((j : Int) + 1)) none = xs.drop (j + 1) := by
  unfold cutD partD
  have h1 : ¬ ((j : Int) + 1) < 0 := by omega
  have h2 : ((j : Int) + 1).toNat = j + 1 := by omega
  simp only [if_neg h1, h2]
  by_cases z : j + 1 ≤ xs.length
  · rw [Nat.min_eq_left z, List.take_of_length_le (by simp)]
  · rw [Nat.min_eq_right (by omega), List.drop_of_length_le (by omega), List.drop_of_length_le (by omega)]
    simp
theorem set_parts {a : Type} (l : List a) (j : Nat) (y : a) (h : j < l.length) : l.take j ++ (y :: l.drop (j + 1)) = l.set j y := by
  rw [List.set_eq_take_append_cons_drop, if_pos h]
theorem MemOk.set {t m : Tab} (h : MemOk t m) (i j : Nat) (p : Int × Int) (hp : Fr p) (row : List (Int × Int)) (hr : row ∈ m) : MemOk t (m.set i (row.set j p)) := by
  refine ⟨by rw [List.length_set]; exact h.len, fun r hr' => ?_, fun r hr' q hq => ?_⟩
  · rcases List.mem_or_eq_of_mem_set hr' with z | z
    · exact h.row r z
    · rw [z, List.length_set]; exact h.row row hr
  · rcases List.mem_or_eq_of_mem_set hr' with z | z
    · exact h.fr r z q hq
    · rw [z] at hq
      rcases List.mem_or_eq_of_mem_set hq with y | y
      · exact h.fr row hr q y
      · rw [y]; exact hp
theorem put3 (s : Sto) (xs : List D) (b : Nat) (y : D) (hb : b < xs.length) (h : xs.length ≤ 1000) : binD s .add (.tup (cutD xs none (some (b : Int)))) (.tup [y]) = .ok (.tup (xs.take b ++ [y])) s ∧
    binD s .add (.tup (xs.take b ++ [y])) (.tup (cutD xs (some ((b : Int) + 1)) none)) = .ok (.tup (xs.set b y)) s := by
  constructor
  · rw [bin_addT, cut_take, if_pos]
    simp; omega
  · rw [bin_addT, cut_drop, if_pos, List.append_assoc, List.singleton_append, set_parts _ _ _ hb]
    simp; omega
end Rt
set_option maxHeartbeats 1000000
namespace Rt
open PySem
section
variable {F : Nat → List D → Sto → Res D} {W : Nat} {r : Env} {s : Sto}
/-- what is done behind a statement -/
def seqE (F : Nat → List D → Sto → Res D) (W : Nat) (b : Ss) (Q : Flow → Sto → Prop) (fl : Flow) (s : Sto) : Prop := match fl with
  | .next r => Wp (execs F W b r s) Q
  | .ret d => Q (.ret d) s
@[simp] theorem seqE_next (b : Ss) (Q : Flow → Sto → Prop) : seqE F W b Q (.next r) s = Wp (execs F W b r s) Q := rfl
@[simp] theorem seqE_ret (b : Ss) (Q : Flow → Sto → Prop) (d : D) : seqE F W b Q (.ret d) s = Q (.ret d) s := rfl
@[simp ↓] theorem wp_execs_cons (a : S) (b : Ss) (Q : Flow → Sto → Prop) : Wp (execs F W (.cons a b) r s) Q = Wp (exec F W a r s) (seqE F W b Q) := by
  rw [execs_cons, wp_seq]
  congr 1
@[simp ↓] theorem wp_outE (x : Res Flow) (Q : D → Sto → Prop) : Wp (outK x) Q = Wp x (outP Q) := wp_out x Q
def roundP (F : Nat → List D → Sto → Res D) (W : Nat) (b : Ss) (Q : Flow → Sto → Prop) (s : Sto) (o : Option Env) : Prop := match o with
  | some r => Wp (execs F W b r s) Q
  | none => False
@[simp] theorem roundP_some (b : Ss) (Q : Flow → Sto → Prop) : roundP F W b Q s (some r) = Wp (execs F W b r s) Q := rfl
@[simp ↓] theorem wp_roundK (tg : Tg) (b : Ss) (d : D) (Q : Flow → Sto → Prop) : Wp (roundK F W tg b d r s) Q = roundP F W b Q s (bindT tg d r) := by
  unfold roundK roundP
  cases bindT tg d r <;> rfl
/-- a test -/
def tstP (Q : Bool → Sto → Prop) (d : D) (s : Sto) : Prop := match d with
  | .bl b => Q b s
  | .int i => Q (i != 0) s
  | _ => False
@[simp] theorem tstP_bl (Q : Bool → Sto → Prop) (b : Bool) : tstP Q (.bl b) s = Q b s := rfl
@[simp] theorem tstP_int (Q : Bool → Sto → Prop) (b : Int) : tstP Q (.int b) s = Q (b != 0) s := rfl
theorem wp_tst (x : Res D) (Q : Bool → Sto → Prop) : Wp (tst x) Q = Wp x (tstP Q) := by
  cases x with
  | ok d s => cases d <;> rfl
  | exc c s => rfl
  | bad => rfl
def ifE (F : Nat → List D → Sto → Res D) (W : Nat) (a b : Ss) (r : Env) (Q : Flow → Sto → Prop) (k : Bool) (s : Sto) : Prop := if k then Wp (execs F W a r s) Q else Wp (execs F W b r s) Q
@[simp] theorem ifE_true (a b : Ss) (Q : Flow → Sto → Prop) : ifE F W a b r Q true s = Wp (execs F W a r s) Q := rfl
@[simp] theorem ifE_false (a b : Ss) (Q : Flow → Sto → Prop) : ifE F W a b r Q false s = Wp (execs F W b r s) Q := rfl
@[simp ↓] theorem wp_ifs (c : E) (a b : Ss) (Q : Flow → Sto → Prop) : Wp (exec F W (.ifs c a b) r s) Q = Wp (ev F c r s) (tstP (ifE F W a b r Q)) := by
  rw [exec_ifs, wp_bind, wp_tst]
  congr 1
  funext d s
  cases d <;> first | rfl | (simp only [tstP, ifE]; split <;> rfl)
def forE (F : Nat → List D → Sto → Res D) (W : Nat) (tg : Tg) (b : Ss) (r : Env) (Q : Flow → Sto → Prop) (ds : List D) (s : Sto) : Prop := Wp (forR (roundK F W tg b) ds r s) Q
@[simp ↓] theorem wp_fors (tg : Tg) (it : It) (b : Ss) (Q : Flow → Sto → Prop) : Wp (exec F W (.fors tg it b) r s) Q = Wp (evi F it r s) (forE F W tg b r Q) := by
  rw [exec_fors, wp_bind]
  rfl
/-- as for_of, over data that come of a list -/
theorem for_map {a : Type} {φ : a → D} {l : List a} {tg : Tg} {b : Ss} {Q : Flow → Sto → Prop} (I : Nat → Env → Sto → Prop) (h0 : I 0 r s)
    (st : ∀ k x, l[k]? = some x → ∀ r s, I k r s → Wp (roundK F W tg b (φ x) r s) (loopP (I (k + 1)) Q)) (fin : ∀ r s, I l.length r s → Q (.next r) s) : forE F W tg b r Q (l.map φ) s :=
  wp_for I h0 (fun k d hd r s hI => by obtain ⟨x, hx, rfl⟩ := map_get hd; exact st k x hx r s hI) (fun r s h => fin r s (by rw [List.length_map] at h; exact h))
@[simp] theorem forE_nil (tg : Tg) (b : Ss) (Q : Flow → Sto → Prop) : forE F W tg b r Q [] s = Q (.next r) s := rfl
/-- on, round by round -/
def forP (F : Nat → List D → Sto → Res D) (W : Nat) (tg : Tg) (b : Ss) (Q : Flow → Sto → Prop) (ds : List D) (fl : Flow) (s : Sto) : Prop := match fl with
  | .next r => forE F W tg b r Q ds s
  | .ret d => Q (.ret d) s
@[simp] theorem forP_next (tg : Tg) (b : Ss) (Q : Flow → Sto → Prop) (ds : List D) : forP F W tg b Q ds (.next r) s = forE F W tg b r Q ds s := rfl
@[simp] theorem forP_ret (tg : Tg) (b : Ss) (Q : Flow → Sto → Prop) (ds : List D) (d : D) : forP F W tg b Q ds (.ret d) s = Q (.ret d) s := rfl
theorem forE_cons (tg : Tg) (b : Ss) (Q : Flow → Sto → Prop) (d : D) (ds : List D) : forE F W tg b r Q (d :: ds) s = Wp (roundK F W tg b d r s) (forP F W tg b Q ds) := by
  unfold forE
  rw [forR, wp_seq]
  congr 1
theorem ok_of {a : Type} {x : Res a} {v : a} (h : Wp x (fun v' s' => v' = v ∧ s' = s)) : x = .ok v s := by
  obtain ⟨v, s', e, rfl, rfl⟩ := wp_iff.mp h
  exact e
@[simp] theorem wp_bad {a : Type} (Q : a → Sto → Prop) : Wp (.bad : Res a) Q = False := rfl
@[simp] theorem wp_exc {a : Type} (c : Nat) (Q : a → Sto → Prop) : Wp (.exc c s : Res a) Q = False := rfl
@[simp] theorem wp_itep {a : Type} (p : Prop) [Decidable p] (x y : Res a) (Q : a → Sto → Prop) : Wp (if p then x else y) Q = if p then Wp x Q else Wp y Q := by split <;> rfl
def negK (x : D) (s : Sto) : Res D := match x with | .int i => .ok (.int (-i)) s | _ => .bad
@[simp] theorem negK_int (i : Int) : negK (.int i) s = .ok (.int (-i)) s := rfl
@[simp high] theorem ev_negK (a : E) : ev F (.neg a) r s = (ev F a r s).bind negK := ev_neg F r s a
def notK (x : D) (s : Sto) : Res D := match x with | .bl b => .ok (.bl (!b)) s | _ => .bad
@[simp] theorem notK_bl (b : Bool) : notK (.bl b) s = .ok (.bl (!b)) s := rfl
@[simp high] theorem ev_notK (a : E) : ev F (.not a) r s = (ev F a r s).bind notK := ev_not F r s a
@[simp] theorem cmp_isn (x : D) : cmpD s .isn x .non = .ok (.bl (isNon x)) s := rfl
@[simp] theorem cmp_notn (x : D) : cmpD s .notn x .non = .ok (.bl (!isNon x)) s := rfl
@[simp] theorem isNon_non : isNon .non = true := rfl
@[simp] theorem isNon_int (i : Int) : isNon (.int i) = false := rfl
@[simp] theorem isNon_tup (i : List D) : isNon (.tup i) = false := rfl
end
@[simp] theorem eqv_bl (a b : Bool) : eqv (.bl a) (.bl b) = (a == b) := by rw [eqv]
@[simp] theorem eqv_non : eqv .non .non = true := by rw [eqv]
@[simp] theorem eqv_str (a b : Str) : eqv (.str a) (.str b) = (a == b) := by rw [eqv]
@[simp] theorem eqv_tup (a b : List D) : eqv (.tup a) (.tup b) = eqvAll a b := by rw [eqv]
@[simp] theorem eqv_lst (a b : List D) : eqv (.lst a) (.lst b) = eqvAll a b := by rw [eqv]
@[simp] theorem eqvAll_nil : eqvAll [] [] = true := by rw [eqvAll]
@[simp] theorem eqvAll_cons (x y : D) (a b : List D) : eqvAll (x :: a) (y :: b) = (eqv x y && eqvAll a b) := by rw [eqvAll]
@[simp] theorem eqvAll_nc (y : D) (b : List D) : eqvAll [] (y :: b) = false := by rw [eqvAll] <;> simp
@[simp] theorem eqvAll_cn (y : D) (b : List D) : eqvAll (y :: b) [] = false := by rw [eqvAll] <;> simp
@[simp] theorem eqv_non_tup (a : List D) : eqv .non (.tup a) = false := by rw [eqv] <;> simp
@[simp] theorem eqv_tup_non (a : List D) : eqv (.tup a) .non = false := by rw [eqv] <;> simp
@[simp] theorem eqv_int_tup (i : Int) (a : List D) : eqv (.int i) (.tup a) = false := by rw [eqv] <;> simp
@[simp] theorem eqv_tup_int (i : Int) (a : List D) : eqv (.tup a) (.int i) = false := by rw [eqv] <;> simp
@[simp] theorem eqv_str_tup (i : Str) (a : List D) : eqv (.str i) (.tup a) = false := by rw [eqv] <;> simp
@[simp] theorem eqv_tup_str (i : Str) (a : List D) : eqv (.tup a) (.str i) = false := by rw [eqv] <;> simp
@[simp] theorem eqv_str_int (i : Str) (a : Int) : eqv (.str i) (.int a) = false := by rw [eqv] <;> simp
@[simp] theorem eqv_int_str (i : Str) (a : Int) : eqv (.int a) (.str i) = false := by rw [eqv] <;> simp
@[simp] theorem eqv_non_int (a : Int) : eqv .non (.int a) = false := by rw [eqv] <;> simp
@[simp] theorem eqv_int_non (a : Int) : eqv (.int a) .non = false := by rw [eqv] <;> simp
@[simp] theorem eqv_lst_tup (i a : List D) : eqv (.lst i) (.tup a) = false := by rw [eqv] <;> simp
@[simp] theorem eqv_tup_lst (i a : List D) : eqv (.tup a) (.lst i) = false := by rw [eqv] <;> simp
@[simp] theorem shp_tup (k : Nat) (xs : List D) : shp (k + 1) (.tup xs) = xs.all (shp k) := rfl
@[simp] theorem shp_lst (k : Nat) (xs : List D) : shp (k + 1) (.lst xs) = xs.all (shp k) := rfl
/-- parts of a body -/
def dropS : Nat → Ss → Ss
  | 0, b => b
  | n + 1, .cons _ b => dropS n b
  | _ + 1, .nil => .nil
def takeS : Nat → Ss → Ss
  | 0, _ => .nil
  | n + 1, .cons a b => .cons a (takeS n b)
  | _ + 1, .nil => .nil
theorem wp_split {F : Nat → List D → Sto → Res D} {W : Nat} {Q : Flow → Sto → Prop} (R : Env → Sto → Prop) : ∀ (k : Nat) {b : Ss} {r : Env} {s : Sto}, Wp (execs F W (takeS k b) r s) (loopP R Q) → (∀ r s, R r s → Wp (execs F W (dropS k b) r s) Q) → Wp (execs F W b r s) Q
  | 0, b, r, s, h, h2 => by
    rw [takeS, execs_nil] at h
    exact h2 r s h
  | k + 1, .nil, r, s, h, h2 => by
    rw [takeS, execs_nil] at h
    exact h2 r s h
  | k + 1, .cons a b, r, s, h, h2 => by
    rw [takeS, wp_execs_cons] at h
    rw [wp_execs_cons]
    refine h.mono fun fl s q => ?_
    cases fl with
    | next r1 => exact wp_split R k q h2
    | ret d => exact q
theorem len_tab (s : Sto) (t : Tab) : biD s .len [tabD t] = .ok (.int t.length) s := by simp [tabD]
theorem val_tab (s : Sto) (t : Tab) : valK (tabD t) s = .ok (t.map rowD) s := rfl
theorem val_row (s : Sto) (t : List (Int × Int)) : valK (rowD t) s = .ok (t.map pD) s := rfl
theorem small_nat {k : Nat} (h : k ≤ 1000) : small (k : Int) = true := by unfold small; simp; omega
end Rt
set_option maxHeartbeats 1000000
namespace Rt
open PySem
variable {W n : Nat} {s : Sto}
/-- lowest terms, the divisor above 0 -/
structure Lt (p : Int × Int) : Prop where
  pos : 0 < p.2
  co : Nat.gcd p.2.natAbs p.1.natAbs = 1
theorem Fr.lt {p : Int × Int} (h : Fr p) : Lt p := ⟨h.pos, h.co⟩
theorem Lt.uniq {p q : Int × Int} (hp : Lt p) (hq : Lt q) (e : p.1 * q.2 = q.1 * p.2) : p = q := by
  have h1 := hp.pos; have h2 := hq.pos
  have e' : p.1.natAbs * q.2.natAbs = q.1.natAbs * p.2.natAbs := by rw [← Int.natAbs_mul, ← Int.natAbs_mul, e]
  have d1 : p.2.natAbs ∣ q.2.natAbs := by
    have : p.2.natAbs ∣ p.1.natAbs * q.2.natAbs := by rw [e']; exact Nat.dvd_mul_left _ _
    exact Nat.Coprime.dvd_of_dvd_mul_left hp.co this
  have d2 : q.2.natAbs ∣ p.2.natAbs := by
    have : q.2.natAbs ∣ q.1.natAbs * p.2.natAbs := by rw [← e']; exact Nat.dvd_mul_left _ _
    exact Nat.Coprime.dvd_of_dvd_mul_left hq.co this
  have e2 : p.2.natAbs = q.2.natAbs := Nat.dvd_antisymm d1 d2
  have e3 : p.2 = q.2 := by omega
  rw [e3] at e
  have e4 : p.1 = q.1 := Int.eq_of_mul_eq_mul_right (by omega) e
  exact Prod.ext e4 e3
def gcdN (t u : Int) : Int := if 0 < u then (Nat.gcd u.natAbs t.natAbs : Int) else -(Nat.gcd u.natAbs t.natAbs : Int)
def lowN (t u : Int) : Int × Int := (t / gcdN t u, u / gcdN t u)
theorem gcdN_dvd (t u : Int) : gcdN t u ∣ t ∧ gcdN t u ∣ u := by
  have d1 : ((Nat.gcd u.natAbs t.natAbs : Nat) : Int) ∣ u := Int.ofNat_dvd_left.mpr (Nat.gcd_dvd_left _ _)
  have d2 : ((Nat.gcd u.natAbs t.natAbs : Nat) : Int) ∣ t := Int.ofNat_dvd_left.mpr (Nat.gcd_dvd_right _ _)
  unfold gcdN
  split
  · exact ⟨d2, d1⟩
  · exact ⟨Int.neg_dvd.mpr d2, Int.neg_dvd.mpr d1⟩
theorem gcdN_ne {t u : Int} (h : u ≠ 0) : gcdN t u ≠ 0 := by
  have hg : 0 < Nat.gcd u.natAbs t.natAbs := Nat.gcd_pos_of_pos_left _ (by omega)
  unfold gcdN
  split <;> omega
theorem low_main {t u : Int} (h : u ≠ 0) : ∃ a b, t = gcdN t u * a ∧ u = gcdN t u * b ∧ lowN t u = (a, b) ∧ 0 < b ∧ Nat.gcd b.natAbs a.natAbs = 1 := by
  obtain ⟨⟨a, ha⟩, b, hb⟩ := gcdN_dvd t u
  have hg := gcdN_ne (t := t) h
  refine ⟨a, b, ha, hb, ?_, ?_, ?_⟩
  · unfold lowN
    have e1 : t / gcdN t u = a := Int.ediv_eq_of_eq_mul_right hg ha
    have e2 : u / gcdN t u = b := Int.ediv_eq_of_eq_mul_right hg hb
    rw [e1, e2]
  · have hgp : 0 < (Nat.gcd u.natAbs t.natAbs : Int) := by
      have : 0 < Nat.gcd u.natAbs t.natAbs := Nat.gcd_pos_of_pos_left _ (by omega)
      omega
    unfold gcdN at hb
    split at hb
    · next hu =>
      by_cases z : 0 < b
      · exact z
      · exact absurd (Int.mul_le_mul_of_nonneg_left (show b ≤ 0 by omega) (Int.le_of_lt hgp)) (by omega)
    · next hu =>
      by_cases z : 0 < b
      · exact z
      · have := Int.mul_le_mul_of_nonneg_left (show b ≤ 0 by omega) (Int.le_of_lt hgp)
        rw [Int.neg_mul] at hb
        omega
  · have hG : (gcdN t u).natAbs = Nat.gcd u.natAbs t.natAbs := by
      unfold gcdN
      split <;> simp
    have hg0 : 0 < (gcdN t u).natAbs := by omega
    have e1 : t.natAbs = (gcdN t u).natAbs * a.natAbs := by rw [← Int.natAbs_mul, ← ha]
    have e2 : u.natAbs = (gcdN t u).natAbs * b.natAbs := by rw [← Int.natAbs_mul, ← hb]
    have e3 : (gcdN t u).natAbs * Nat.gcd b.natAbs a.natAbs = (gcdN t u).natAbs * 1 := by
      rw [← Nat.gcd_mul_left, ← e1, ← e2, ← hG, Nat.mul_one]
    exact Nat.eq_of_mul_eq_mul_left hg0 e3
theorem low_lt {t u : Int} (h : u ≠ 0) : Lt (lowN t u) := by
  obtain ⟨a, b, _, _, e, h1, h2⟩ := low_main (t := t) h
  rw [e]
  exact ⟨h1, h2⟩
theorem low_eq {t u : Int} (h : u ≠ 0) : (lowN t u).1 * u = t * (lowN t u).2 := by
  obtain ⟨a, b, e1, e2, e, h1, h2⟩ := low_main (t := t) h
  rw [e]
  generalize gcdN t u = g at *
  subst e1 e2
  grind
theorem low_uniq {t u : Int} {p : Int × Int} (h : u ≠ 0) (hp : Lt p) (e : p.1 * u = t * p.2) : lowN t u = p := by
  have h1 := low_lt (t := t) h
  have h2 := low_eq (t := t) h
  refine h1.uniq hp ?_
  refine Int.eq_of_mul_eq_mul_right h ?_
  generalize lowN t u = q at *
  grind
theorem low_le {t u : Int} (h : u ≠ 0) : (lowN t u).1.natAbs ≤ t.natAbs ∧ (lowN t u).2.natAbs ≤ u.natAbs := by
  obtain ⟨a, b, e1, e2, e, h1, h2⟩ := low_main (t := t) h
  have hg : 0 < (gcdN t u).natAbs := by have := gcdN_ne (t := t) h; omega
  rw [e]
  have a1 : t.natAbs = (gcdN t u).natAbs * a.natAbs := by rw [← Int.natAbs_mul, ← e1]
  have a2 : u.natAbs = (gcdN t u).natAbs * b.natAbs := by rw [← Int.natAbs_mul, ← e2]
  exact ⟨by rw [a1]; exact Nat.le_mul_of_pos_left _ hg, by rw [a2]; exact Nat.le_mul_of_pos_left _ hg⟩
/-- the same value, the same place -/
theorem low_inB {t u : Int} (h : 0 < u) (b : Int × Int) : inB (lowN t u) b = inB (t, u) b := by
  have e := low_eq (t := t) (show u ≠ 0 by omega)
  have hp := (low_lt (t := t) (show u ≠ 0 by omega)).pos
  generalize lowN t u = q at *
  have key : ∀ c : Int, (c * q.2 ≤ q.1 ↔ c * u ≤ t) ∧ (q.1 ≤ c * q.2 ↔ t ≤ c * u) := by
    intro c
    refine ⟨⟨fun z => ?_, fun z => ?_⟩, ⟨fun z => ?_, fun z => ?_⟩⟩
    · have := Int.mul_le_mul_of_nonneg_right z (show 0 ≤ u by omega)
      rw [e, show c * q.2 * u = c * u * q.2 by grind] at this
      exact Int.le_of_mul_le_mul_right this hp
    · have := Int.mul_le_mul_of_nonneg_right z (show 0 ≤ q.2 by omega)
      rw [← e, show c * u * q.2 = c * q.2 * u by grind] at this
      exact Int.le_of_mul_le_mul_right this h
    · have := Int.mul_le_mul_of_nonneg_right z (show 0 ≤ u by omega)
      rw [e, show c * q.2 * u = c * u * q.2 by grind] at this
      exact Int.le_of_mul_le_mul_right this hp
    · have := Int.mul_le_mul_of_nonneg_right z (show 0 ≤ q.2 by omega)
      rw [← e, show c * u * q.2 = c * q.2 * u by grind] at this
      exact Int.le_of_mul_le_mul_right this h
  unfold inB
  simp only [key]
theorem run_divG (a b : Int) (hb : b.natAbs < W) : run Pd W (n + 1) 20 [.int a, .int b] s = .ok (.int (Nat.gcd b.natAbs a.natAbs)) s := by
  rw [call_of (d := c_divisor) rfl rfl]
  simp [c_divisor, exec_whl, abs_nat]
  rw [gcd_while (s := s)]
  · simp
  · intro a b; simp [nz_nat, bne]
  · intro a b z
    have : (b : Int) ≠ 0 := by omega
    simp [this, z, fm (show (0 : Int) < b by omega)]
  · exact hb
theorem run_ldivG (a b : Int) (hb : b.natAbs < W) : run Pd W (n + 1) 25 [.int a, .int b] s = .ok (.int (Nat.gcd b.natAbs a.natAbs)) s := by
  rw [call_of (d := c_law_divisor) rfl rfl]
  simp [c_law_divisor, exec_whl, abs_nat]
  rw [gcd_while (s := s)]
  · simp
  · intro a b; simp [nz_nat]
  · intro a b z
    have : (b : Int) ≠ 0 := by omega
    simp [this, z, fm (show (0 : Int) < b by omega)]
  · exact hb
theorem fdiv_dvd {a b : Int} (h : b ∣ a) : a.fdiv b = a / b := Int.fdiv_eq_ediv_of_dvd h
theorem gcdN_lt {t u : Int} {k : Nat} (h : u ≠ 0) (hk : u.natAbs < k) : (gcdN t u).natAbs < k := by
  have hG : (gcdN t u).natAbs = Nat.gcd u.natAbs t.natAbs := by
    unfold gcdN
    split <;> simp
  have := Nat.gcd_le_left (t.natAbs) (show 0 < u.natAbs by omega)
  omega
theorem p1000 {k : Nat} (h : k < 2 ^ 200) : k < 2 ^ 1000 := Nat.lt_trans h (Nat.pow_lt_pow_right (by decide) (by decide))
abbrev E40 : Nat := 10000000000000000000000000000000000000000
theorem run_low (hW : Big W) (t u : Int) (h : u ≠ 0) (hb : u.natAbs < E40) : run Pd W (n + 2) 48 [.int t, .int u] s = .ok (pD (lowN t u)) s := by
  have hd := run_divG (W := W) (n := n) (s := s) t u (Nat.lt_of_lt_of_le hb hW)
  have hg := gcdN_ne (t := t) h
  have hl := p1000 (Nat.lt_trans (gcdN_lt (t := t) h hb) (by decide))
  obtain ⟨d1, d2⟩ := gcdN_dvd t u
  rw [call_of (d := c_lowest) rfl rfl]
  by_cases z : 0 < u
  · have e : gcdN t u = (Nat.gcd u.natAbs t.natAbs : Int) := by unfold gcdN; rw [if_pos z]
    simp [c_lowest, hd, z, ← e, fdiv_ok s hg hl, fdiv_dvd d1, fdiv_dvd d2, pD, lowN]
  · have e : gcdN t u = -(Nat.gcd u.natAbs t.natAbs : Int) := by unfold gcdN; rw [if_neg z]
    simp [c_lowest, hd, z, ← e, fdiv_ok s hg hl, fdiv_dvd d1, fdiv_dvd d2, pD, lowN]
theorem run_llowG (hW : Big W) (t u : Int) (h : u ≠ 0) (hb : u.natAbs < E40) : run Pd W (n + 2) 26 [.int t, .int u] s = .ok (pD (lowN t u)) s := by
  have hd := run_ldivG (W := W) (n := n) (s := s) t u (Nat.lt_of_lt_of_le hb hW)
  have hg := gcdN_ne (t := t) h
  have hl := p1000 (Nat.lt_trans (gcdN_lt (t := t) h hb) (by decide))
  obtain ⟨d1, d2⟩ := gcdN_dvd t u
  have o1 : (1 : Int).natAbs < 2 ^ 64 := by decide
  have o2 : (-1 : Int).natAbs < 2 ^ 64 := by decide
  rw [call_of (d := c_law_lowest) rfl rfl]
  by_cases z : 0 < u
  · have e : gcdN t u = (Nat.gcd u.natAbs t.natAbs : Int) := by unfold gcdN; rw [if_pos z]
    simp [c_law_lowest, hd, z, ← e, mul_ok s (Or.inr o1), fdiv_ok s hg hl, fdiv_dvd d1, fdiv_dvd d2, pD, lowN]
  · have e : gcdN t u = -(Nat.gcd u.natAbs t.natAbs : Int) := by unfold gcdN; rw [if_neg z]
    simp [c_law_lowest, hd, z, ← e, mul_ok s (Or.inr o2), fdiv_ok s hg hl, fdiv_dvd d1, fdiv_dvd d2, pD, lowN]
/-- a short fraction -/
theorem run_is_short (hW : Big W) (p : Int × Int) (h : Fr p) (h1 : p.2 ≤ 1000000) (h2 : p.1.natAbs ≤ 1000000) : run Pd W (n + 3) 49 [pD p] s = .ok (.bl true) s := by
  have hf := run_is_fraction (W := W) (n := n) (s := s) hW p h
  rw [call_of (d := c_is_short) rfl rfl]
  have h3 : (p.1.natAbs : Int) ≤ 1000000 := by omega
  simp [c_is_short, hf, abs_nat, h1, h3]
theorem run_law_by (hW : Big W) (p q : Int × Int) (hp : 0 < p.2) (hq : 0 < q.2) (h1 : p.1.natAbs < 2 ^ 64 ∨ q.1.natAbs < 2 ^ 64) (h2 : p.2.natAbs < 2 ^ 64 ∨ q.2.natAbs < 2 ^ 64) (hb : (p.2 * q.2).natAbs < E40) : run Pd W (n + 3) 106 [pD p, pD q] s = .ok (pD (lowN (p.1 * q.1) (p.2 * q.2))) s := by
  rw [call_of (d := c_law_by) rfl rfl]
  have h0 : p.2 * q.2 ≠ 0 := by have := Int.mul_pos hp hq; omega
  simp [c_law_by, mul_ok s h1, mul_ok s h2, run_llowG hW _ _ h0 hb]
theorem run_law_plus (hW : Big W) (p q : Int × Int) (hp : 0 < p.2) (hq : 0 < q.2) (h1 : p.1.natAbs < 2 ^ 64 ∨ q.2.natAbs < 2 ^ 64) (h3 : q.1.natAbs < 2 ^ 64 ∨ p.2.natAbs < 2 ^ 64) (h2 : p.2.natAbs < 2 ^ 64 ∨ q.2.natAbs < 2 ^ 64) (hb : (p.2 * q.2).natAbs < E40) : run Pd W (n + 3) 105 [pD p, pD q] s = .ok (pD (lowN (p.1 * q.2 + q.1 * p.2) (p.2 * q.2))) s := by
  rw [call_of (d := c_law_plus) rfl rfl]
  have h0 : p.2 * q.2 ≠ 0 := by have := Int.mul_pos hp hq; omega
  simp [c_law_plus, mul_ok s h1, mul_ok s h2, mul_ok s h3, run_llowG hW _ _ h0 hb]
end Rt
set_option maxHeartbeats 2000000
namespace Rt
open PySem
def Aff (f : List Int → Int) : Prop := ∀ (l : List Int) (k : Nat), ∃ a b, ∀ x, f (l.set k x) = a * x + b
theorem Aff.neg {f : List Int → Int} (h : Aff f) : Aff fun l => - f l := fun l k => by
  obtain ⟨a, b, e⟩ := h l k
  exact ⟨-a, -b, fun x => by show - f (l.set k x) = _; rw [e x]; grind⟩
theorem q_trans {a b c d e f : Int} (hd : 0 < d) (h1 : a * d ≤ c * b) (h2 : c * f ≤ e * d) (hb : 0 < b) (hf : 0 < f) : a * f ≤ e * b := by
  have g1 := Int.mul_le_mul_of_nonneg_right h1 (show 0 ≤ f by omega)
  have g2 := Int.mul_le_mul_of_nonneg_right h2 (show 0 ≤ b by omega)
  have : a * f * d ≤ e * b * d := by
    have e1 : a * d * f = a * f * d := by grind
    have e2 : c * b * f = c * f * b := by grind
    have e3 : e * d * b = e * b * d := by grind
    omega
  exact Int.le_of_mul_le_mul_right this hd
theorem All2.get {a b : Type} {R : a → b → Prop} : ∀ {l : List a} {m : List b}, All2 R l m → ∀ {k : Nat} {x : a} {y : b}, l[k]? = some x → m[k]? = some y → R x y
  | _, _, .nil, k, x, y, h, _ => by simp at h
  | _, _, .cons r t, 0, x, y, h1, h2 => by simp at h1 h2; subst h1 h2; exact r
  | _, _, .cons r t, k + 1, x, y, h1, h2 => All2.get t (by simpa using h1) (by simpa using h2)
theorem All2.set {a b : Type} {R : a → b → Prop} : ∀ {l : List a} {m : List b}, All2 R l m → ∀ {k : Nat} {x : a} {y : b}, l[k]? = some x → R x y → All2 R l (m.set k y)
  | _, _, .nil, k, x, y, h, _ => by simp at h
  | _, _, .cons r t, 0, x, y, h1, h2 => by simp at h1; subst h1; exact .cons h2 t
  | _, _, .cons r t, k + 1, x, y, h1, h2 => .cons r (All2.set t (by simpa using h1) h2)
theorem All2.app {a b : Type} {R : a → b → Prop} : ∀ {l l' : List a} {m m' : List b}, All2 R l m → All2 R l' m' → All2 R (l ++ l') (m ++ m')
  | _, _, _, _, .nil, h => h
  | _, _, _, _, .cons r t, h => .cons r (All2.app t h)
/-- a column replaced by a side -/
def repl (c : List (List Int)) (i : Nat) (sd : List Int) : List (List Int) := (c.zip sd).map fun z => z.1.set i z.2
def rpd (c : List (List Int)) (i : Nat) (sd : List Int) : Int := detM (repl c i sd)
def sN2 (i : Nat) : List Int → Int
  | [a, b, c, d, p, q] => if i = 0 then p * d - b * q else a * q - p * c
  | _ => 0
def sN3 (i : Nat) : List Int → Int
  | [a, b, c, d, e, f, g, h, j, p, q, r] => if i = 0 then p * (e * j - f * h) - b * (q * j - f * r) + c * (q * h - e * r) else if i = 1 then a * (q * j - f * r) - p * (d * j - f * g) + c * (d * r - q * g) else a * (e * r - q * h) - b * (d * r - q * g) + p * (d * h - e * g)
  | _ => 0
end Rt
set_option maxHeartbeats 4000000
namespace Rt
open PySem
theorem all2_one {R : Int × Int → Int → Prop} {P : Int × Int} {sd : List Int} (h : All2 R [P] sd) : ∃ p, sd = [p] ∧ R P p := by
  cases h with | cons a t => cases t with | nil => exact ⟨_, rfl, a⟩
theorem all2_two {R : Int × Int → Int → Prop} {P Q : Int × Int} {sd : List Int} (h : All2 R [P, Q] sd) : ∃ p q, sd = [p, q] ∧ R P p ∧ R Q q := by
  cases h with | cons a t => cases t with | cons b t => cases t with | nil => exact ⟨_, _, rfl, a, b⟩
theorem all2_three {R : Int × Int → Int → Prop} {P Q S : Int × Int} {sd : List Int} (h : All2 R [P, Q, S] sd) : ∃ p q s, sd = [p, q, s] ∧ R P p ∧ R Q q ∧ R S s := by
  cases h with | cons a t => cases t with | cons b t => cases t with | cons c t => cases t with | nil => exact ⟨_, _, _, rfl, a, b, c⟩
theorem rpd1 (a p : Int) : rpd [[a]] 0 [p] = p := rfl
theorem rpd2 (i : Nat) (hi : i < 2) (a b c d p q : Int) : rpd [[a, b], [c, d]] i [p, q] = sN2 i [a, b, c, d, p, q] := by
  have : i = 0 ∨ i = 1 := by omega
  rcases this with rfl | rfl <;> simp [rpd, repl, detM, sN2]
theorem rpd3 (i : Nat) (hi : i < 3) (a b c d e f g h j p q r : Int) : rpd [[a, b, c], [d, e, f], [g, h, j]] i [p, q, r] = sN3 i [a, b, c, d, e, f, g, h, j, p, q, r] := by
  have : i = 0 ∨ i = 1 ∨ i = 2 := by omega
  rcases this with rfl | rfl | rfl <;> simp [rpd, repl, detM, sN3]
end Rt
set_option maxHeartbeats 1000000
namespace Rt
open PySem
variable {W n : Nat} {s : Sto}
/-- short shares -/
structure Ve (p : Int × Int) : Prop where
  pos : 0 < p.2
  sm : p.2 ≤ 5
  t1 : -6 ≤ p.1
  t2 : p.1 ≤ 6
  co : Nat.gcd p.2.natAbs p.1.natAbs = 1
theorem Ve.fr {p : Int × Int} (h : Ve p) : Fr p := ⟨h.pos, by have := h.sm; omega, by have := h.t1; omega, by have := h.t2; omega, h.co⟩
def sumP : List (Int × Int) → List (Int × Int) → Int × Int
  | e :: es, v :: vs => (e.1 * v.1 * (sumP es vs).2 + (sumP es vs).1 * (e.2 * v.2), e.2 * v.2 * (sumP es vs).2)
  | _, _ => (0, 1)
theorem na_mul {a b : Int} {x y : Nat} (h1 : a.natAbs ≤ x) (h2 : b.natAbs ≤ y) : (a * b).natAbs ≤ x * y := by
  rw [Int.natAbs_mul]; exact Nat.mul_le_mul h1 h2
theorem na_lt {a b : Int} {x y z : Nat} (h1 : a.natAbs ≤ x) (h2 : b.natAbs ≤ y) (h : x * y < z) : (a * b).natAbs < z := Nat.lt_of_le_of_lt (na_mul h1 h2) h
theorem sumP_pos : ∀ (es vs : List (Int × Int)), (∀ e ∈ es, 0 < e.2) → (∀ v ∈ vs, 0 < v.2) → 0 < (sumP es vs).2
  | [], _, _, _ => by simp [sumP]
  | _ :: _, [], _, _ => by simp [sumP]
  | e :: es, v :: vs, h1, h2 => by
    have := sumP_pos es vs (fun e h => h1 e (by simp [h])) (fun e h => h2 e (by simp [h]))
    simp only [sumP]
    exact Int.mul_pos (Int.mul_pos (h1 e (by simp)) (h2 v (by simp))) this
theorem len_cases {a : Type} {l : List a} (h1 : 1 ≤ l.length) (h3 : l.length ≤ 3) : (∃ a, l = [a]) ∨ (∃ a b, l = [a, b]) ∨ ∃ a b c, l = [a, b, c] := by
  match l, h1, h3 with
  | [a], _, _ => exact .inl ⟨a, rfl⟩
  | [a, b], _, _ => exact .inr (.inl ⟨a, b, rfl⟩)
  | [a, b, c], _, _ => exact .inr (.inr ⟨a, b, c, rfl⟩)
  | [], h, _ => simp at h
  | _ :: _ :: _ :: _ :: _, _, h => simp at h
theorem exact_div {a b c : Int} (hb : 0 < b) (e : a = b * c) : a / b = c := by rw [e]; exact Int.mul_ediv_cancel_left _ (by omega)
theorem lt1000 {k : Nat} (h : k < 2 ^ 64) : k < 2 ^ 1000 := Nat.lt_trans h (Nat.pow_lt_pow_right (by decide) (by decide))
end Rt
set_option maxHeartbeats 1000000
namespace Rt
open PySem
variable {W n : Nat} {s : Sto}
theorem mapR_enumZ {a b : Type} {f : D → Sto → Res (Option D)} {φ : a → D} (g : a → b → D) (full : List b) : ∀ (l : List a) (rs : List b) (k : Nat), full.drop k = rs → l.length = rs.length → (∀ (j : Nat) x y, x ∈ l → full[j]? = some y → f (.tup [.int j, φ x]) s = .ok (some (g x y)) s) →
    mapR f (enumD k (l.map φ)) s = .ok ((l.zip rs).map fun z => g z.1 z.2) s
  | [], rs, k, _, _, _ => rfl
  | x :: l, [], k, _, h, _ => by simp at h
  | x :: l, y :: rs, k, e, h, hf => by
    have h0 : full[k]? = some y := by
      have := congrArg (fun l => l[0]?) e
      simpa using this
    have h1 : full.drop (k + 1) = rs := by
      have := congrArg (fun l => l.drop 1) e
      simpa [Nat.add_comm] using this
    simp only [List.map_cons, enumD, mapR_cns, hf k x y (by simp) h0, Res.bindN_ok, mapR_enumZ g full l rs (k + 1) h1 (by simpa using h) (fun j x y hx => hf j x y (by simp [hx])), List.zip_cons_cons, Option.toList, List.cons_append, List.nil_append]
theorem zip_mapG {a b : Type} (φ : a → D) (ψ : b → D) : ∀ (m : List a) (t : List b), zipD (m.map φ) (t.map ψ) = (m.zip t).map fun q => .tup [φ q.1, ψ q.2]
  | [], _ => rfl
  | _ :: _, [] => rfl
  | x :: m, y :: t => by simp [zipD, zip_mapG φ ψ m t]
structure RowOk (k : Nat) (r : List (Int × Int)) : Prop where
  len : r.length = k
  rg : ∀ p ∈ r, -9 ≤ p.1 ∧ p.1 ≤ p.2 ∧ p.2 ≤ 9
theorem run_need_right (t : Tab) (h3 : t.length ≤ 3) (r : List (Int × Int)) (hr : RowOk t.length r) : run Pd W (n + 5) 84 [tabD t, rowD r] s = .ok .non s := by
  have h := run_is_row (W := W) (n := n) (s := s) r t.length (by rw [hr.len]) (by rw [hr.len]; omega) hr.rg
  rw [call_of (d := c_need_right) rfl rfl]
  simp [c_need_right, len_tab, h]
end Rt
set_option maxHeartbeats 2000000
namespace Rt
open PySem
variable {W n : Nat} {s : Sto}
def minorM (m : List (List Int)) (i j : Nat) : List (List Int) := (m.eraseIdx i).map fun r => r.eraseIdx j
def sgn (m : List (List Int)) (i j : Nat) : Int := if (i + j) % 2 = 0 then detM (minorM m i j) else - detM (minorM m i j)
theorem minor_sq {m : List (List Int)} (h : SqM m) {i j : Nat} (hi : i < m.length) (hj : j < m.length) : SqM (minorM m i j) := by
  have h3 := h.hi
  have hl : (minorM m i j).length = m.length - 1 := by simp [minorM, List.length_eraseIdx, hi]
  refine ⟨by omega, fun r hr => ?_⟩
  rw [hl]
  obtain ⟨r', hr', rfl⟩ := List.mem_map.mp hr
  have := h.sq r' (List.mem_of_mem_eraseIdx hr')
  rw [List.length_eraseIdx, if_pos (by omega), this]
theorem minor_64 {m : List (List Int)} (h : Ent64 m) (i j : Nat) : Ent64 (minorM m i j) := fun r hr x hx => by
  obtain ⟨r', hr', rfl⟩ := List.mem_map.mp hr
  exact h r' (List.mem_of_mem_eraseIdx hr') x (List.mem_of_mem_eraseIdx hx)
theorem run_signed (m : List (List Int)) (h : SqM m) (H : Ent64 m) (i j : Nat) (hi : i < m.length) (hj : j < m.length) : run Pd W (n + 4) 55 [matD m, .int i, .int j] s = .ok (.int (sgn m i j)) s := by
  have h3 := h.hi
  have r1 := run_minor (W := W) (n := n + 2) (s := s) true m i j (by omega) (fun r hr => by rw [h.sq r hr]; omega)
  have r2 := run_det (W := W) (n := n) (s := s) false (minorM m i j) (minor_sq h hi hj) (minor_64 H i j)
  rw [gm_tup] at r1
  rw [call_of (d := c_signed) rfl rfl]
  have e : ((i : Int) + (j : Int)) % 2 = (((i + j) % 2 : Nat) : Int) := by omega
  unfold minorM at r2
  by_cases z : (i + j) % 2 = 0
  · simp [c_signed, r1, r2, fm (show (0 : Int) < 2 by decide), e, z, sgn, minorM]
  · have z1 : (i + j) % 2 = 1 := by omega
    simp [c_signed, r1, r2, fm (show (0 : Int) < 2 by decide), e, z1, sgn, minorM]
/-- the sum of cofactors is a determinant with a column replaced -/
theorem cof1 (a p : Int) : sgn [[a]] 0 0 * p = rpd [[a]] 0 [p] := by simp [sgn, minorM, rpd, repl, detM]
theorem cof2 (i : Nat) (hi : i < 2) (a b c d p q : Int) : sgn [[a, b], [c, d]] 0 i * p + sgn [[a, b], [c, d]] 1 i * q = rpd [[a, b], [c, d]] i [p, q] := by
  have : i = 0 ∨ i = 1 := by omega
  rcases this with rfl | rfl <;> simp [sgn, minorM, rpd, repl, detM] <;> grind
theorem cof3 (i : Nat) (hi : i < 3) (a b c d e f g h j p q r : Int) : sgn [[a, b, c], [d, e, f], [g, h, j]] 0 i * p + (sgn [[a, b, c], [d, e, f], [g, h, j]] 1 i * q + sgn [[a, b, c], [d, e, f], [g, h, j]] 2 i * r) = rpd [[a, b, c], [d, e, f], [g, h, j]] i [p, q, r] := by
  have : i = 0 ∨ i = 1 ∨ i = 2 := by omega
  rcases this with rfl | rfl | rfl <;> simp [sgn, minorM, rpd, repl, detM] <;> grind
theorem run_unknown (hW : Big W) (m : List (List Int)) (h : SqM m) (H : Ent64 m) (h1 : 1 ≤ m.length) (sd : List Int) (hl : sd.length = m.length) (hs : ∀ x ∈ sd, x.natAbs < 2 ^ 64) (v : Int) (hv : v ≠ 0) (hv2 : v.natAbs < E40) (i : Nat) (hi : i < m.length) : run Pd W (n + 5) 85 [matD m, .int v, vecD sd, .int i] s = .ok (pD (lowN (rpd m i sd) v)) s := by
  have rs : ∀ k : Nat, k < m.length → run Pd W (n + 4) 55 [matD m, .int k, .int i] s = .ok (.int (sgn m k i)) s := fun k hk => run_signed m h H k i hk hi
  have rl := run_low (W := W) (n := n + 2) (s := s) hW (rpd m i sd) v hv hv2
  rw [call_of (d := c_unknown) rfl rfl]
  rcases sq_cases h with rfl | ⟨a, rfl⟩ | ⟨a, b, c, d, rfl⟩ | ⟨a, b, c, d, e, f, g, h', j, rfl⟩
  · simp at h1
  · match sd, hl with
    | [p], _ =>
      have hi0 : i = 0 := by simpa using hi
      subst hi0
      have r0 := rs 0 (by simp)
      simp at r0
      have mp := mul_ok s (i := sgn [[a]] 0 0) (Or.inr (hs p (by simp)))
      simp [c_unknown, vecD, enumD, itemK, r0, mp, cof1, rl]
  · match sd, hl with
    | [p, q], _ =>
      have r0 := rs 0 (by simp)
      have r1 := rs 1 (by simp)
      simp at r0 r1
      have mp := mul_ok s (i := sgn [[a, b], [c, d]] 0 i) (Or.inr (hs p (by simp)))
      have mq := mul_ok s (i := sgn [[a, b], [c, d]] 1 i) (Or.inr (hs q (by simp)))
      simp [c_unknown, vecD, enumD, itemK, r0, r1, mp, mq, cof2 i hi, rl]
  · match sd, hl with
    | [p, q, r], _ =>
      have r0 := rs 0 (by simp)
      have r1 := rs 1 (by simp)
      have r2 := rs 2 (by simp)
      simp at r0 r1 r2
      have mp := mul_ok s (i := sgn [[a, b, c], [d, e, f], [g, h', j]] 0 i) (Or.inr (hs p (by simp)))
      have mq := mul_ok s (i := sgn [[a, b, c], [d, e, f], [g, h', j]] 1 i) (Or.inr (hs q (by simp)))
      have mr := mul_ok s (i := sgn [[a, b, c], [d, e, f], [g, h', j]] 2 i) (Or.inr (hs r (by simp)))
      simp [c_unknown, vecD, enumD, itemK, r0, r1, r2, mp, mq, mr, cof3 i hi, rl]
def flt (p q : Int × Int) : Bool := decide (p.1 * q.2 < q.1 * p.2)
def fle (p q : Int × Int) : Prop := p.1 * q.2 ≤ q.1 * p.2
theorem fle_refl (p : Int × Int) : fle p p := Int.le_refl _
theorem fle_trans {p q r : Int × Int} (hp : 0 < p.2) (hq : 0 < q.2) (hr : 0 < r.2) (h1 : fle p q) (h2 : fle q r) : fle p r := q_trans hq h1 h2 hp hr
theorem fle_of_lt {p q : Int × Int} (h : flt p q = true) : fle p q := Int.le_of_lt (of_decide_eq_true h)
theorem fle_of_not {p q : Int × Int} (h : flt p q = false) : fle q p := by have := of_decide_eq_false h; unfold fle; omega
def better (up : Bool) (p q : Int × Int) : Bool := bif up then flt p q else flt q p
theorem fle_anti {p q : Int × Int} (hp : Lt p) (hq : Lt q) (h1 : fle p q) (h2 : fle q p) : p = q := hp.uniq hq (by unfold fle at *; omega)
def bestL {a : Type} (f : a → Int × Int) (up : Bool) : a → List a → a
  | x, [] => x
  | x, y :: l => bestL f up (bif better up (f x) (f y) then y else x) l
structure F64 (p : Int × Int) : Prop where
  pos : 0 < p.2
  sm : p.2.natAbs < 2 ^ 64
theorem run_is_less (p q : Int × Int) (hp : F64 p) (hq : F64 q) : run Pd W (n + 1) 72 [pD p, pD q] s = .ok (.bl (flt p q)) s := by
  rw [call_of (d := c_is_less) rfl rfl]
  simp [c_is_less, mul_ok s (Or.inr hp.sm), mul_ok s (Or.inr hq.sm), flt]
def bpI {a : Type} (s0 : Sto) (f : a → Int × Int) (up : Bool) (sg : Int) (φ : a → D) (x : a) (l : List a) (k : Nat) (r : Env) (s : Sto) : Prop := ∃ x3, r = [.val (.lst ((x :: l).map φ)), .val (.int sg), .val (φ (bestL f up x (l.take k))), x3] ∧ s = s0
theorem bestL_snoc {a : Type} (f : a → Int × Int) (up : Bool) (y : a) : ∀ (l : List a) (x : a), bestL f up x (l ++ [y]) = bif better up (f (bestL f up x l)) (f y) then y else bestL f up x l
  | [], x => rfl
  | z :: l, x => by simp only [List.cons_append, bestL]; exact bestL_snoc f up y l _
theorem bestL_mem {a : Type} (f : a → Int × Int) (up : Bool) : ∀ (l : List a) (x : a), bestL f up x l ∈ x :: l
  | [], x => by simp [bestL]
  | y :: l, x => by
    have := bestL_mem f up l (bif better up (f x) (f y) then y else x)
    rw [bestL]
    rcases List.mem_cons.mp this with h | h
    · rw [h]
      cases z : better up (f x) (f y) <;> simp
    · simp [h]
theorem bestL_up {a : Type} (f : a → Int × Int) : ∀ (l : List a) (x : a), (∀ z ∈ x :: l, 0 < (f z).2) → ∀ z ∈ x :: l, fle (f z) (f (bestL f true x l))
  | [], x, _, z, hz => by simp at hz; subst hz; exact fle_refl _
  | y :: l, x, hp, z, hz => by
    rw [bestL]
    have hx := hp x (by simp)
    have hy := hp y (by simp)
    cases c : flt (f x) (f y) with
    | true =>
      simp only [better, cond_true, c]
      have ih := bestL_up f l y (fun z hz => hp z (by simp at hz ⊢; rcases hz with h | h <;> simp [h]))
      rcases List.mem_cons.mp hz with h | h
      · subst h
        have hb := hp (bestL f true y l) (List.mem_cons_of_mem _ (bestL_mem f true l y))
        exact fle_trans hx hy hb (fle_of_lt c) (ih y (by simp))
      · exact ih z h
    | false =>
      simp only [better, cond_true, cond_false, c]
      have ih := bestL_up f l x (fun z hz => hp z (by simp at hz ⊢; rcases hz with h | h <;> simp [h]))
      rcases List.mem_cons.mp hz with h | h
      · subst h; exact ih z (by simp)
      · rcases List.mem_cons.mp h with h | h
        · subst h
          have hb := hp (bestL f true x l) (by have := bestL_mem f true l x; simp at this ⊢; rcases this with h | h <;> simp [h])
          exact fle_trans hy hx hb (fle_of_not c) (ih x (by simp))
        · exact ih z (by simp [h])
theorem bestL_dn {a : Type} (f : a → Int × Int) : ∀ (l : List a) (x : a), (∀ z ∈ x :: l, 0 < (f z).2) → ∀ z ∈ x :: l, fle (f (bestL f false x l)) (f z)
  | [], x, _, z, hz => by simp at hz; subst hz; exact fle_refl _
  | y :: l, x, hp, z, hz => by
    rw [bestL]
    have hx := hp x (by simp)
    have hy := hp y (by simp)
    cases c : flt (f y) (f x) with
    | true =>
      simp only [better, cond_true, cond_false, c]
      have ih := bestL_dn f l y (fun z hz => hp z (by simp at hz ⊢; rcases hz with h | h <;> simp [h]))
      rcases List.mem_cons.mp hz with h | h
      · subst h
        have hb := hp (bestL f false y l) (List.mem_cons_of_mem _ (bestL_mem f false l y))
        exact fle_trans hb hy hx (ih y (by simp)) (fle_of_lt c)
      · exact ih z h
    | false =>
      simp only [better, cond_false, c]
      have ih := bestL_dn f l x (fun z hz => hp z (by simp at hz ⊢; rcases hz with h | h <;> simp [h]))
      rcases List.mem_cons.mp hz with h | h
      · subst h; exact ih z (by simp)
      · rcases List.mem_cons.mp h with h | h
        · subst h
          have hb := hp (bestL f false x l) (by have := bestL_mem f false l x; simp at this ⊢; rcases this with h | h <;> simp [h])
          exact fle_trans hb hx hy (ih x (by simp)) (fle_of_not c)
        · exact ih z (by simp [h])
theorem cut1 (x : D) (xs : List D) : cutD (x :: xs) (some 1) none = xs := by
  unfold cutD partD
  simp
theorem run_best_pair {a : Type} (f : a → Int × Int) (rest : a → D) (up : Bool) (sg : Int) (hsg : sg = if up then 1 else -1) (x : a) (l : List a) (hf : ∀ z ∈ x :: l, F64 (f z)) : run Pd W (n + 2) 73 [.lst ((x :: l).map fun z => .tup [pD (f z), rest z]), .int sg] s = .ok (.tup [pD (f (bestL f up x l)), rest (bestL f up x l)]) s := by
  refine ok_of ?_
  rw [call_of (d := c_best_pair) rfl rfl]
  simp only [c_best_pair]
  simp [cut1]
  refine for_map (bpI s f up sg (fun z => .tup [pD (f z), rest z]) x l) ⟨_, rfl, rfl⟩ (fun k y hy r s1 hI => ?_) (fun r s1 hI => ?_)
  · obtain ⟨x3, rfl, rfl⟩ := hI
    have hb := bestL_mem f up (l.take k) x
    have hb' : bestL f up x (l.take k) ∈ x :: l := by
      rcases List.mem_cons.mp hb with h | h
      · rw [h]; simp
      · exact List.mem_cons_of_mem _ (List.mem_of_mem_take h)
    have r1 := run_is_less (W := W) (n := n) (s := s1) (f (bestL f up x (l.take k))) (f y) (hf _ hb') (hf y (List.mem_cons_of_mem _ (List.mem_of_getElem? hy)))
    have r2 := run_is_less (W := W) (n := n) (s := s1) (f y) (f (bestL f up x (l.take k))) (hf y (List.mem_cons_of_mem _ (List.mem_of_getElem? hy))) (hf _ hb')
    have e := bestL_snoc f up y (l.take k) x
    rw [← take_get hy] at e
    unfold bpI
    rw [e]
    generalize bestL f up x (l.take k) = b at *
    cases up with
    | true =>
      simp only [if_pos rfl] at hsg
      subst hsg
      cases c : flt (f b) (f y) <;> simp [r1, c, better]
    | false =>
      simp only [Bool.false_eq_true, if_false] at hsg
      subst hsg
      cases c : flt (f y) (f b) <;> simp [r2, c, better]
  · obtain ⟨x3, rfl, rfl⟩ := hI
    rw [List.take_length]
    simp
end Rt
set_option maxHeartbeats 1000000
namespace Rt
open PySem
variable {W n : Nat} {s : Sto}
theorem enum_get {a : Type} {φ : a → D} : ∀ {l : List a} {j k : Nat} {d : D}, (enumD j (l.map φ))[k]? = some d → ∃ x, l[k]? = some x ∧ d = .tup [.int ((j + k : Nat) : Int), φ x]
  | [], j, k, d, h => by simp [enumD] at h
  | x :: l, j, 0, d, h => by
    simp [enumD] at h
    exact ⟨x, rfl, h.symm⟩
  | x :: l, j, k + 1, d, h => by
    simp only [List.map_cons, enumD, List.getElem?_cons_succ] at h
    obtain ⟨y, h1, h2⟩ := enum_get (j := j + 1) h
    refine ⟨y, by simpa using h1, ?_⟩
    rw [h2, show j + 1 + k = j + (k + 1) by omega]
theorem enum_len {a : Type} {φ : a → D} : ∀ {l : List a} {j : Nat}, (enumD j (l.map φ)).length = l.length
  | [], _ => rfl
  | x :: l, j => by simp only [List.map_cons, enumD, List.length_cons, enum_len (l := l) (j := j + 1)]
theorem for_enum {F : Nat → List D → Sto → Res D} {r : Env} {a : Type} {φ : a → D} {l : List a} {tg : Tg} {b : Ss} {Q : Flow → Sto → Prop} (I : Nat → Env → Sto → Prop) (h0 : I 0 r s)
    (st : ∀ (k : Nat) x, l[k]? = some x → ∀ r s, I k r s → Wp (roundK F W tg b (.tup [.int k, φ x]) r s) (loopP (I (k + 1)) Q)) (fin : ∀ r s, I l.length r s → Q (.next r) s) : forE F W tg b r Q (enumD 0 (l.map φ)) s :=
  wp_for I h0 (fun k d hd r s hI => by obtain ⟨x, hx, rfl⟩ := enum_get hd; rw [Nat.zero_add]; exact st k x hx r s hI) (fun r s h => fin r s (by rw [enum_len] at h; exact h))
def endF (high : Bool) (z : (Int × Int) × (Int × Int)) : Int × Int := if (decide (0 < z.2.1) == high) then (z.1.2, 1) else (z.1.1, 1)
def endsF (b v : List (Int × Int)) (high : Bool) : List (Int × Int) := (b.zip v).map (endF high)
def eoI (s0 : Sto) (b v : List (Int × Int)) (high : Bool) (k : Nat) (r : Env) (s : Sto) : Prop := ∃ x4 x5 x6, r = [.val (rowD b), .val (rowD v), .val (.bl high), .own (((b.zip v).take k).map fun z => pD (endF high z)), x4, x5, x6] ∧ s = s0
theorem zip_get {a b : Type} {l : List a} {m : List b} {k : Nat} {x : a} {y : b} (h1 : l[k]? = some x) (h2 : m[k]? = some y) : (l.zip m)[k]? = some (x, y) := by
  rw [List.getElem?_zip_eq_some]; exact ⟨h1, h2⟩
theorem get_of {a b : Type} {l : List a} {m : List b} {k : Nat} {x : a} (h : l[k]? = some x) (hl : l.length = m.length) : ∃ y, m[k]? = some y := by
  have : k < m.length := by rw [← hl]; exact (List.getElem?_eq_some_iff.mp h).1
  exact ⟨m[k], List.getElem?_eq_getElem this⟩
theorem run_end_of (b v : List (Int × Int)) (hl : b.length = v.length) (h3 : b.length ≤ 3) (high : Bool) : run Pd W (n + 1) 96 [rowD b, rowD v, .bl high] s = .ok (.lst ((endsF b v high).map pD)) s := by
  refine ok_of ?_
  rw [call_of (d := c_end_of) rfl rfl]
  simp only [c_end_of]
  simp
  rw [show enumK (rowD b) s = .ok (enumD 0 (b.map pD)) s from rfl]
  simp
  refine for_enum (eoI s b v high) ⟨_, _, _, rfl, rfl⟩ (fun k x hx r s1 hI => ?_) (fun r s1 hI => ?_)
  · obtain ⟨x4, x5, x6, rfl, rfl⟩ := hI
    obtain ⟨y, hy⟩ := get_of hx hl
    have hv : subD s1 (rowD v) (.int k) = .ok (pD y) s1 := by
      rw [rowD, sub_tup, at_nat s1 (d := pD y) (by rw [List.getElem?_map, hy]; rfl)]
    have hsz : ((b.zip v).take k).length < 1000000 := by rw [List.length_take, List.length_zip]; omega
    have hsz2 : min k (min b.length v.length) < 1000000 := by omega
    have hz := zip_get hx hy
    cases hk : (decide (0 < y.1) == high) with
    | true =>
      simp [hv, hk, hsz2]
      refine ⟨.val (.int k), .val (pD x), .val (.bl true), ?_, rfl⟩
      have he : endF high (x, y) = (x.2, 1) := by unfold endF; rw [hk]; rfl
      simp [take_get hz, he, pD]
    | false =>
      simp [hv, hk, hsz2]
      refine ⟨.val (.int k), .val (pD x), .val (.bl false), ?_, rfl⟩
      have he : endF high (x, y) = (x.1, 1) := by unfold endF; rw [hk]; rfl
      simp [take_get hz, he, pD]
  · obtain ⟨x4, x5, x6, rfl, rfl⟩ := hI
    rw [List.take_of_length_le (by rw [List.length_zip]; omega)]
    simp [endsF, Function.comp]
end Rt
set_option maxHeartbeats 2000000
namespace Rt
open PySem
variable {W n : Nat} {s : Sto}
theorem corner_nine {t : Tab} (ht : TabOk t) {c : List (List Int)} (hc : c ∈ cornersL t) : ∀ r ∈ c, ∀ x ∈ r, x.natAbs ≤ 9 := by
  have h := corners_mem.mp hc
  have h2 := All2.mem_left (S := fun (bs : List (Int × Int)) (r : List Int) => ∀ x ∈ r, x.natAbs ≤ 9) h fun bs hbs r hr => by
    have h3 := All2.mem_left (S := fun (b : Int × Int) (x : Int) => x.natAbs ≤ 9) hr fun b hb x hx => by
      have := ht.rg bs hbs b hb
      have hx' : x = b.1 ∨ x = b.2 := hx
      omega
    exact All2.right (fun x : Int => x.natAbs ≤ 9) (fun _ _ r => r) h3
  exact All2.right (fun r : List Int => ∀ x ∈ r, x.natAbs ≤ 9) (fun _ _ r => r) h2
theorem det_bd {m : List (List Int)} (h : SqM m) (H : ∀ r ∈ m, ∀ x ∈ r, x.natAbs ≤ 9) : (detM m).natAbs ≤ 10000 := by
  rcases sq_cases h with rfl | ⟨a, rfl⟩ | ⟨a, b, c, d, rfl⟩ | ⟨a, b, c, d, e, f, g, h', j, rfl⟩
  · simp [detM]
  · have := H [a] (by simp) a (by simp)
    simp only [detM]; omega
  · have h1 := H [a, b] (by simp)
    have h2 := H [c, d] (by simp)
    have m1 : (a * d).natAbs ≤ 9 * 9 := na_mul (h1 a (by simp)) (h2 d (by simp))
    have m2 : (b * c).natAbs ≤ 9 * 9 := na_mul (h1 b (by simp)) (h2 c (by simp))
    simp only [detM]; omega
  · have h1 := H [a, b, c] (by simp)
    have h2 := H [d, e, f] (by simp)
    have h3 := H [g, h', j] (by simp)
    have two : ∀ x y z w : Int, x.natAbs ≤ 9 → y.natAbs ≤ 9 → z.natAbs ≤ 9 → w.natAbs ≤ 9 → (x * y - z * w).natAbs ≤ 162 := fun x y z w hx hy hz hw => by
      have m1 : (x * y).natAbs ≤ 9 * 9 := na_mul hx hy
      have m2 : (z * w).natAbs ≤ 9 * 9 := na_mul hz hw
      omega
    have k1 : (a * (e * j - f * h')).natAbs ≤ 9 * 162 := na_mul (h1 a (by simp)) (two _ _ _ _ (h2 e (by simp)) (h3 j (by simp)) (h2 f (by simp)) (h3 h' (by simp)))
    have k2 : (b * (d * j - f * g)).natAbs ≤ 9 * 162 := na_mul (h1 b (by simp)) (two _ _ _ _ (h2 d (by simp)) (h3 j (by simp)) (h2 f (by simp)) (h3 g (by simp)))
    have k3 : (c * (d * h' - e * g)).natAbs ≤ 9 * 162 := na_mul (h1 c (by simp)) (two _ _ _ _ (h2 d (by simp)) (h3 h' (by simp)) (h2 e (by simp)) (h3 g (by simp)))
    simp only [detM]; omega
def unitL (n j : Nat) : List Int := (List.range n).map fun k => if k = j then 1 else 0
def unitR (n j : Nat) : List (Int × Int) := (List.range n).map fun k => if k = j then (1, 1) else (0, 0)
theorem sgn_unit {m : List (List Int)} (h : SqM m) {i j : Nat} (hi : i < m.length) (hj : j < m.length) : sgn m j i = rpd m i (unitL m.length j) := by
  rcases sq_cases h with rfl | ⟨a, rfl⟩ | ⟨a, b, c, d, rfl⟩ | ⟨a, b, c, d, e, f, g, h', k, rfl⟩
  · simp at hi
  · have h1 : i = 0 := by simpa using hi
    have h2 : j = 0 := by simpa using hj
    subst h1 h2
    simp [sgn, minorM, rpd, repl, detM, unitL]
  · have h1 : i = 0 ∨ i = 1 := by simp at hi; omega
    have h2 : j = 0 ∨ j = 1 := by simp at hj; omega
    rcases h1 with rfl | rfl <;> rcases h2 with rfl | rfl <;> simp [sgn, minorM, rpd, repl, detM, unitL, List.range_succ]
  · have h1 : i = 0 ∨ i = 1 ∨ i = 2 := by simp at hi; omega
    have h2 : j = 0 ∨ j = 1 ∨ j = 2 := by simp at hj; omega
    rcases h1 with rfl | rfl | rfl <;> rcases h2 with rfl | rfl | rfl <;> simp [sgn, minorM, rpd, repl, detM, unitL, List.range_succ] <;> grind
theorem inv_ne {t : Tab} (inv : invB t = true) {c : List (List Int)} (hc : c ∈ cornersL t) : detM c ≠ 0 := by
  have a1 : minV (vals t) ≤ detM c := minV_le (List.mem_map.mpr ⟨c, hc, rfl⟩)
  have a2 : detM c ≤ maxV (vals t) := le_maxV (List.mem_map.mpr ⟨c, hc, rfl⟩)
  unfold invB at inv
  simp only [Bool.or_eq_true, decide_eq_true_eq] at inv
  omega
theorem inv_same {t : Tab} (inv : invB t = true) {c d : List (List Int)} (hc : c ∈ cornersL t) (hd : d ∈ cornersL t) : 0 < detM c * detM d := by
  have a1 : minV (vals t) ≤ detM c := minV_le (List.mem_map.mpr ⟨c, hc, rfl⟩)
  have a2 : detM c ≤ maxV (vals t) := le_maxV (List.mem_map.mpr ⟨c, hc, rfl⟩)
  have b1 : minV (vals t) ≤ detM d := minV_le (List.mem_map.mpr ⟨d, hd, rfl⟩)
  have b2 : detM d ≤ maxV (vals t) := le_maxV (List.mem_map.mpr ⟨d, hd, rfl⟩)
  unfold invB at inv
  simp only [Bool.or_eq_true, decide_eq_true_eq] at inv
  rcases inv with z | z
  · exact Int.mul_pos (by omega) (by omega)
  · exact Int.mul_pos_of_neg_of_neg (by omega) (by omega)
/-- all unknowns of corners with sides of ends -/
def unk (c : List (List Int)) (i : Nat) (d : List Int) : Int × Int := lowN (rpd c i d) (detM c)
def sols (t : Tab) (right : List (Int × Int)) (i : Nat) : List (Int × Int) := (cornersL t).flatMap fun c => (rowsC right).map fun d => unk c i d
def IsMinF (l : List (Int × Int)) (m : Int × Int) : Prop := m ∈ l ∧ ∀ x ∈ l, fle m x
def IsMaxF (l : List (Int × Int)) (m : Int × Int) : Prop := m ∈ l ∧ ∀ x ∈ l, fle x m
theorem unk_lt {t : Tab} (inv : invB t = true) {c : List (List Int)} (hc : c ∈ cornersL t) (i : Nat) (d : List Int) : Lt (unk c i d) := low_lt (inv_ne inv hc)
theorem unk_64 {t : Tab} (ht : TabOk t) (inv : invB t = true) {c : List (List Int)} (hc : c ∈ cornersL t) (i : Nat) (d : List Int) : F64 (unk c i d) := by
  have h1 := (unk_lt inv hc i d).pos
  have h2 := (low_le (t := rpd c i d) (inv_ne inv hc)).2
  have h3 := det_bd (corner_sq ht.shp hc) (corner_nine ht hc)
  exact ⟨h1, by unfold unk; omega⟩
theorem run_need_place (t : Tab) (i : Nat) (hi : i < t.length) : run Pd W (n + 3) 69 [tabD t, .int i] s = .ok .non s := by
  have h := run_is_whole (W := W) (n := n) (s := s) i 0 ((t.length : Int) - 1)
  have h1 : (0 : Int) ≤ (i : Int) := by omega
  have h2 : (i : Int) ≤ (t.length : Int) - 1 := by omega
  rw [call_of (d := c_need_place) rfl rfl]
  simp [c_need_place, len_tab, h, h1, h2]
theorem run_need_invertible (t : Tab) (ht : TabOk t) (inv : invB t = true) : run Pd W (n + 7) 70 [tabD t] s = .ok .non s := by
  have h := run_inv (W := W) (n := n) (s := s) t ht.shp ht.bdT
  rw [call_of (d := c_need_invertible) rfl rfl]
  simp [c_need_invertible, h, inv]
theorem run_need_inverse (t : Tab) (ht : TabOk t) (inv : invB t = true) (i j : Nat) (hi : i < t.length) (hj : j < t.length) : run Pd W (n + 8) 74 [tabD t, .int i, .int j] s = .ok .non s := by
  rw [call_of (d := c_need_inverse) rfl rfl]
  simp [c_need_inverse, run_need_table t ht, run_need_place t i hi, run_need_place t j hj, run_need_invertible t ht inv]
theorem run_inverse_values (hW : Big W) (t : Tab) (ht : TabOk t) (inv : invB t = true) (i j : Nat) (hi : i < t.length) (hj : j < t.length) : run Pd W (n + 5) 71 [tabD t, .int i, .int j] s = .ok (.lst ((cornersL t).map fun c => .tup [pD (unk c i (unitL t.length j)), matD c])) s := by
  have hsz : (cornersL t).length ≤ 1000000 := by have := corners_small ht.shp; omega
  have e := mapR_all (f := itemK (run Pd W (n + 4)) (.tup2 (.name 3) (.name 4)) .none (.tup (.cons (.call 48 (.cons (.call 55 (.cons (.var 4) (.cons (.var 2) (.cons (.var 1) .nil)))) (.cons (.var 3) .nil))) (.cons (.var 4) .nil))) [.val (tabD t), .val (.int i), .val (.int j), .no, .no]) (φ := valD) (fun c => .tup [pD (unk c i (unitL t.length j)), matD c]) (s := s) (l := cornersL t) fun c hc => by
    have hcl := corner_len hc
    have r1 := run_signed (W := W) (n := n) (s := s) c (corner_sq ht.shp hc) (corner_64 ht.bdT hc) j i (by omega) (by omega)
    have hb := det_bd (corner_sq ht.shp hc) (corner_nine ht hc)
    have r2 := run_low (W := W) (n := n + 2) (s := s) hW (sgn c j i) (detM c) (inv_ne inv hc) (by unfold E40; omega)
    have e0 := sgn_unit (corner_sq ht.shp hc) (i := i) (j := j) (by omega) (by omega)
    rw [hcl] at e0
    simp [itemK, valD, r1, r2]
    unfold unk
    rw [e0]
  rw [call_of (d := c_inverse_values) rfl rfl]
  simp [c_inverse_values, run_with_values t ht.shp ht.bdT, e, hsz]
theorem rows_unit (n j : Nat) : rowsC (unitR n j) = [unitL n j] := by
  have key : ∀ (l : List (Int × Int)) (acc : List Int), (∀ p ∈ l, p.1 = p.2) → l.foldl growR [acc] = [acc ++ l.map (·.1)] := by
    intro l
    induction l with
    | nil => intro acc _; simp
    | cons p l ih =>
      intro acc h
      have e : growR [acc] p = [acc ++ [p.1]] := by
        have := h p (by simp)
        simp [growR, endsP, this]
      rw [List.foldl_cons, e, ih _ (fun p hp => h p (by simp [hp]))]
      simp
  unfold rowsC unitR
  rw [key _ _ (fun p hp => by obtain ⟨k, _, rfl⟩ := List.mem_map.mp hp; split <;> rfl)]
  simp only [List.nil_append, List.map_map, unitL]
  congr 1
  apply List.map_congr_left
  intro k _
  simp only [Function.comp]
  split <;> rfl
theorem sols_unit (t : Tab) (i j : Nat) : sols t (unitR t.length j) i = (cornersL t).map fun c => unk c i (unitL t.length j) := by
  unfold sols
  rw [rows_unit]
  induction cornersL t with
  | nil => rfl
  | cons x l ih => rw [List.flatMap_cons, ih]; rfl
theorem best_min {a : Type} (f : a → Int × Int) (x : a) (l : List a) (hf : ∀ z ∈ x :: l, 0 < (f z).2) : IsMinF ((x :: l).map f) (f (bestL f false x l)) ∧ IsMaxF ((x :: l).map f) (f (bestL f true x l)) := by
  refine ⟨⟨List.mem_map.mpr ⟨_, bestL_mem f false l x, rfl⟩, fun y hy => ?_⟩, ⟨List.mem_map.mpr ⟨_, bestL_mem f true l x, rfl⟩, fun y hy => ?_⟩⟩
  · obtain ⟨z, hz, rfl⟩ := List.mem_map.mp hy
    exact bestL_dn f l x hf z hz
  · obtain ⟨z, hz, rfl⟩ := List.mem_map.mp hy
    exact bestL_up f l x hf z hz
theorem run_inverse_range (hW : Big W) (t : Tab) (ht : TabOk t) (inv : invB t = true) (i j : Nat) (hi : i < t.length) (hj : j < t.length) :
    ∃ lo hi, IsMinF (sols t (unitR t.length j) i) lo ∧ IsMaxF (sols t (unitR t.length j) i) hi ∧ run Pd W (n + 9) 75 [tabD t, .int i, .int j] s = .ok (.tup [pD lo, pD hi]) s := by
  have rv := run_inverse_values (W := W) (n := n + 3) (s := s) hW t ht inv i j hi hj
  rw [sols_unit]
  cases hc : cornersL t with
  | nil => exact absurd hc (corners_ne t)
  | cons x l =>
    have hm : ∀ z ∈ x :: l, z ∈ cornersL t := fun z hz => by rw [hc]; exact hz
    obtain ⟨b1, b2⟩ := best_min (fun c => unk c i (unitL t.length j)) x l (fun z hz => (unk_lt inv (hm z hz) i _).pos)
    refine ⟨_, _, b1, b2, ?_⟩
    rw [hc] at rv
    have p1 := run_best_pair (W := W) (n := n + 6) (s := s) (fun c => unk c i (unitL t.length j)) matD true 1 rfl x l (fun z hz => unk_64 ht inv (hm z hz) i _)
    have p2 := run_best_pair (W := W) (n := n + 6) (s := s) (fun c => unk c i (unitL t.length j)) matD false (-1) rfl x l (fun z hz => unk_64 ht inv (hm z hz) i _)
    rw [call_of (d := c_inverse_range) rfl rfl]
    simp [c_inverse_range, run_need_inverse t ht inv i j hi hj, rv]
    simp at p1 p2
    simp [p1, p2]
def pick (x : Int) (p : Int × Int) : Int := if 0 < x then p.2 else p.1
def bestS (c : List (List Int)) (right : List (Int × Int)) (i : Nat) (sg : Int) : List Int := (right.zip (List.range right.length)).map fun z => pick (sgn c z.2 i * detM c * sg) z.1
theorem pick_up {x d : Int} {p : Int × Int} (hp : p.1 ≤ p.2) (hd : IsEnd p d) : x * d ≤ x * pick x p := by
  have hd' : d = p.1 ∨ d = p.2 := hd
  unfold pick
  split
  · exact Int.mul_le_mul_of_nonneg_left (by omega) (by omega)
  · have := Int.mul_le_mul_of_nonneg_left (show p.1 ≤ d by omega) (show 0 ≤ -x by omega)
    rw [Int.neg_mul, Int.neg_mul] at this
    omega
theorem pick_dn {x d : Int} {p : Int × Int} (hp : p.1 ≤ p.2) (hd : IsEnd p d) : x * pick (x * -1) p ≤ x * d := by
  have h := pick_up (x := x * -1) hp hd
  generalize pick (x * -1) p = y at *
  grind
theorem pick_end (x : Int) (p : Int × Int) : IsEnd p (pick x p) := by
  unfold pick
  split
  · exact .inr rfl
  · exact .inl rfl
theorem best_mem (c : List (List Int)) (right : List (Int × Int)) (i : Nat) (sg : Int) : bestS c right i sg ∈ rowsC right := by
  refine rowsC_mem.mpr ?_
  have key : ∀ (l : List (Int × Int)) (ks : List Nat), l.length = ks.length → All2 IsEnd l ((l.zip ks).map fun z => pick (sgn c z.2 i * detM c * sg) z.1) := by
    intro l
    induction l with
    | nil => intro ks _; exact .nil
    | cons p l ih =>
      intro ks h
      match ks, h with
      | k :: ks, h => exact .cons (pick_end _ _) (ih ks (by simpa using h))
  exact key right _ (by simp)
theorem best_le {c : List (List Int)} (h : SqM c) {right : List (Int × Int)} (hl : right.length = c.length) (hr : ∀ p ∈ right, p.1 ≤ p.2) {i : Nat} (hi : i < c.length) {d : List Int} (hd : d ∈ rowsC right) :
    rpd c i d * detM c ≤ rpd c i (bestS c right i 1) * detM c ∧ rpd c i (bestS c right i (-1)) * detM c ≤ rpd c i d * detM c := by
  have hd := rowsC_mem.mp hd
  generalize hv : detM c = v
  rcases sq_cases h with rfl | ⟨a, rfl⟩ | ⟨a, b, c, d, rfl⟩ | ⟨a, b, c, d, e, f, g, h', k, rfl⟩
  · simp at hi
  · match right, hl with
    | [P], _ =>
      obtain ⟨p, rfl, h1⟩ := all2_one hd
      have hi0 : i = 0 := by simpa using hi
      subst hi0
      have z1 := hr P (by simp)
      have e : ∀ sg, bestS [[a]] [P] 0 sg = [pick (sgn [[a]] 0 0 * v * sg) P] := fun sg => by simp [bestS, hv]
      rw [e, e, ← cof1, ← cof1, ← cof1, Int.mul_one]
      have k1 := pick_up (x := sgn [[a]] 0 0 * v) z1 h1
      have k2 := pick_dn (x := sgn [[a]] 0 0 * v) z1 h1
      constructor <;> grind
  · match right, hl with
    | [P, Q], _ =>
      obtain ⟨p, q, rfl, h1, h2⟩ := all2_two hd
      have z1 := hr P (by simp)
      have z2 := hr Q (by simp)
      have hi2 : i < 2 := hi
      have e : ∀ sg, bestS [[a, b], [c, d]] [P, Q] i sg = [pick (sgn [[a, b], [c, d]] 0 i * v * sg) P, pick (sgn [[a, b], [c, d]] 1 i * v * sg) Q] := fun sg => by simp [bestS, List.range_succ, hv]
      rw [e, e, ← cof2 i hi2, ← cof2 i hi2, ← cof2 i hi2]
      generalize sgn [[a, b], [c, d]] 0 i = s0 at *
      generalize sgn [[a, b], [c, d]] 1 i = s1 at *
      have k1 := pick_up (x := s0 * v) z1 h1
      have k2 := pick_dn (x := s0 * v) z1 h1
      have k3 := pick_up (x := s1 * v) z2 h2
      have k4 := pick_dn (x := s1 * v) z2 h2
      simp only [Int.mul_one]
      constructor <;> grind
  · match right, hl with
    | [P, Q, S], _ =>
      obtain ⟨p, q, r, rfl, h1, h2, h3⟩ := all2_three hd
      have z1 := hr P (by simp)
      have z2 := hr Q (by simp)
      have z3 := hr S (by simp)
      have hi3 : i < 3 := hi
      have eb : ∀ sg, bestS [[a, b, c], [d, e, f], [g, h', k]] [P, Q, S] i sg = [pick (sgn [[a, b, c], [d, e, f], [g, h', k]] 0 i * v * sg) P, pick (sgn [[a, b, c], [d, e, f], [g, h', k]] 1 i * v * sg) Q, pick (sgn [[a, b, c], [d, e, f], [g, h', k]] 2 i * v * sg) S] := fun sg => by simp [bestS, List.range_succ, hv]
      rw [eb, eb, ← cof3 i hi3, ← cof3 i hi3, ← cof3 i hi3]
      clear eb
      generalize sgn [[a, b, c], [d, e, f], [g, h', k]] 0 i = s0 at *
      generalize sgn [[a, b, c], [d, e, f], [g, h', k]] 1 i = s1 at *
      generalize sgn [[a, b, c], [d, e, f], [g, h', k]] 2 i = s2 at *
      have k1 := pick_up (x := s0 * v) z1 h1
      have k2 := pick_dn (x := s0 * v) z1 h1
      have k3 := pick_up (x := s1 * v) z2 h2
      have k4 := pick_dn (x := s1 * v) z2 h2
      have k5 := pick_up (x := s2 * v) z3 h3
      have k6 := pick_dn (x := s2 * v) z3 h3
      simp only [Int.mul_one]
      constructor <;> grind
theorem fle_low {a b c d : Int} (h : 0 < b * d) : fle (lowN a b) (lowN c d) ↔ a * d * (b * d) ≤ c * b * (b * d) := by
  have hb : b ≠ 0 := fun z => by rw [z] at h; simp at h
  have hd : d ≠ 0 := fun z => by rw [z] at h; simp at h
  have p1 := (low_lt (t := a) hb).pos
  have p2 := (low_lt (t := c) hd).pos
  have e1 := low_eq (t := a) hb
  have e2 := low_eq (t := c) hd
  unfold fle
  generalize lowN a b = p at *
  generalize lowN c d = q at *
  have pq : 0 < p.2 * q.2 := Int.mul_pos p1 p2
  have i1 : p.1 * q.2 * (b * d) = a * d * (p.2 * q.2) := by grind
  have i2 : q.1 * p.2 * (b * d) = c * b * (p.2 * q.2) := by grind
  constructor
  · intro z
    have z1 := Int.mul_le_mul_of_nonneg_right z (Int.le_of_lt h)
    rw [i1, i2] at z1
    exact Int.mul_le_mul_of_nonneg_right (Int.le_of_mul_le_mul_right z1 pq) (Int.le_of_lt h)
  · intro z
    have z1 := Int.le_of_mul_le_mul_right z h
    have z2 := Int.mul_le_mul_of_nonneg_right z1 (Int.le_of_lt pq)
    rw [← i1, ← i2] at z2
    exact Int.le_of_mul_le_mul_right z2 h
theorem fle_unk {t : Tab} (inv : invB t = true) {c c' : List (List Int)} (hc : c ∈ cornersL t) (hc' : c' ∈ cornersL t) {i : Nat} {d d' : List Int} (h : rpd c i d * detM c' ≤ rpd c' i d' * detM c) : fle (unk c i d) (unk c' i d') := by
  have p := inv_same inv hc hc'
  exact (fle_low p).mpr (Int.mul_le_mul_of_nonneg_right h (Int.le_of_lt p))
def bsI (s0 : Sto) (c : List (List Int)) (right : List (Int × Int)) (i : Nat) (sg : Int) (k : Nat) (r : Env) (s : Sto) : Prop := ∃ x6 x7 x8, r = [.val (matD c), .val (.int (detM c)), .val (rowD right), .val (.int i), .val (.int sg), .own (((right.zip (List.range right.length)).take k).map fun z => D.int (pick (sgn c z.2 i * detM c * sg) z.1)), x6, x7, x8] ∧ s = s0
theorem run_best_side (c : List (List Int)) (h : SqM c) (H : Ent64 c) (hd : (detM c).natAbs < 2 ^ 64) (right : List (Int × Int)) (hl : right.length = c.length) (i : Nat) (hi : i < c.length) (sg : Int) (hsg : sg.natAbs < 2 ^ 64) : run Pd W (n + 5) 86 [matD c, .int (detM c), rowD right, .int i, .int sg] s = .ok (vecD (bestS c right i sg)) s := by
  have h3 := h.hi
  refine ok_of ?_
  rw [call_of (d := c_best_side) rfl rfl]
  simp only [c_best_side]
  simp
  rw [show enumK (rowD right) s = .ok (enumD 0 (right.map pD)) s from rfl]
  simp
  refine for_enum (bsI s c right i sg) ⟨_, _, _, rfl, rfl⟩ (fun k p hp r s1 hI => ?_) (fun r s1 hI => ?_)
  · obtain ⟨x6, x7, x8, rfl, rfl⟩ := hI
    have hk : k < right.length := (List.getElem?_eq_some_iff.mp hp).1
    have r1 := run_signed (W := W) (n := n) (s := s1) c h H k i (by omega) hi
    have hz : (right.zip (List.range right.length))[k]? = some (p, k) := zip_get hp (List.getElem?_range hk)
    have hsz : min k right.length < 1000000 := by omega
    have hsz2 : min k (min right.length right.length) < 1000000 := by omega
    by_cases c0 : 0 < sgn c k i * detM c * sg
    · simp [r1, mul_ok s1 (Or.inr hd), mul_ok s1 (Or.inr hsg), c0, hsz]
      refine ⟨.val (.int k), .val (pD p), .val (.int (sgn c k i * detM c * sg)), ?_, rfl⟩
      simp [take_get hz, pick, c0]
    · simp [r1, mul_ok s1 (Or.inr hd), mul_ok s1 (Or.inr hsg), c0, hsz]
      refine ⟨.val (.int k), .val (pD p), .val (.int (sgn c k i * detM c * sg)), ?_, rfl⟩
      simp [take_get hz, pick, c0]
  · obtain ⟨x6, x7, x8, rfl, rfl⟩ := hI
    rw [List.take_of_length_le (by simp)]
    simp [vecD, bestS]
def ext (c : List (List Int)) (right : List (Int × Int)) (i : Nat) (sg : Int) : Int × Int := unk c i (bestS c right i sg)
def exL (s0 : Sto) (t : Tab) (right : List (Int × Int)) (i : Nat) (sg : Int) (k : Nat) (r : Env) (s : Sto) : Prop := ∃ x5 x6, r = [.val (tabD t), .val (rowD right), .val (.int i), .val (.int sg), .own (((cornersL t).take k).map fun c => .tup [pD (ext c right i sg), matD c]), x5, x6] ∧ s = s0
theorem rows_nine {right : List (Int × Int)} (hr : ∀ p ∈ right, -9 ≤ p.1 ∧ p.1 ≤ p.2 ∧ p.2 ≤ 9) {d : List Int} (hd : d ∈ rowsC right) : ∀ x ∈ d, x.natAbs ≤ 9 := by
  have h := rowsC_mem.mp hd
  have h3 := All2.mem_left (S := fun (b : Int × Int) (x : Int) => x.natAbs ≤ 9) h fun b hb x hx => by
    have := hr b hb
    have hx' : x = b.1 ∨ x = b.2 := hx
    omega
  exact All2.right (fun x : Int => x.natAbs ≤ 9) (fun _ _ r => r) h3
theorem run_extremes (hW : Big W) (t : Tab) (ht : TabOk t) (inv : invB t = true) (right : List (Int × Int)) (hr : RowOk t.length right) (i : Nat) (hi : i < t.length) (sg : Int) (hsg : sg.natAbs < 2 ^ 64) : run Pd W (n + 6) 87 [tabD t, rowD right, .int i, .int sg] s = .ok (.lst ((cornersL t).map fun c => .tup [pD (ext c right i sg), matD c])) s := by
  refine ok_of ?_
  rw [call_of (d := c_extremes) rfl rfl]
  simp only [c_extremes]
  simp [run_with_values t ht.shp ht.bdT]
  have hsm := corners_small ht.shp
  have h1 := ht.lo
  refine for_map (exL s t right i sg) ⟨_, _, rfl, rfl⟩ (fun k c hc r s1 hI => ?_) (fun r s1 hI => ?_)
  · obtain ⟨x5, x6, rfl, rfl⟩ := hI
    have hcm := List.mem_of_getElem? hc
    have hcl := corner_len hcm
    have hb := det_bd (corner_sq ht.shp hcm) (corner_nine ht hcm)
    have r1 := run_best_side (W := W) (n := n) (s := s1) c (corner_sq ht.shp hcm) (corner_64 ht.bdT hcm) (by omega) right (by rw [hr.len, hcl]) i (by omega) sg hsg
    have hbl : (bestS c right i sg).length = c.length := by simp [bestS, hr.len, hcl]
    have r2 := run_unknown (W := W) (n := n) (s := s1) hW c (corner_sq ht.shp hcm) (corner_64 ht.bdT hcm) (by omega) (bestS c right i sg) hbl (fun x hx => by have := rows_nine hr.rg (best_mem c right i sg) x hx; omega) (detM c) (inv_ne inv hcm) (by unfold E40; omega) i (by omega)
    have hsz : min k (cornersL t).length < 1000000 := by omega
    simp [valD, r1, r2, hsz]
    refine ⟨.val (.int (detM c)), .val (matD c), ?_, rfl⟩
    simp [take_get hc, ext, unk]
  · obtain ⟨x5, x6, rfl, rfl⟩ := hI
    rw [List.take_length]
    simp
theorem run_need_system (t : Tab) (ht : TabOk t) (inv : invB t = true) (right : List (Int × Int)) (hr : RowOk t.length right) (i : Nat) (hi : i < t.length) : run Pd W (n + 8) 88 [tabD t, rowD right, .int i] s = .ok .non s := by
  rw [call_of (d := c_need_system) rfl rfl]
  simp [c_need_system, run_need_table t ht, run_need_right t ht.hi right hr, run_need_place t i hi, run_need_invertible t ht inv]
theorem ext_max {t : Tab} (ht : TabOk t) (inv : invB t = true) {right : List (Int × Int)} (hr : RowOk t.length right) {i : Nat} (hi : i < t.length) {m : Int × Int} (h : IsMaxF ((cornersL t).map fun c => ext c right i 1) m) : IsMaxF (sols t right i) m := by
  obtain ⟨h1, h2⟩ := h
  obtain ⟨c, hc, rfl⟩ := List.mem_map.mp h1
  refine ⟨List.mem_flatMap.mpr ⟨c, hc, List.mem_map.mpr ⟨_, best_mem c right i 1, rfl⟩⟩, fun x hx => ?_⟩
  obtain ⟨c', hc', hx⟩ := List.mem_flatMap.mp hx
  obtain ⟨d, hd, rfl⟩ := List.mem_map.mp hx
  have k1 := h2 _ (List.mem_map.mpr ⟨c', hc', rfl⟩)
  have k2 := (best_le (corner_sq ht.shp hc') (right := right) (by rw [hr.len, corner_len hc']) (fun p hp => (hr.rg p hp).2.1) (i := i) (by rw [corner_len hc']; exact hi) hd).1
  exact fle_trans (unk_lt inv hc' i d).pos (unk_lt inv hc' i _).pos (unk_lt inv hc i _).pos (fle_unk inv hc' hc' k2) k1
theorem ext_min {t : Tab} (ht : TabOk t) (inv : invB t = true) {right : List (Int × Int)} (hr : RowOk t.length right) {i : Nat} (hi : i < t.length) {m : Int × Int} (h : IsMinF ((cornersL t).map fun c => ext c right i (-1)) m) : IsMinF (sols t right i) m := by
  obtain ⟨h1, h2⟩ := h
  obtain ⟨c, hc, rfl⟩ := List.mem_map.mp h1
  refine ⟨List.mem_flatMap.mpr ⟨c, hc, List.mem_map.mpr ⟨_, best_mem c right i (-1), rfl⟩⟩, fun x hx => ?_⟩
  obtain ⟨c', hc', hx⟩ := List.mem_flatMap.mp hx
  obtain ⟨d, hd, rfl⟩ := List.mem_map.mp hx
  have k1 := h2 _ (List.mem_map.mpr ⟨c', hc', rfl⟩)
  have k2 := (best_le (corner_sq ht.shp hc') (right := right) (by rw [hr.len, corner_len hc']) (fun p hp => (hr.rg p hp).2.1) (i := i) (by rw [corner_len hc']; exact hi) hd).2
  exact fle_trans (unk_lt inv hc i _).pos (unk_lt inv hc' i _).pos (unk_lt inv hc' i d).pos k1 (fle_unk inv hc' hc' k2)
theorem run_solution_range (hW : Big W) (t : Tab) (ht : TabOk t) (inv : invB t = true) (right : List (Int × Int)) (hr : RowOk t.length right) (i : Nat) (hi : i < t.length) :
    ∃ lo hi, IsMinF (sols t right i) lo ∧ IsMaxF (sols t right i) hi ∧ run Pd W (n + 9) 89 [tabD t, rowD right, .int i] s = .ok (.tup [pD lo, pD hi]) s := by
  have e1 := run_extremes (W := W) (n := n + 2) (s := s) hW t ht inv right hr i hi 1 (by decide)
  have e2 := run_extremes (W := W) (n := n + 2) (s := s) hW t ht inv right hr i hi (-1) (by decide)
  have emx := fun m => ext_max (m := m) ht inv hr hi
  have emn := fun m => ext_min (m := m) ht inv hr hi
  cases hc : cornersL t with
  | nil => exact absurd hc (corners_ne t)
  | cons x l =>
    have hm : ∀ z ∈ x :: l, z ∈ cornersL t := fun z hz => by rw [hc]; exact hz
    have b2 := (best_min (fun c => ext c right i 1) x l (fun z hz => (unk_lt inv (hm z hz) i _).pos)).2
    have b1 := (best_min (fun c => ext c right i (-1)) x l (fun z hz => (unk_lt inv (hm z hz) i _).pos)).1
    rw [hc] at e1 e2 emx emn
    refine ⟨_, _, emn _ b1, emx _ b2, ?_⟩
    have p1 := run_best_pair (W := W) (n := n + 6) (s := s) (fun c => ext c right i 1) matD true 1 rfl x l (fun z hz => unk_64 ht inv (hm z hz) i _)
    have p2 := run_best_pair (W := W) (n := n + 6) (s := s) (fun c => ext c right i (-1)) matD false (-1) rfl x l (fun z hz => unk_64 ht inv (hm z hz) i _)
    rw [call_of (d := c_solution_range) rfl rfl]
    simp at p1 p2 e1 e2
    simp [c_solution_range, run_need_system t ht inv right hr i hi, e1, e2, p1, p2]
end Rt
set_option maxHeartbeats 2000000
namespace Rt
open PySem
variable {W n : Nat} {s : Sto}
theorem All2.comp {a b c : Type} {R : a → b → Prop} {S : a → c → Prop} {T : b → c → Prop} (h : ∀ x y z, R x y → S x z → T y z) : ∀ {l : List a} {m : List b} {k : List c}, All2 R l m → All2 S l k → All2 T m k
  | _, _, _, .nil, .nil => .nil
  | _, _, _, .cons r t, .cons r' t' => .cons (h _ _ _ r r') (All2.comp h t t')
theorem All2.mono {a b : Type} {R S : a → b → Prop} (h : ∀ x y, R x y → S x y) : ∀ {l : List a} {m : List b}, All2 R l m → All2 S l m
  | _, _, .nil => .nil
  | _, _, .cons r t => .cons (h _ _ r) (All2.mono h t)
theorem sols_lt {t : Tab} (inv : invB t = true) {right : List (Int × Int)} {i : Nat} {x : Int × Int} (hx : x ∈ sols t right i) : Lt x := by
  obtain ⟨c, hc, hx⟩ := List.mem_flatMap.mp hx
  obtain ⟨d, hd, rfl⟩ := List.mem_map.mp hx
  exact unk_lt inv hc i d
end Rt
set_option maxHeartbeats 2000000
set_option maxHeartbeats 1000000
namespace Rt
open PySem
variable {W n : Nat} {s : Sto}
theorem drop_get0 {a : Type} {l r : List a} {x : a} {k : Nat} (e : l.drop k = x :: r) : l[k]? = some x ∧ l.drop (k + 1) = r := by
  constructor
  · have := congrArg (fun l => l[0]?) e
    simpa using this
  · have := congrArg (fun l => l.drop 1) e
    simpa [Nat.add_comm] using this
theorem mapR_enumY {a b : Type} {f : D → Sto → Res (Option D)} {φ : a → D} (g : a → b → D) (lf : List a) (full : List b) : ∀ (l : List a) (rs : List b) (k : Nat), lf.drop k = l → full.drop k = rs → l.length = rs.length → (∀ (j : Nat) x y, lf[j]? = some x → full[j]? = some y → f (.tup [.int j, φ x]) s = .ok (some (g x y)) s) →
    mapR f (enumD k (l.map φ)) s = .ok ((l.zip rs).map fun z => g z.1 z.2) s
  | [], rs, k, _, _, _, _ => rfl
  | x :: l, [], k, _, _, h, _ => by simp at h
  | x :: l, y :: rs, k, e1, e2, h, hf => by
    obtain ⟨a1, a2⟩ := drop_get0 e1
    obtain ⟨b1, b2⟩ := drop_get0 e2
    simp only [List.map_cons, enumD, mapR_cns, hf k x y a1 b1, Res.bindN_ok, mapR_enumY g lf full l rs (k + 1) a2 b2 (by simpa using h) hf, List.zip_cons_cons, Option.toList, List.cons_append, List.nil_append]
end Rt
set_option maxHeartbeats 2000000
namespace Rt
open PySem
variable {W n : Nat} {s : Sto}
def rowAt (m : Tab) (i : Nat) : List (Int × Int) := m.getD i []
def entAt (row : List (Int × Int)) (j : Nat) : Int × Int := row.getD j (0, 0)
def ent (m : Tab) (i j : Nat) : Int × Int := entAt (rowAt m i) j
structure Sq (k : Nat) (m : Tab) : Prop where
  len : m.length = k
  row : ∀ r ∈ m, r.length = k
theorem getD_mem {a : Type} {l : List a} {i : Nat} {d : a} (h : i < l.length) : l.getD i d ∈ l := by
  rw [List.getD_eq_getElem?_getD, List.getElem?_eq_getElem h]
  exact List.getElem_mem h
theorem getD_some {a : Type} {l : List a} {i : Nat} {d : a} (h : i < l.length) : l[i]? = some (l.getD i d) := by
  rw [List.getD_eq_getElem?_getD, List.getElem?_eq_getElem h]; rfl
theorem Sq.rl {k : Nat} {m : Tab} (h : Sq k m) {i : Nat} (hi : i < k) : (rowAt m i).length = k := h.row _ (getD_mem (by rw [h.len]; exact hi))
end Rt
set_option maxHeartbeats 2000000
namespace Rt
open PySem
variable {W n : Nat} {s : Sto}
theorem sub_vec (s : Sto) {v : List Int} {k : Nat} {x : Int} (h : v[k]? = some x) : subD s (vecD v) (.int k) = .ok (.int x) s := by
  rw [vecD, sub_tup]
  exact at_nat s (by rw [List.getElem?_map, h]; rfl)
theorem MemOk.sq {t m : Tab} (h : MemOk t m) : Sq t.length m := ⟨h.len, h.row⟩
theorem sub_mat (s : Sto) {M : List (List Int)} {k : Nat} {r : List Int} (h : M[k]? = some r) : subD s (matD M) (.int k) = .ok (vecD r) s := by
  rw [matD, sub_tup]
  exact at_nat s (by rw [List.getElem?_map, h]; rfl)
end Rt
set_option maxHeartbeats 2000000
namespace Rt
open PySem
variable {W n : Nat} {s : Sto}
@[simp] theorem mapR2_nil (f : D → Sto → Res (List D)) (s : Sto) : mapR2 f [] s = .ok [] s := rfl
@[simp] theorem mapR2_cns (f : D → Sto → Res (List D)) (x : D) (xs : List D) (s : Sto) : mapR2 f (x :: xs) s = (f x s).bindN fun o s => (mapR2 f xs s).bindN fun ys s => .ok (o ++ ys) s := rfl
theorem run_as_mem (m : List (List Int)) (h1 : m.length ≤ 1000) (h2 : ∀ r ∈ m, r.length ≤ 1000) : run Pd W (n + 1) 50 [matD m] s = .ok (tabD (m.map fun r => r.map fun x => (x, (1 : Int)))) s := by
  rw [call_of (d := c_as_member) rfl rfl]
  have e0 := mapR_all (f := itemK (run Pd W n) (.name 1) .none (.bi .tuple (.cons (.comp (.name 2) (.val (.var 1)) .none (.tup (.cons (.var 2) (.cons (.int 1) .nil))) [2]) .nil)) [.val (matD m), .no, .no]) (φ := vecD) (fun r => rowD (r.map fun x => (x, (1 : Int)))) (s := s) (l := m) fun r hr => by
    have hsz : r.length ≤ 1000000 := by have := h2 r hr; omega
    have e1 := mapR_all (f := itemK (run Pd W n) (.name 2) .none (.tup (.cons (.var 2) (.cons (.int 1) .nil))) [.val (matD m), .val (vecD r), .no]) (φ := D.int) (fun x => pD (x, 1)) (s := s) (l := r) fun p hp => by
      simp [itemK, pD]
    simp [vecD] at e1
    simp [itemK, vecD, e1, hsz, rowD, pD]
  have hsz : m.length ≤ 1000000 := by omega
  simp [matD] at e0
  simp [c_as_member, matD, e0, hsz, tabD]
theorem nine64 {m : List (List Int)} (H : ∀ r ∈ m, ∀ x ∈ r, x.natAbs ≤ 9) : Ent64 m := fun r hr x hx => by have := H r hr x hx; omega
end Rt
set_option maxHeartbeats 2000000
namespace Rt
open PySem
variable {W n : Nat} {s : Sto}
def asM (c : List (List Int)) : Tab := c.map fun r => r.map fun x => (x, (1 : Int))
/-- ints of moderate size -/
structure Jb (B k : Nat) (v : List Int) : Prop where
  len : v.length = k
  sm : ∀ x ∈ v, x.natAbs ≤ B
theorem Jb.mono {B B' k : Nat} {v : List Int} (h : Jb B k v) (hb : B ≤ B') : Jb B' k v := ⟨h.len, fun x hx => by have := h.sm x hx; omega⟩
theorem na_det_bd {m : List (List Int)} (h : SqM m) (H : ∀ r ∈ m, ∀ x ∈ r, x.natAbs ≤ 9) : (detM m).natAbs ≤ 10000 := by
  rcases sq_cases h with rfl | ⟨a, rfl⟩ | ⟨a, b, c, d, rfl⟩ | ⟨a, b, c, d, e, f, g, h', j, rfl⟩
  · simp [detM]
  · have := H [a] (by simp) a (by simp)
    simp only [detM]; omega
  · have h1 := H [a, b] (by simp)
    have h2 := H [c, d] (by simp)
    have m1 : (a * d).natAbs ≤ 9 * 9 := na_mul (h1 a (by simp)) (h2 d (by simp))
    have m2 : (b * c).natAbs ≤ 9 * 9 := na_mul (h1 b (by simp)) (h2 c (by simp))
    simp only [detM]; omega
  · have h1 := H [a, b, c] (by simp)
    have h2 := H [d, e, f] (by simp)
    have h3 := H [g, h', j] (by simp)
    have two : ∀ x y z w : Int, x.natAbs ≤ 9 → y.natAbs ≤ 9 → z.natAbs ≤ 9 → w.natAbs ≤ 9 → (x * y - z * w).natAbs ≤ 162 := fun x y z w hx hy hz hw => by
      have m1 : (x * y).natAbs ≤ 9 * 9 := na_mul hx hy
      have m2 : (z * w).natAbs ≤ 9 * 9 := na_mul hz hw
      omega
    have k1 : (a * (e * j - f * h')).natAbs ≤ 9 * 162 := na_mul (h1 a (by simp)) (two _ _ _ _ (h2 e (by simp)) (h3 j (by simp)) (h2 f (by simp)) (h3 h' (by simp)))
    have k2 : (b * (d * j - f * g)).natAbs ≤ 9 * 162 := na_mul (h1 b (by simp)) (two _ _ _ _ (h2 d (by simp)) (h3 j (by simp)) (h2 f (by simp)) (h3 g (by simp)))
    have k3 : (c * (d * h' - e * g)).natAbs ≤ 9 * 162 := na_mul (h1 c (by simp)) (two _ _ _ _ (h2 d (by simp)) (h3 h' (by simp)) (h2 e (by simp)) (h3 g (by simp)))
    simp only [detM]; omega
end Rt
set_option maxHeartbeats 2000000
namespace Rt
open PySem
variable {W n : Nat} {s : Sto}
def rng3K (x y z : D) (s : Sto) : Res (List D) := match x, y, z with
    | .int i, .int j, .int (-1) => if small i && small j then .ok (rngD i (i - j).toNat (-1)) s else .bad
    | _, _, _ => .bad
@[simp] theorem rng3K_int (i j : Int) : rng3K (.int i) (.int j) (.int (-1)) s = if small i && small j then .ok (rngD i (i - j).toNat (-1)) s else .bad := rfl
@[simp] theorem evi_rng3 (F : Nat → List D → Sto → Res D) (r : Env) (a b c : E) : evi F (.rng3 a b c) r s = (ev F a r s).bind fun x s => (ev F b r s).bind fun y s => (ev F c r s).bind fun z s => rng3K x y z s := by rw [evi] <;> rfl
theorem eqvAll_map {a : Type} [DecidableEq a] (φ : a → D) (h : ∀ x y, eqv (φ x) (φ y) = decide (x = y)) : ∀ l m : List a, eqvAll (l.map φ) (m.map φ) = decide (l = m)
  | [], [] => by simp
  | [], _ :: _ => by simp
  | _ :: _, [] => by simp
  | x :: l, y :: m => by
    simp only [List.map_cons, eqvAll_cons, h, eqvAll_map φ h l m, List.cons.injEq]
    by_cases a1 : x = y <;> by_cases a2 : l = m <;> simp [a1, a2]
theorem eqv_intD (x y : Int) : eqv (.int x) (.int y) = decide (x = y) := by
  rw [eqv]; by_cases h : x = y <;> simp [h]
theorem eqv_pair (p q : Int × Int) : eqv (pD p) (pD q) = decide (p = q) := by
  obtain ⟨a, b⟩ := p; obtain ⟨c, d⟩ := q
  rw [eqv_pD]
  by_cases h1 : a = c <;> by_cases h2 : b = d <;> simp [h1, h2]
theorem eqv_vec (x y : List Int) : eqv (vecD x) (vecD y) = decide (x = y) := by
  rw [vecD, vecD, eqv_tup]; exact eqvAll_map D.int eqv_intD x y
theorem eqv_matD (x y : List (List Int)) : eqv (matD x) (matD y) = decide (x = y) := by
  rw [matD, matD, eqv_tup]; exact eqvAll_map vecD eqv_vec x y
theorem eqv_row (x y : List (Int × Int)) : eqv (rowD x) (rowD y) = decide (x = y) := by
  rw [rowD, rowD, eqv_tup]; exact eqvAll_map pD eqv_pair x y
theorem eqv_tab (x y : Tab) : eqv (tabD x) (tabD y) = decide (x = y) := by
  rw [tabD, tabD, eqv_tup]; exact eqvAll_map rowD eqv_row x y
theorem shp_vecD (k : Nat) (l : List Int) : shp (k + 1) (vecD l) = true := by simp [vecD, shp]
theorem shp_matD (k : Nat) (m : List (List Int)) : shp (k + 2) (matD m) = true := by
  simp only [matD, shp, List.all_map, List.all_eq_true]
  intro x _
  exact shp_vecD k x
theorem shp_row (k : Nat) (l : List (Int × Int)) : shp (k + 2) (rowD l) = true := by
  simp only [rowD, shp, List.all_map, List.all_eq_true]
  intro x _
  exact shp_pD k x
theorem shp_tab (k : Nat) (m : Tab) : shp (k + 3) (tabD m) = true := by
  simp only [tabD, shp, List.all_map, List.all_eq_true]
  intro x _
  exact shp_row k x
theorem sh_mat (m : List (List Int)) : shp 30 (matD m) = true := shp_matD 28 m
theorem sh_tab (m : Tab) : shp 30 (tabD m) = true := shp_tab 27 m
end Rt
set_option maxHeartbeats 2000000
namespace Rt
open PySem
variable {W n : Nat} {s : Sto}
theorem str_exc (k c : Nat) : shp k (.str (excName c)) = true := by
  have h : PyData.strOk (excName c) = true := by
    unfold excName
    split <;> decide +kernel
  cases k <;> exact h
@[simp] theorem str_err (k : Nat) : shp k (.str "error") = true := by
  have h : PyData.strOk ("error" : Str) = true := by decide +kernel
  cases k <;> exact h
@[simp] theorem exc_nm0 : excName 0 = "InvalidTable" := rfl
@[simp] theorem exc_sh0 (k : Nat) : shp k (.str "InvalidTable") = true := str_exc k 0
@[simp] theorem exc_nm1 : excName 1 = "InvalidRight" := rfl
@[simp] theorem exc_sh1 (k : Nat) : shp k (.str "InvalidRight") = true := str_exc k 1
@[simp] theorem exc_nm2 : excName 2 = "InvalidVector" := rfl
@[simp] theorem exc_sh2 (k : Nat) : shp k (.str "InvalidVector") = true := str_exc k 2
@[simp] theorem exc_nm3 : excName 3 = "InvalidPlace" := rfl
@[simp] theorem exc_sh3 (k : Nat) : shp k (.str "InvalidPlace") = true := str_exc k 3
@[simp] theorem exc_nm4 : excName 4 = "InvalidNumber" := rfl
@[simp] theorem exc_sh4 (k : Nat) : shp k (.str "InvalidNumber") = true := str_exc k 4
@[simp] theorem exc_nm5 : excName 5 = "InvalidRange" := rfl
@[simp] theorem exc_sh5 (k : Nat) : shp k (.str "InvalidRange") = true := str_exc k 5
@[simp] theorem exc_nm6 : excName 6 = "InvalidText" := rfl
@[simp] theorem exc_sh6 (k : Nat) : shp k (.str "InvalidText") = true := str_exc k 6
@[simp] theorem exc_nm7 : excName 7 = "Singular" := rfl
@[simp] theorem exc_sh7 (k : Nat) : shp k (.str "Singular") = true := str_exc k 7
@[simp] theorem exc_nm8 : excName 8 = "NotSymmetric" := rfl
@[simp] theorem exc_sh8 (k : Nat) : shp k (.str "NotSymmetric") = true := str_exc k 8
@[simp] theorem exc_nm9 : excName 9 = "Unlike" := rfl
@[simp] theorem exc_sh9 (k : Nat) : shp k (.str "Unlike") = true := str_exc k 9
@[simp] theorem exc_nm10 : excName 10 = "TooLarge" := rfl
@[simp] theorem exc_sh10 (k : Nat) : shp k (.str "TooLarge") = true := str_exc k 10
@[simp] theorem exc_nm11 : excName 11 = "NothingToUndo" := rfl
@[simp] theorem exc_sh11 (k : Nat) : shp k (.str "NothingToUndo") = true := str_exc k 11
theorem fle_lt_of {p q : Int × Int} (h : flt p q = true) : ¬ fle q p := by
  unfold flt at h; unfold fle; simp only [decide_eq_true_eq] at h; omega
theorem best_find {a : Type} (f : a → Int × Int) : ∀ (l : List a) (x : a), (∀ z ∈ x :: l, 0 < (f z).2) → (x :: l).find? (fun z => decide ((f (bestL f true x l)).1 * (f z).2 ≤ (f z).1 * (f (bestL f true x l)).2)) = some (bestL f true x l)
  | [], x, _ => by simp [bestL]
  | y :: l, x, hp => by
    have hx := hp x (by simp)
    have hy := hp y (by simp)
    rw [bestL]
    simp only [better, cond_true]
    have hb2 : flt (f x) (f y) = true ∨ flt (f x) (f y) = false := by cases flt (f x) (f y) <;> simp
    rcases hb2 with hb | hb
    · simp only [hb, cond_true]
      have ih := best_find f l y (fun z hz => hp z (by simp [List.mem_cons.mp hz]))
      have hm := hp (bestL f true y l) (by have := bestL_mem f true l y; simp only [List.mem_cons] at this ⊢; exact .inr this)
      have hup := bestL_up f l y (fun z hz => hp z (by simp [List.mem_cons.mp hz])) y (by simp)
      rw [List.find?_cons_of_neg]
      · exact ih
      · simp only [decide_eq_true_eq]
        intro q
        have q : fle (f (bestL f true y l)) (f x) := q
        exact fle_lt_of hb (fle_trans hy hm hx hup q)
    · simp only [hb, cond_false]
      have hp' : ∀ z ∈ x :: l, 0 < (f z).2 := fun z hz => hp z (by rcases List.mem_cons.mp hz with e | e <;> simp [e])
      have ih := best_find f l x hp'
      have hm := hp' _ (bestL_mem f true l x)
      by_cases q : fle (f (bestL f true x l)) (f x)
      · rw [List.find?_cons_of_pos (by simpa [fle] using q)] at ih ⊢
        exact ih
      · rw [List.find?_cons_of_neg (by simpa [fle] using q)] at ih
        rw [List.find?_cons_of_neg (by simpa [fle] using q), List.find?_cons_of_neg]
        · exact ih
        · simp only [decide_eq_true_eq]
          intro q2
          have q2 : fle (f (bestL f true x l)) (f y) := q2
          exact q (fle_trans hm hy hx q2 (fle_of_not hb))
theorem beq_pair (p q : Int × Int) : (p.1 == q.1 && p.2 == q.2) = decide (p = q) := by
  obtain ⟨a, b⟩ := p; obtain ⟨c, d⟩ := q
  by_cases h1 : a = c <;> by_cases h2 : b = d <;> simp [h1, h2]
theorem run_unit (m j : Nat) (hm : m ≤ 1000) : run Pd W (n + 1) 66 [.int m, .int j] s = .ok (vecD (unitL m j)) s := by
  have e := mapR_all (f := itemK (run Pd W n) (.name 2) .none (.bi .int (.cons (.cmp .eq (.var 2) (.var 1)) .nil)) [.val (.int m), .val (.int j), .no]) (φ := fun k : Nat => D.int k) (fun k => D.int (if k = j then 1 else 0)) (s := s) (l := List.range m) fun k hk => by
    by_cases h : k = j
    · simp [itemK, h]
    · have h2 : ¬ (k : Int) = (j : Int) := by omega
      simp [itemK, h, h2]
  have hsm : m ≤ 1000000 := by omega
  rw [call_of (d := c_law_unit) rfl rfl]
  simp [c_law_unit, small_nat hm, rngD_map, e, hsm, vecD, unitL, Function.comp]
theorem set_of_parts (s : Sto) (row : List Int) (i : Nat) (y : Int) (hi : i < row.length) (h : row.length ≤ 1000) : binD s .add (.tup (cutD (row.map D.int) none (some (i : Int)))) (.tup [.int y]) = .ok (.tup ((row.map D.int).take i ++ [.int y])) s ∧
    binD s .add (.tup ((row.map D.int).take i ++ [.int y])) (.tup (cutD (row.map D.int) (some ((i : Int) + 1)) none)) = .ok (vecD (row.set i y)) s := by
  obtain ⟨h1, h2⟩ := put3 s (row.map D.int) i (.int y) (by simpa using hi) (by simpa using h)
  refine ⟨h1, ?_⟩
  rw [h2, vecD, List.map_set]
theorem run_replaced (c : List (List Int)) (i : Nat) (sd : List Int) (hl : sd.length = c.length) (h3 : c.length ≤ 1000) (hr : ∀ r ∈ c, i < r.length ∧ r.length ≤ 1000) : run Pd W (n + 1) 77 [matD c, .int i, vecD sd] s = .ok (matD (repl c i sd)) s := by
  have e := mapR_enumZ (f := itemK (run Pd W n) (.tup2 (.name 3) (.name 4)) .none (.bin .add (.bin .add (.slice (.var 4) .none (.some (.var 1))) (.tup (.cons (.sub (.var 2) (.var 3)) .nil))) (.slice (.var 4) (.some (.bin .add (.var 1) (.int 1))) .none)) [.val (matD c), .val (.int i), .val (vecD sd), .no, .no]) (φ := vecD) (fun r y => vecD (r.set i y)) sd (s := s) c sd 0 (by simp) (by omega) (fun j r y hr' hy => by
    obtain ⟨h1, h2⟩ := hr r hr'
    obtain ⟨e1, e2⟩ := set_of_parts s r i y h1 h2
    have g : subD s (vecD sd) (.int j) = .ok (.int y) s := by rw [vecD, sub_tup]; exact at_nat s (by rw [List.getElem?_map, hy]; rfl)
    have g : atD s (sd.map D.int) (j : Int) = .ok (.int y) s := at_nat s (by rw [List.getElem?_map, hy]; rfl)
    rw [vecD, List.map_set] at e2
    simp [itemK, vecD, g, e1, e2])
  have hsm : min c.length sd.length ≤ 1000000 := by omega
  rw [call_of (d := c_law_replaced) rfl rfl]
  simp [c_law_replaced, matD] at e ⊢
  simp [e, hsm, repl]
theorem repl_sq {c : List (List Int)} (h : SqM c) {i : Nat} {sd : List Int} (hl : sd.length = c.length) : SqM (repl c i sd) ∧ (repl c i sd).length = c.length := by
  have e : (repl c i sd).length = c.length := by simp [repl, hl]
  refine ⟨⟨by rw [e]; exact h.hi, fun r hr => ?_⟩, e⟩
  obtain ⟨z, hz, rfl⟩ := List.mem_map.mp hr
  rw [e, List.length_set]
  exact h.sq _ (List.of_mem_zip hz).1
theorem repl_64 {c : List (List Int)} (h : Ent64 c) {i : Nat} {sd : List Int} (hs : ∀ x ∈ sd, x.natAbs < 2 ^ 63) : Ent64 (repl c i sd) := by
  intro r hr x hx
  obtain ⟨z, hz, rfl⟩ := List.mem_map.mp hr
  obtain ⟨z1, z2⟩ := List.of_mem_zip hz
  rcases List.mem_or_eq_of_mem_set hx with q | q
  · exact h _ z1 x q
  · rw [q]; exact hs _ z2
theorem unit_len (m j : Nat) : (unitL m j).length = m := by simp [unitL]
theorem unit_small (m j : Nat) : ∀ x ∈ unitL m j, x.natAbs < 2 ^ 63 := by
  intro x hx
  obtain ⟨k, _, rfl⟩ := List.mem_map.mp hx
  split <;> decide
/-- the determinant of a table with a unit column -/
theorem run_rpd (c : List (List Int)) (h : SqM c) (H : Ent64 c) (h1 : 1 ≤ c.length) (i j : Nat) (hi : i < c.length) :
    (∀ s : Sto, run Pd W (n + 1) 77 [matD c, .int i, vecD (unitL c.length j)] s = .ok (matD (repl c i (unitL c.length j))) s) ∧ ∀ s : Sto, run Pd W (n + 1) 44 [matD (repl c i (unitL c.length j))] s = .ok (.int (rpd c i (unitL c.length j))) s := by
  have h3 := h.hi
  obtain ⟨q1, q2⟩ := repl_sq (i := i) h (unit_len c.length j)
  refine ⟨fun s => run_replaced c i _ (unit_len _ _) (by omega) (fun r hr => by rw [h.sq r hr]; omega), fun s => ?_⟩
  exact run_ldet _ q1 (by omega) (repl_64 H (unit_small _ _))
instance {p q : Int × Int} : Decidable (fle p q) := inferInstanceAs (Decidable (_ ≤ _))
end Rt
set_option maxHeartbeats 2000000
namespace Rt
open PySem
variable {W n : Nat} {s : Sto}
theorem max_uniq {l : List (Int × Int)} (hl : ∀ x ∈ l, Lt x) {a b : Int × Int} (h1 : IsMaxF l a) (h2 : IsMaxF l b) : a = b := fle_anti (hl a h1.1) (hl b h2.1) (h2.2 a h1.1) (h1.2 b h2.1)
end Rt
set_option maxHeartbeats 2000000
namespace Rt
open PySem
variable {W n : Nat} {s : Sto}
theorem flat_len_eq {a b : Type} (f : a → List b) (c : Nat) (h : ∀ x, (f x).length = c) : ∀ l : List a, (l.flatMap f).length = l.length * c
  | [] => by simp
  | x :: l => by rw [List.flatMap_cons, List.length_append, h, flat_len_eq f c h l, List.length_cons, Nat.succ_mul, Nat.add_comm]
theorem growR_eq (l : List (List Int)) (p : Int × Int) : (growR l p).length = l.length * (endsP p).length := by
  unfold growR; exact flat_len_eq _ _ (fun x => by simp) l
theorem growT_eq (l : List (List (List Int))) (r : List (Int × Int)) : (growT l r).length = l.length * (rowsC r).length := by
  unfold growT; exact flat_len_eq _ _ (fun x => by simp) l
def ccI (s0 : Sto) (t : Tab) (k : Nat) (r : Env) (s : Sto) : Prop := ∃ x2 x3 x4, r = [.val (tabD t), .val (.int (((t.take k).foldl growT [[]]).length)), x2, x3, x4] ∧ s = s0
def ccJ (s0 : Sto) (t : Tab) (c : Nat) (row : List (Int × Int)) (k : Nat) (r : Env) (s : Sto) : Prop := ∃ x3 x4, r = [.val (tabD t), .val (.int ((c * ((row.take k).foldl growR [[]]).length : Nat))), .val (rowD row), x3, x4] ∧ s = s0
theorem run_count_corners (t : Tab) (ht : TabOk t) : run Pd W (n + 7) 8 [tabD t] s = .ok (.int (cornersL t).length) s := by
  refine ok_of ?_
  rw [call_of (d := c_count_corners) rfl rfl]
  simp only [c_count_corners]
  simp [run_need_table t ht, val_tab]
  refine for_map (ccI s t) ⟨_, _, _, rfl, rfl⟩ (fun k row hrow r s' hI => ?_) (fun r s' hI => ?_)
  · obtain ⟨x2, x3, x4, rfl, rfl⟩ := hI
    have hrm := List.mem_of_getElem? hrow
    have hrl := ht.sq row hrm
    have h3 := ht.hi
    have hb1 := foldT_take t k ht.shp
    generalize hc : ((t.take k).foldl growT [[]]).length = c at hb1 ⊢
    simp [val_row]
    refine for_map (ccJ s' t c row) ⟨_, _, by simp; exact ⟨rfl, rfl⟩, rfl⟩ (fun j p hp r s2 hI => ?_) (fun r s2 hI => ?_)
    · obtain ⟨y3, y4, rfl, rfl⟩ := hI
      have hb2 := foldR_take row j (by omega)
      have hlen : ((row.take (j + 1)).foldl growR [[]]).length = ((row.take j).foldl growR [[]]).length * (endsP p).length := by
        rw [take_get hp, List.foldl_append]
        exact growR_eq _ p
      have o1 : (1 : Int).natAbs < 2 ^ 64 := by decide
      have o2 : (2 : Int).natAbs < 2 ^ 64 := by decide
      rw [show pD p = .tup [.int p.1, .int p.2] from rfl]
      by_cases z : p.1 = p.2
      · have e : (endsP p).length = 1 := by simp [endsP, z]
        simp [z, mul_ok s2 (Or.inr o1)]
        rw [ccJ, hlen, e, Nat.mul_one]
        exact ⟨_, _, by simp; exact ⟨rfl, rfl⟩, rfl⟩
      · have e : (endsP p).length = 2 := by simp [endsP, z]
        simp [z, mul_ok s2 (Or.inr o2)]
        rw [ccJ, hlen, e]
        exact ⟨_, _, by simp [Int.mul_assoc]; exact ⟨rfl, rfl⟩, rfl⟩
    · obtain ⟨y3, y4, rfl, rfl⟩ := hI
      rw [List.take_of_length_le (Nat.le_refl _)]
      simp
      rw [ccI, take_get hrow, List.foldl_append, show List.foldl growT (List.foldl growT [[]] (List.take k t)) [row] = growT (List.foldl growT [[]] (List.take k t)) row from rfl, growT_eq, hc]
      exact ⟨_, _, _, by simp [rowsC]; exact ⟨rfl, rfl, rfl⟩, rfl⟩
  · obtain ⟨x2, x3, x4, rfl, rfl⟩ := hI
    rw [List.take_of_length_le (Nat.le_refl _)]
    simp
    rfl
end Rt
set_option maxHeartbeats 1000000
namespace Rt
open PySem
variable {W n : Nat} {s : Sto}
theorem rows_len {right : List (Int × Int)} {d : List Int} (h : d ∈ rowsC right) : d.length = right.length := (rowsC_mem.mp h).length
end Rt
set_option maxHeartbeats 1000000
namespace Rt
open PySem
variable {W n : Nat} {s : Sto}
theorem ent_rg {t : Tab} (ht : TabOk t) {i j : Nat} (hi : i < t.length) (hj : j < t.length) : -9 ≤ (ent t i j).1 ∧ (ent t i j).1 ≤ (ent t i j).2 ∧ (ent t i j).2 ≤ 9 := by
  have h1 : rowAt t i ∈ t := getD_mem hi
  have h2 : ent t i j ∈ rowAt t i := getD_mem (by rw [ht.sq _ h1]; exact hj)
  exact ht.rg _ h1 _ h2
end Rt
set_option maxHeartbeats 1000000
set_option maxHeartbeats 1000000
namespace Rt
open PySem
variable {W n : Nat} {s : Sto}
def entM (m : List (List Int)) (i j : Nat) : Int := (m.getD i []).getD j 0
end Rt
set_option maxHeartbeats 1000000
set_option maxHeartbeats 1000000
namespace Rt
open PySem
variable {W n : Nat} {s : Sto}
def setD (rows : List (List D)) (i j : Nat) (d : D) : List (List D) := rows.set i ((rows.getD i []).set j d)
theorem run_put (rows : List (List D)) (i j : Nat) (d : D) (hi : i < rows.length) (hl : rows.length ≤ 1000) (hj : j < (rows.getD i []).length) (hr : (rows.getD i []).length ≤ 1000) : run Pd W (n + 1) 51 [.tup (rows.map D.tup), .int i, .int j, d] s = .ok (.tup ((setD rows i j d).map D.tup)) s := by
  rw [call_of (W := W) (n := n) (d := c_put) (f := 51) (ds := [.tup (rows.map D.tup), .int i, .int j, d]) (s := s) rfl rfl]
  have hget : (rows.map D.tup)[i]? = some (.tup (rows.getD i [])) := by
    rw [List.getElem?_map, getD_some (d := []) hi]; rfl
  have hat : atD s (rows.map D.tup) (i : Int) = .ok (.tup (rows.getD i [])) s := at_nat s hget
  obtain ⟨a1, a2⟩ := put3 s (rows.getD i []) j d hj hr
  obtain ⟨b1, b2⟩ := put3 s (rows.map D.tup) i (.tup ((rows.getD i []).set j d)) (by simpa using hi) (by simpa using hl)
  have e : D.tup ((rows.map D.tup).set i (.tup ((rows.getD i []).set j d))) = .tup ((setD rows i j d).map D.tup) := by rw [setD, List.map_set]
  generalize rows.getD i [] = row at *
  simp only [c_put]
  simp -implicitDefEqProofs [hat, a1, a2, b1, b2, e]
def putM (m : List (List Int)) (i j : Nat) (x : Int) : List (List Int) := m.set i ((m.getD i []).set j x)
def putT (m : Tab) (i j : Nat) (p : Int × Int) : Tab := m.set i ((rowAt m i).set j p)
theorem map_getD {a b : Type} (f : List a → List b) (hf : f [] = []) (l : List (List a)) (i : Nat) : (l.map f).getD i [] = f (l.getD i []) := by
  rw [List.getD_eq_getElem?_getD, List.getD_eq_getElem?_getD, List.getElem?_map]
  cases l[i]? with
  | none => simp [hf]
  | some x => rfl
theorem run_putM (m : List (List Int)) (i j : Nat) (x : Int) (h : SqM m) (hi : i < m.length) (hj : j < m.length) : run Pd W (n + 1) 51 [matD m, .int i, .int j, .int x] s = .ok (matD (putM m i j x)) s := by
  have h3 := h.hi
  have hrow : (m.getD i []).length = m.length := h.sq _ (getD_mem hi)
  have e := run_put (W := W) (n := n) (s := s) (m.map fun r => r.map D.int) i j (.int x) (by simpa using hi) (by simp; omega) (by rw [map_getD _ rfl, List.length_map]; omega) (by rw [map_getD _ rfl, List.length_map]; omega)
  have e1 : D.tup ((m.map fun r => r.map D.int).map D.tup) = matD m := by rw [List.map_map]; rfl
  have e2 : D.tup ((setD (m.map fun r => r.map D.int) i j (.int x)).map D.tup) = matD (putM m i j x) := by
    rw [setD, map_getD _ rfl, matD, putM, List.map_set, List.map_set, vecD, List.map_set, List.map_map]; rfl
  rw [e1, e2] at e
  exact e
theorem run_putT (m : Tab) (i j : Nat) (p : Int × Int) {k : Nat} (h : Sq k m) (h3 : k ≤ 3) (hi : i < k) (hj : j < k) : run Pd W (n + 1) 51 [tabD m, .int i, .int j, pD p] s = .ok (tabD (putT m i j p)) s := by
  have hl := h.len
  have hrow : (rowAt m i).length = k := h.rl hi
  have hrow' : (m.getD i []).length = k := hrow
  have e := run_put (W := W) (n := n) (s := s) (m.map fun r => r.map pD) i j (pD p) (by rw [List.length_map]; omega) (by rw [List.length_map]; omega) (by rw [map_getD _ rfl, List.length_map]; omega) (by rw [map_getD _ rfl, List.length_map]; omega)
  have e1 : D.tup ((m.map fun r => r.map pD).map D.tup) = tabD m := by rw [List.map_map]; rfl
  have e2 : D.tup ((setD (m.map fun r => r.map pD) i j (pD p)).map D.tup) = tabD (putT m i j p) := by
    rw [setD, map_getD _ rfl, tabD, putT, List.map_set, List.map_set, rowD, List.map_set, List.map_map]; rfl
  rw [e1, e2] at e
  exact e
theorem putM_sq {m : List (List Int)} (h : SqM m) (i j : Nat) (x : Int) (hi : i < m.length) : SqM (putM m i j x) ∧ (putM m i j x).length = m.length := by
  have hl : (putM m i j x).length = m.length := by simp [putM]
  refine ⟨⟨by rw [hl]; exact h.hi, fun r hr => ?_⟩, hl⟩
  rw [hl]
  rcases List.mem_or_eq_of_mem_set hr with z | z
  · exact h.sq r z
  · rw [z, List.length_set]; exact h.sq _ (getD_mem hi)
theorem putM_ent {m : List (List Int)} (h : SqM m) {i j : Nat} (x : Int) (hi : i < m.length) (hj : j < m.length) (a b : Nat) : entM (putM m i j x) a b = if a = i ∧ b = j then x else entM m a b := by
  have hrow : (m.getD i []).length = m.length := h.sq _ (getD_mem hi)
  unfold entM putM
  by_cases ha : a = i
  · subst ha
    rw [List.getD_eq_getElem?_getD (l := m.set a _), List.getElem?_set_self hi, Option.getD_some]
    by_cases hb : b = j
    · subst hb
      rw [List.getD_eq_getElem?_getD, List.getElem?_set_self (by omega)]; simp
    · rw [List.getD_eq_getElem?_getD, List.getElem?_set_ne (Ne.symm hb)]
      simp [hb, List.getD_eq_getElem?_getD]
  · rw [List.getD_eq_getElem?_getD (l := m.set i _), List.getElem?_set_ne (Ne.symm ha)]
    simp [ha, List.getD_eq_getElem?_getD]
theorem lt_cases3 {i : Nat} (h : i < 3) : i = 0 ∨ i = 1 ∨ i = 2 := by omega
theorem det_put {m : List (List Int)} (h : SqM m) {i j : Nat} (x : Int) (hi : i < m.length) (hj : j < m.length) : detM (putM m i j x) = detM m + (x - entM m i j) * sgn m i j := by
  rcases sq_cases h with rfl | ⟨a, rfl⟩ | ⟨a, b, c, d, rfl⟩ | ⟨a, b, c, d, e, f, g, h', k, rfl⟩
  · simp at hi
  · have : i = 0 := by simp at hi; omega
    have : j = 0 := by simp at hj; omega
    subst i j
    simp [putM, detM, entM, sgn, minorM]
    omega
  · have hi' : i = 0 ∨ i = 1 := by simp at hi; omega
    have hj' : j = 0 ∨ j = 1 := by simp at hj; omega
    rcases hi' with rfl | rfl <;> rcases hj' with rfl | rfl <;> simp [putM, detM, entM, sgn, minorM] <;> grind
  · have hi' := lt_cases3 (i := i) (by simpa using hi)
    have hj' := lt_cases3 (i := j) (by simpa using hj)
    rcases hi' with rfl | rfl | rfl <;> rcases hj' with rfl | rfl | rfl <;> simp [putM, detM, entM, sgn, minorM] <;> grind
/-- tables of the same size with the same entries are the same -/
theorem mat_ext {m q : List (List Int)} (h : SqM m) (h' : SqM q) (hl : m.length = q.length) (e : ∀ i j, i < m.length → j < m.length → entM m i j = entM q i j) : m = q := by
  apply List.ext_getElem hl
  intro i h1 h2
  have r1 : m[i].length = m.length := h.sq _ (List.getElem_mem h1)
  have r2 : q[i].length = q.length := h'.sq _ (List.getElem_mem h2)
  apply List.ext_getElem (by omega)
  intro j g1 g2
  have := e i j h1 (by omega)
  simpa [entM, List.getD_eq_getElem?_getD, h1, h2, g1, g2] using this
end Rt
set_option maxHeartbeats 1000000
namespace Rt
open PySem
variable {W n : Nat} {s : Sto}
theorem ent_some {m : List (List Int)} (h : SqM m) {i j : Nat} (hi : i < m.length) (hj : j < m.length) : ∃ r, m[i]? = some r ∧ r[j]? = some (entM m i j) := by
  have h1 : m[i]? = some (m.getD i []) := getD_some hi
  have h2 : (m.getD i []).length = m.length := h.sq _ (getD_mem hi)
  exact ⟨_, h1, getD_some (by omega)⟩
theorem at_entry {x y first last u top sg : Int} (hu : 0 < u) (hl : last = first + (y - x) * sg) (h1 : first * u ≤ top) (h2 : top ≤ last * u) (hne : first ≠ last) (b : Int × Int) (b1 : b.1 ≤ x) (b2 : x ≤ b.2) (b3 : b.1 ≤ y) (b4 : y ≤ b.2) :
    0 < (last - first) * u ∧ inB (lowN (x * ((last - first) * u) + (y - x) * (top - first * u)) ((last - first) * u)) b = true ∧
    u * ((lowN (x * ((last - first) * u) + (y - x) * (top - first * u)) ((last - first) * u)).2 * first + ((lowN (x * ((last - first) * u) + (y - x) * (top - first * u)) ((last - first) * u)).1 - (lowN (x * ((last - first) * u) + (y - x) * (top - first * u)) ((last - first) * u)).2 * x) * sg) = top * (lowN (x * ((last - first) * u) + (y - x) * (top - first * u)) ((last - first) * u)).2 := by
  have hle : first * u ≤ last * u := by omega
  have hlt : first < last := by
    have := Int.le_of_mul_le_mul_right hle hu
    omega
  have hg : 0 < (last - first) * u := Int.mul_pos (by omega) hu
  refine ⟨hg, ?_, ?_⟩
  · rw [low_inB hg]
    generalize hG : (last - first) * u = G at *
    have hG' : last * u - first * u = G := by rw [← hG]; grind
    generalize hT : top - first * u = T at *
    have t0 : 0 ≤ T := by omega
    have t1 : 0 ≤ G - T := by omega
    have c1 := Int.mul_le_mul_of_nonneg_right b1 t1
    have c2 := Int.mul_le_mul_of_nonneg_right b3 t0
    have c3 := Int.mul_le_mul_of_nonneg_right b2 t1
    have c4 := Int.mul_le_mul_of_nonneg_right b4 t0
    have e1 : x * G + (y - x) * T = x * (G - T) + y * T := by grind
    have e2 : b.1 * G = b.1 * (G - T) + b.1 * T := by grind
    have e3 : b.2 * G = b.2 * (G - T) + b.2 * T := by grind
    unfold inB
    simp only [Bool.and_eq_true, decide_eq_true_eq]
    omega
  · have e := low_eq (t := x * ((last - first) * u) + (y - x) * (top - first * u)) (u := (last - first) * u) (by omega)
    generalize lowN (x * ((last - first) * u) + (y - x) * (top - first * u)) ((last - first) * u) = p at *
    have hyx : y - x ≠ 0 := by
      intro z
      rw [z, Int.zero_mul] at hl
      omega
    have e2 : (y - x) * (u * (p.2 * first + (p.1 - p.2 * x) * sg)) = (y - x) * (top * p.2) := by
      have e3 : last - first = (y - x) * sg := by omega
      rw [e3] at e
      grind
    exact Int.eq_of_mul_eq_mul_left hyx e2
def rgM (t : Tab) (c : List (List Int)) : Prop := ∀ a b, a < t.length → b < t.length → (ent t a b).1 ≤ entM c a b ∧ entM c a b ≤ (ent t a b).2
/-- a member that differs from a corner of the path in one entry, with the determinant v -/
def AtM (t : Tab) (v : Int × Int) (m : Tab) : Prop := ∃ (c : List (List Int)) (i j : Nat) (p : Int × Int), m = putT (asM c) i j p ∧ SqM c ∧ c.length = t.length ∧ i < t.length ∧ j < t.length ∧ rgM t c ∧ Lt p ∧ p.2 ≤ 20000 * v.2 ∧ inB p (ent t i j) = true ∧ v.2 * (p.2 * detM c + (p.1 - p.2 * entM c i j) * sgn c i j) = v.1 * p.2
def maC (t : Tab) (goal : List (List Int)) (v : Int × Int) (i j : Nat) (c : List (List Int)) : Prop := SqM c ∧ c.length = t.length ∧ rgM t c ∧ (∀ a b, a < t.length → b < t.length → (a < i ∨ a = i ∧ b < j) → entM c a b = entM goal a b) ∧ detM c * v.2 ≤ v.1
def maI (s0 : Sto) (t : Tab) (v : Int × Int) (lo hi : Int) (goal : List (List Int)) (k : Nat) (r : Env) (s : Sto) : Prop := ∃ c x8 x9 x10 x11 x12 x13 x14 x15, r = [.val (tabD t), .val (pD v), .val (.int v.1), .val (.int v.2), .val (.int lo), .val (.int hi), .val (matD c), .val (matD goal), x8, x9, x10, x11, x12, x13, x14, x15] ∧ s = s0 ∧ maC t goal v k 0 c
def maJ (s0 : Sto) (t : Tab) (v : Int × Int) (lo hi : Int) (goal : List (List Int)) (i : Nat) (k : Nat) (r : Env) (s : Sto) : Prop := ∃ c x9 x10 x11 x12 x13 x14 x15, r = [.val (tabD t), .val (pD v), .val (.int v.1), .val (.int v.2), .val (.int lo), .val (.int hi), .val (matD c), .val (matD goal), .val (.int i), x9, x10, x11, x12, x13, x14, x15] ∧ s = s0 ∧ maC t goal v i k c
def maQ (t : Tab) (v : Int × Int) (s0 : Sto) (d : D) (s : Sto) : Prop := s = s0 ∧ ∃ m, d = tabD m ∧ AtM t v m
theorem rg_nine {t : Tab} (ht : TabOk t) {c : List (List Int)} (hl : c.length = t.length) (h : SqM c) (hr : rgM t c) : ∀ r ∈ c, ∀ x ∈ r, x.natAbs ≤ 9 := by
  intro r hr' x hx
  obtain ⟨i, h1, h2⟩ := List.getElem_of_mem hr'
  obtain ⟨j, h3, h4⟩ := List.getElem_of_mem hx
  have rl := h.sq r hr'
  have e : entM c i j = x := by simp [entM, List.getD_eq_getElem?_getD, h1, h2, h3, h4]
  have q := hr i j (by omega) (by omega)
  have q2 := ent_rg ht (i := i) (j := j) (by omega) (by omega)
  rw [e] at q
  omega
theorem asM_sq {c : List (List Int)} (h : SqM c) : Sq c.length (asM c) := ⟨by simp [asM], fun r hr => by obtain ⟨r', hr', rfl⟩ := List.mem_map.mp hr; rw [List.length_map]; exact h.sq r' hr'⟩
theorem asM_ent' {c : List (List Int)} (h : SqM c) {i j : Nat} (hi : i < c.length) (hj : j < c.length) : ent (asM c) i j = (entM c i j, 1) := by
  have hr : (c.getD i []).length = c.length := h.sq _ (getD_mem hi)
  have hr' : c[i].length = c.length := h.sq _ (List.getElem_mem hi)
  simp [ent, rowAt, entAt, asM, entM, List.getD_eq_getElem?_getD, hi, hr', hj]
theorem asM_self {c : List (List Int)} (h : SqM c) {i j : Nat} (hi : i < c.length) (hj : j < c.length) : putT (asM c) i j (entM c i j, 1) = asM c := by
  have e := asM_ent' h hi hj
  have hl : i < (asM c).length := by simp [asM]; exact hi
  have hr : (rowAt (asM c) i).length = c.length := (asM_sq h).rl hi
  have e1 : (rowAt (asM c) i)[j]? = some (entM c i j, 1) := by
    rw [← e]; exact getD_some (by omega)
  have e2 : (rowAt (asM c) i).set j (entM c i j, 1) = rowAt (asM c) i := by
    apply List.ext_getElem?
    intro k
    rw [List.getElem?_set]
    split
    · subst k; rw [e1]; simp; omega
    · rfl
  rw [putT, e2]
  apply List.ext_getElem?
  intro k
  rw [List.getElem?_set]
  split
  · subst k
    exact (getD_some hl).symm
  · rfl
theorem All2.at {a b : Type} {R : a → b → Prop} : ∀ {l : List a} {m : List b}, All2 R l m → ∀ {k : Nat} {x : a} {y : b}, l[k]? = some x → m[k]? = some y → R x y
  | _, _, .nil, k, x, y, h, _ => by simp at h
  | _, _, .cons r t, 0, x, y, h1, h2 => by
    simp at h1 h2
    subst h1 h2
    exact r
  | _, _, .cons r t, k + 1, x, y, h1, h2 => All2.at t (by simpa using h1) (by simpa using h2)
theorem corner_rg {t : Tab} (ht : TabOk t) {c : List (List Int)} (h : c ∈ cornersL t) : rgM t c := by
  intro a b ha hb
  have h2 := corners_mem.mp h
  have sq := corner_sq ht.shp h
  have cl := corner_len h
  obtain ⟨r, h3, h4⟩ := ent_some sq (i := a) (j := b) (by omega) (by omega)
  have t1 : t[a]? = some (rowAt t a) := getD_some ha
  have rl : (rowAt t a).length = t.length := ht.sq _ (getD_mem ha)
  have t2 : (rowAt t a)[b]? = some (ent t a b) := getD_some (by omega)
  have h5 := (h2.at t1 h3).at t2 h4
  have h6 := ent_rg ht ha hb
  rcases h5 with h5 | h5 <;> omega
theorem stepMA (hW : Big W) {t : Tab} (ht : TabOk t) {v : Int × Int} {lo hi : Int} (hv : 0 < v.2) (hv6 : v.2 ≤ 1000000) {c goal : List (List Int)} {i j : Nat} (cs : SqM c) (cl : c.length = t.length) (cr : rgM t c) (ce : ∀ a b, a < t.length → b < t.length → (a < i ∨ a = i ∧ b < j) → entM c a b = entM goal a b) (cd : detM c * v.2 ≤ v.1) (gs : SqM goal) (gl : goal.length = t.length) (gr : rgM t goal) (hi' : i < t.length) (hj : j < t.length) {x10 x11 x12 x13 x14 x15 : Slot} {Q : Flow → Sto → Prop} {b : Ss} (hb : b = (.cons (.asg 10 (.call 51 (.cons (.var 6) (.cons (.var 8) (.cons (.var 9) (.cons (.sub (.sub (.var 7) (.var 8)) (.var 9)) .nil)))))) (.cons (.par [11, 12] (.cons (.call 36 (.cons (.var 6) .nil)) (.cons (.call 36 (.cons (.var 10) .nil)) .nil))) (.cons (.ifs (.chain .le .le (.bin .mul (.var 11) (.var 3)) (.var 2) (.bin .mul (.var 12) (.var 3))) (.cons (.asg 13 (.bin .sub (.sub (.sub (.var 7) (.var 8)) (.var 9)) (.sub (.sub (.var 6) (.var 8)) (.var 9)))) (.cons (.asg 14 (.tup (.cons (.sub (.sub (.var 6) (.var 8)) (.var 9)) (.cons (.int 1) .nil)))) (.cons (.ifs (.cmp .ne (.var 11) (.var 12)) (.cons (.asg 15 (.bin .mul (.bin .sub (.var 12) (.var 11)) (.var 3))) (.cons (.asg 14 (.call 48 (.cons (.bin .add (.bin .mul (.sub (.sub (.var 6) (.var 8)) (.var 9)) (.var 15)) (.bin .mul (.var 13) (.bin .sub (.var 2) (.bin .mul (.var 11) (.var 3))))) (.cons (.var 15) .nil)))) .nil)) .nil) (.cons (.ret (.call 51 (.cons (.call 50 (.cons (.var 6) .nil)) (.cons (.var 8) (.cons (.var 9) (.cons (.var 14) .nil)))))) .nil)))) .nil) (.cons (.asg 6 (.var 10)) .nil))))) (hQ : ∀ d, maQ t v s d s → Q (.ret d) s) :
    Wp (execs (run Pd W (n + 5)) W b [.val (tabD t), .val (pD v), .val (.int v.1), .val (.int v.2), .val (.int lo), .val (.int hi), .val (matD c), .val (matD goal), .val (.int i), .val (.int j), x10, x11, x12, x13, x14, x15] s) (loopP (maJ s t v lo hi goal i (j + 1)) Q) := by
  have h3 := ht.hi
  obtain ⟨rg, hg1, hg2⟩ := ent_some gs (i := i) (j := j) (by omega) (by omega)
  obtain ⟨rc, hc1, hc2⟩ := ent_some cs (i := i) (j := j) (by omega) (by omega)
  have gg1 := gr i j hi' hj
  have gc1 := cr i j hi' hj
  have tr := ent_rg ht hi' hj
  have ep := run_putM (W := W) (n := n + 4) (s := s) c i j (entM goal i j) cs (by omega) (by omega)
  obtain ⟨ls, ll⟩ := putM_sq cs i j (entM goal i j) (by omega)
  have le := putM_ent cs (entM goal i j) (i := i) (j := j) (by omega) (by omega)
  have lr : rgM t (putM c i j (entM goal i j)) := fun a b ha hb => by
    rw [le a b]
    split
    · rename_i z; rw [z.1, z.2]; exact gg1
    · exact cr a b ha hb
  have ld := det_put cs (entM goal i j) (i := i) (j := j) (by omega) (by omega)
  have c9 := rg_nine ht cl cs cr
  have l9 := rg_nine ht (by omega) ls lr
  have cb := na_det_bd cs c9
  have lb := na_det_bd ls l9
  have ed1 := run_det (W := W) (n := n + 2) (s := s) true c cs (nine64 c9)
  have ed2 := run_det (W := W) (n := n + 2) (s := s) true (putM c i j (entM goal i j)) ls (nine64 l9)
  rw [gm_tup] at ed1 ed2
  have lC : detM (putM c i j (entM goal i j)) * v.2 < v.1 → maC t goal v i (j + 1) (putM c i j (entM goal i j)) := fun h => by
    refine ⟨ls, by omega, lr, fun a b ha hb hab => ?_, by omega⟩
    rw [le a b]
    split
    · rename_i z; rw [z.1, z.2]
    · rename_i z; exact ce a b ha hb (by omega)
  have am : run Pd W (n + 5) 50 [matD c] s = .ok (tabD (asM c)) s := run_as_mem (W := W) (n := n + 4) (s := s) c (by omega) (fun r hr => by rw [cs.sq r hr]; omega)
  have pt := fun p => run_putT (W := W) (n := n + 4) (s := s) (asM c) i j p (asM_sq cs) (by omega) (by omega) (by omega)
  have v64 : v.2.natAbs < 2 ^ 64 := by omega
  generalize hL : putM c i j (entM goal i j) = later at *
  have hat : ∀ p : Int × Int, Lt p → p.2 ≤ 20000 * v.2 → inB p (ent t i j) = true → v.2 * (p.2 * detM c + (p.1 - p.2 * entM c i j) * sgn c i j) = v.1 * p.2 → Q (.ret (tabD (putT (asM c) i j p))) s := fun p p1 p2 p3 p4 => hQ _ ⟨rfl, _, rfl, c, i, j, p, rfl, cs, cl, hi', hj, cr, p1, p2, p3, p4⟩
  have hpx : D.tup [.int (entM c i j), .int 1] = pD (entM c i j, 1) := rfl
  subst hb
  by_cases hle : v.1 ≤ detM later * v.2
  · by_cases hne : detM c = detM later
    · have eqv : detM c * v.2 = v.1 := by rw [← hne] at hle; omega
      have cd2 : detM later * v.2 ≤ v.1 := by rw [← hne]; exact cd
      simp -implicitDefEqProofs [sub_mat s hg1, sub_vec s hg2, sub_mat s hc1, sub_vec s hc2, ep, ed1, ed2, mul_ok s (Or.inr v64), cd2, hle, hne, hpx, am, pt]
      refine hat (entM c i j, 1) ⟨by show (0 : Int) < 1; decide, by simp⟩ (by simp only; omega) ?_ ?_
      · simp [inB]; omega
      · simp only [Int.one_mul, Int.sub_self, Int.zero_mul, Int.add_zero, Int.mul_one]
        rw [Int.mul_comm]; exact eqv
    · obtain ⟨k1, k2, k3⟩ := at_entry hv ld cd hle hne (ent t i j) gc1.1 gc1.2 gg1.1 gg1.2
      have hgap : (detM later - detM c) * v.2 ≤ 20000 * v.2 := Int.mul_le_mul_of_nonneg_right (by omega) (by omega)
      have kle := (low_le (t := entM c i j * ((detM later - detM c) * v.2) + (entM goal i j - entM c i j) * (v.1 - detM c * v.2)) (u := (detM later - detM c) * v.2) (by omega)).2
      have klt := low_lt (t := entM c i j * ((detM later - detM c) * v.2) + (entM goal i j - entM c i j) * (v.1 - detM c * v.2)) (u := (detM later - detM c) * v.2) (by omega)
      have kl := run_low (W := W) (n := n + 3) (s := s) hW (entM c i j * ((detM later - detM c) * v.2) + (entM goal i j - entM c i j) * (v.1 - detM c * v.2)) ((detM later - detM c) * v.2) (by omega) (by show _ < 10000000000000000000000000000000000000000; omega)
      have m1 : (entM c i j).natAbs < 2 ^ 64 := by omega
      have m2 : (entM goal i j - entM c i j).natAbs < 2 ^ 64 := by omega
      have hne' : (detM c == detM later) = false := beq_eq_false_iff_ne.mpr hne
      simp -implicitDefEqProofs [sub_mat s hg1, sub_vec s hg2, sub_mat s hc1, sub_vec s hc2, ep, ed1, ed2, mul_ok s (Or.inr v64), cd, hle, hne', hpx, am, pt, kl, mul_ok s (Or.inl m1), mul_ok s (Or.inl m2)]
      exact hat _ klt (by omega) k2 k3
  · simp -implicitDefEqProofs [sub_mat s hg1, sub_vec s hg2, sub_mat s hc1, sub_vec s hc2, ep, ed1, ed2, mul_ok s (Or.inr v64), cd, hle]
    exact ⟨later, _, _, _, _, _, _, _, rfl, rfl, lC (by omega)⟩
theorem run_member_at (hW : Big W) (t : Tab) (ht : TabOk t) (v : Int × Int) (hv : 0 < v.2) (hv6 : v.2 ≤ 1000000) (b1 : minV (vals t) * v.2 ≤ v.1) (b2 : v.1 ≤ maxV (vals t) * v.2) : Wp (run Pd W (n + 6) 52 [tabD t, pD v] s) (maQ t v s) := by
  have h3 := ht.hi
  have h1 := ht.lo
  have e38 := run_ends_of (W := W) (n := n) (s := s) t ht.shp ht.bdT
  have lm := minV_mem (vals_ne t)
  have hm := maxV_mem (vals_ne t)
  have ea := run_corner_with (W := W) (n := n) (s := s) t ht.shp ht.bdT _ lm
  have eb := run_corner_with (W := W) (n := n) (s := s) t ht.shp ht.bdT _ hm
  obtain ⟨f1, f2⟩ := firstC_mem lm
  obtain ⟨g1, g2⟩ := firstC_mem hm
  have fs := corner_sq ht.shp f1
  have gs := corner_sq ht.shp g1
  have fl := corner_len f1
  have gl := corner_len g1
  have fr : rgM t (firstC t (minV (vals t))) := corner_rg ht f1
  have gr : rgM t (firstC t (maxV (vals t))) := corner_rg ht g1
  generalize firstC t (minV (vals t)) = c0 at *
  generalize firstC t (maxV (vals t)) = goal at *
  generalize minV (vals t) = lo at *
  generalize maxV (vals t) = hi at *
  rw [call_of (W := W) (n := n + 5) (d := c_member_at) (f := 52) (ds := [tabD t, pD v]) (s := s) rfl rfl]
  have hpv : pD v = .tup [.int v.1, .int v.2] := rfl
  simp only [c_member_at]
  have hbp : ∀ r, bindT ((Tg.name 2).tup2 (Tg.name 3)) (pD v) r = bindT ((Tg.name 2).tup2 (Tg.name 3)) (.tup [.int v.1, .int v.2]) r := fun r => rfl
  simp -implicitDefEqProofs [hbp, e38, ea, eb, len_tab, small_nat (show t.length ≤ 1000 by omega), rngD_map]
  refine for_map (maI s t v lo hi goal) ?_ (fun k a ha r s1 hI => ?_) (fun r s1 hI => ?_)
  · exact ⟨c0, _, _, _, _, _, _, _, _, rfl, rfl, fs, fl, fr, fun a b _ _ h => absurd h (by omega), by rw [f2]; exact b1⟩
  · obtain ⟨c, x8, x9, x10, x11, x12, x13, x14, x15, rfl, rfl, hC⟩ := hI
    have hk : k < t.length := by have := (List.getElem?_eq_some_iff.mp ha).1; simpa using this
    have hak : a = k := by rw [List.getElem?_range hk] at ha; exact (Option.some.inj ha).symm
    subst hak
    simp -implicitDefEqProofs [len_tab, small_nat (show t.length ≤ 1000 by omega), rngD_map]
    refine for_map (maJ s1 t v lo hi goal a) ⟨c, _, _, _, _, _, _, _, rfl, rfl, hC⟩ (fun j b hb r s2 hI => ?_) (fun r s2 hI => ?_)
    · obtain ⟨c, x9, x10, x11, x12, x13, x14, x15, rfl, rfl, hC⟩ := hI
      have hj : j < t.length := by have := (List.getElem?_eq_some_iff.mp hb).1; simpa using this
      have hbj : b = j := by rw [List.getElem?_range hj] at hb; exact (Option.some.inj hb).symm
      subst hbj
      obtain ⟨cs, cl, cr, ce, cd⟩ := hC
      simp only [wp_roundK, bindT_name, List.set_cons_succ, List.set_cons_zero, roundP_some]
      exact stepMA hW ht hv hv6 cs cl cr ce cd gs gl gr hk hj rfl (fun d hd => hd)
    · obtain ⟨c, x9, x10, x11, x12, x13, x14, x15, rfl, rfl, cs, cl, cr, ce, cd⟩ := hI
      rw [List.length_range] at ce
      exact ⟨c, _, _, _, _, _, _, _, _, rfl, rfl, cs, cl, cr, fun a' b' h1 h2 h => ce a' b' h1 h2 (by omega), cd⟩
  · obtain ⟨c, x8, x9, x10, x11, x12, x13, x14, x15, rfl, rfl, cs, cl, cr, ce, cd⟩ := hI
    rw [List.length_range] at ce
    have hcg : c = goal := mat_ext cs gs (by omega) fun i j hi hj => ce i j (by omega) (by omega) (.inl (by omega))
    subst hcg
    have er := run_as_mem (W := W) (n := n + 4) (s := s1) c (by omega) (fun r hr => by rw [cs.sq r hr]; omega)
    have hq : maQ t v s1 (tabD (asM c)) s1 := by
      refine ⟨rfl, asM c, rfl, c, 0, 0, (entM c 0 0, 1), (asM_self cs (by omega) (by omega)).symm, cs, cl, by omega, by omega, cr, ⟨by show (0 : Int) < 1; decide, by simp⟩, by simp only; omega, ?_, ?_⟩
      · have := cr 0 0 (by omega) (by omega)
        simp [inB]
        omega
      · rw [g2] at cd
        have : hi * v.2 = v.1 := by omega
        simp only [Int.one_mul, Int.sub_self, Int.zero_mul, Int.add_zero, Int.mul_one]
        rw [g2, Int.mul_comm]; omega
    simp -implicitDefEqProofs [er]
    exact hq
end Rt
set_option maxHeartbeats 1000000
set_option maxHeartbeats 1000000
namespace Rt
open PySem
variable {W n : Nat} {s : Sto}
theorem det4374 {m : List (List Int)} (h : SqM m) (H : ∀ r ∈ m, ∀ x ∈ r, x.natAbs ≤ 9) : (detM m).natAbs ≤ 4374 := by
  rcases sq_cases h with rfl | ⟨a, rfl⟩ | ⟨a, b, c, d, rfl⟩ | ⟨a, b, c, d, e, f, g, h', j, rfl⟩
  · simp [detM]
  · have := H [a] (by simp) a (by simp)
    simp only [detM]; omega
  · have h1 := H [a, b] (by simp)
    have h2 := H [c, d] (by simp)
    have m1 : (a * d).natAbs ≤ 9 * 9 := na_mul (h1 a (by simp)) (h2 d (by simp))
    have m2 : (b * c).natAbs ≤ 9 * 9 := na_mul (h1 b (by simp)) (h2 c (by simp))
    simp only [detM]; omega
  · have h1 := H [a, b, c] (by simp)
    have h2 := H [d, e, f] (by simp)
    have h3 := H [g, h', j] (by simp)
    have two : ∀ x y z w : Int, x.natAbs ≤ 9 → y.natAbs ≤ 9 → z.natAbs ≤ 9 → w.natAbs ≤ 9 → (x * y - z * w).natAbs ≤ 162 := fun x y z w hx hy hz hw => by
      have m1 : (x * y).natAbs ≤ 9 * 9 := na_mul hx hy
      have m2 : (z * w).natAbs ≤ 9 * 9 := na_mul hz hw
      omega
    have k1 : (a * (e * j - f * h')).natAbs ≤ 9 * 162 := na_mul (h1 a (by simp)) (two _ _ _ _ (h2 e (by simp)) (h3 j (by simp)) (h2 f (by simp)) (h3 h' (by simp)))
    have k2 : (b * (d * j - f * g)).natAbs ≤ 9 * 162 := na_mul (h1 b (by simp)) (two _ _ _ _ (h2 d (by simp)) (h3 j (by simp)) (h2 f (by simp)) (h3 g (by simp)))
    have k3 : (c * (d * h' - e * g)).natAbs ≤ 9 * 162 := na_mul (h1 c (by simp)) (two _ _ _ _ (h2 d (by simp)) (h3 h' (by simp)) (h2 e (by simp)) (h3 g (by simp)))
    simp only [detM]; omega
def inV (t : Tab) (v : Int × Int) : Bool := decide (minV (vals t) * v.2 ≤ v.1) && decide (v.1 ≤ maxV (vals t) * v.2)
def mwQ (t : Tab) (v : Int × Int) (s0 : Sto) (d : D) (s : Sto) : Prop := s = s0 ∧ ((inV t v = false ∧ d = .non) ∨ (inV t v = true ∧ ∃ m, d = tabD m ∧ AtM t v m))
theorem wp_member_with (hW : Big W) (t : Tab) (ht : TabOk t) (v : Int × Int) (hf : Fr v) (h1 : v.2 ≤ 1000000) (h2 : v.1.natAbs ≤ 1000000) : Wp (run Pd W (n + 7) 53 [tabD t, pD v] s) (mwQ t v s) := by
  have hp := hf.pos
  have e1 := run_is_short (W := W) (n := n + 3) (s := s) hW v hf h1 h2
  have e2 := run_ends_of (W := W) (n := n + 1) (s := s) t ht.shp ht.bdT
  have v64 : v.2.natAbs < 2 ^ 64 := by omega
  have e3 := run_need_table (W := W) (n := n) (s := s) t ht
  rw [call_of (W := W) (n := n + 6) (d := c_member_with) (f := 53) (ds := [tabD t, pD v]) (s := s) rfl rfl]
  simp only [c_member_with]
  by_cases b1 : minV (vals t) * v.2 ≤ v.1
  · by_cases b2 : v.1 ≤ maxV (vals t) * v.2
    · have iv : inV t v = true := by simp [inV, b1, b2]
      simp -implicitDefEqProofs [e3, e1, e2, mul_ok s (Or.inr v64), b1, b2]
      refine Wp.mono (run_member_at hW t ht v hp h1 b1 b2) fun d s' hd => ?_
      obtain ⟨rfl, m, rfl, hm⟩ := hd
      exact ⟨rfl, .inr ⟨iv, m, rfl, hm⟩⟩
    · have iv : inV t v = false := by simp [inV, b2]
      simp -implicitDefEqProofs [e3, e1, e2, mul_ok s (Or.inr v64), b1, b2]
      exact ⟨rfl, .inl ⟨iv, rfl⟩⟩
  · have iv : inV t v = false := by simp [inV, b1]
    simp -implicitDefEqProofs [e3, e1, e2, mul_ok s (Or.inr v64), b1]
    exact ⟨rfl, .inl ⟨iv, rfl⟩⟩
end Rt
set_option maxHeartbeats 2000000
set_option maxHeartbeats 1000000
namespace Rt
open PySem
variable {W n : Nat} {s : Sto}
/-- the sides of a corner that attain a value -/
def hitS (right : List (Int × Int)) (i : Nat) (most : Int × Int) (c : List (List Int)) : List (List Int) := (rowsC right).filter fun d => decide (unk c i d = most)
def hits (right : List (Int × Int)) (i : Nat) (most : Int × Int) (l : List (List (List Int))) : List (List (List Int) × List Int) := l.flatMap fun c => (hitS right i most c).map fun d => (c, d)
theorem flat_head {a b : Type} (g : a → List b) : ∀ {l : List a} {p : a → Bool} {c : a}, l.find? p = some c → (∀ x ∈ l, p x = true ↔ g x ≠ []) → (l.flatMap g).head? = (g c).head?
  | [], p, c, h, _ => by cases h
  | x :: l, p, c, h, hp => by
    rw [List.find?_cons] at h
    rw [List.flatMap_cons]
    cases q : p x with
    | true =>
      rw [q] at h
      cases h
      have := (hp x (by simp)).mp q
      cases hg : g x with
      | nil => exact absurd hg this
      | cons y r => simp
    | false =>
      rw [q] at h
      have hg : g x = [] := by
        cases hg : g x with
        | nil => rfl
        | cons y r =>
          have := (hp x (by simp)).mpr (by rw [hg]; simp)
          rw [q] at this
          cases this
      rw [hg, List.nil_append]
      exact flat_head g h (fun y hy => hp y (by simp [hy]))
theorem ext_ge {t : Tab} (ht : TabOk t) (inv : invB t = true) {right : List (Int × Int)} (hr : RowOk t.length right) {i : Nat} (hi : i < t.length) {c : List (List Int)} (hc : c ∈ cornersL t) {d : List Int} (hd : d ∈ rowsC right) : fle (unk c i d) (ext c right i 1) := by
  have hcl := corner_len hc
  have := (best_le (corner_sq ht.shp hc) (right := right) (by rw [hr.len, hcl]) (fun p hp => (hr.rg p hp).2.1) (i := i) (by omega) hd).1
  exact fle_unk inv hc hc this
/-- the pair that is told -/
theorem run_solution_corner (hW : Big W) (t : Tab) (ht : TabOk t) (inv : invB t = true) (right : List (Int × Int)) (hr : RowOk t.length right) (i : Nat) (hi : i < t.length) {most : Int × Int} (hmx : IsMaxF (sols t right i) most) :
    ∃ c d, (hits right i most (cornersL t)).head? = some (c, d) ∧ run Pd W (n + 9) 92 [tabD t, rowD right, .int i] s = .ok (.tup [matD c, vecD d]) s := by
  have re := run_extremes (W := W) (n := n + 2) (s := s) hW t ht inv right hr i hi 1 (by decide)
  cases hc : cornersL t with
  | nil => exact absurd hc (corners_ne t)
  | cons x l =>
    have hm : ∀ z ∈ x :: l, z ∈ cornersL t := fun z hz => by rw [hc]; exact hz
    have hp : ∀ z ∈ x :: l, 0 < (ext z right i 1).2 := fun z hz => (unk_lt inv (hm z hz) i _).pos
    have hbf := best_find (fun c => ext c right i 1) l x hp
    obtain ⟨_, b2⟩ := best_min (fun c => ext c right i 1) x l hp
    have hmx2 : IsMaxF (sols t right i) (ext (bestL (fun c => ext c right i 1) true x l) right i 1) := ext_max ht inv hr hi (by rw [hc]; exact b2)
    have e0 := max_uniq (fun x hx => sols_lt inv hx) hmx2 hmx
    have hbm := bestL_mem (fun c => ext c right i 1) true l x
    have p1 := run_best_pair (W := W) (n := n + 6) (s := s) (fun c => ext c right i 1) matD true 1 rfl x l (fun z hz => unk_64 ht inv (hm z hz) i _)
    rw [hc] at re
    generalize hcs : bestL (fun c => ext c right i 1) true x l = cs at *
    have hcm := hm cs hbm
    have hcl := corner_len hcm
    have sq := corner_sq ht.shp hcm
    have hne : hitS right i most cs ≠ [] := by
      have : bestS cs right i 1 ∈ hitS right i most cs := by
        simp only [hitS, List.mem_filter, decide_eq_true_eq]
        exact ⟨best_mem cs right i 1, e0⟩
      intro h
      rw [h] at this
      cases this
    have hiff : ∀ z ∈ x :: l, decide ((ext cs right i 1).1 * (ext z right i 1).2 ≤ (ext z right i 1).1 * (ext cs right i 1).2) = true ↔ ((hitS right i most z).map fun d => (z, d)) ≠ [] := by
      intro z hz
      have hzm := hm z hz
      simp only [decide_eq_true_eq, ne_eq, List.map_eq_nil_iff]
      constructor
      · intro h
        have h : fle (ext cs right i 1) (ext z right i 1) := h
        rw [e0] at h
        have hz2 : ext z right i 1 ∈ sols t right i := List.mem_flatMap.mpr ⟨z, hzm, List.mem_map.mpr ⟨_, best_mem z right i 1, rfl⟩⟩
        have e1 := fle_anti (sols_lt inv hz2) (sols_lt inv hmx.1) (hmx.2 _ hz2) h
        have : bestS z right i 1 ∈ hitS right i most z := by
          simp only [hitS, List.mem_filter, decide_eq_true_eq]
          exact ⟨best_mem z right i 1, e1⟩
        intro hh
        rw [hh] at this
        cases this
      · intro h
        obtain ⟨d, hd⟩ := List.exists_mem_of_ne_nil _ h
        simp only [hitS, List.mem_filter, decide_eq_true_eq] at hd
        have := ext_ge ht inv hr hi hzm hd.1
        rw [hd.2, ← e0] at this
        exact this
    have hh := flat_head (fun c => (hitS right i most c).map fun d => (c, d)) hbf hiff
    obtain ⟨d, rest, hd⟩ : ∃ d rest, hitS right i most cs = d :: rest := by
      cases hz : hitS right i most cs with
      | nil => exact absurd hz hne
      | cons d rest => exact ⟨d, rest, rfl⟩
    refine ⟨cs, d, ?_, ?_⟩
    · unfold hits
      rw [hh, hd]
      rfl
    · have hb := det_bd sq (corner_nine ht hcm)
      have rd := run_det (W := W) (n := n + 5) (s := s) true cs sq (corner_64 ht.bdT hcm)
      rw [gm_tup] at rd
      have rr := run_rows_of (W := W) (n := n + 7) (s := s) right (by rw [hr.len]; exact ht.hi)
      have hfl := mapR_filter (s := s) (f := itemK (run Pd W (n + 8)) (.name 7) (.some (.cmp .eq (.call 85 (.cons (.var 4) (.cons (.var 5) (.cons (.var 7) (.cons (.var 2) .nil))))) (.var 3))) (.var 7) [.val (tabD t), .val (rowD right), .val (.int i), .val (pD most), .val (matD cs), .val (.int (detM cs)), .no, .no]) (φ := vecD) (g := vecD) (fun d => decide (unk cs i d = most)) (l := rowsC right) fun d hd => by
        have hdl : d.length = cs.length := by rw [rows_len hd, hr.len, hcl]
        have ru := run_unknown (W := W) (n := n + 3) (s := s) hW cs sq (corner_64 ht.bdT hcm) (by rw [hcl]; exact ht.lo) d hdl (fun x hx => by have := rows_nine hr.rg hd x hx; omega) (detM cs) (inv_ne inv hcm) (by unfold E40; omega) i (by omega)
        have ru : run Pd W (n + 8) 85 [matD cs, .int (detM cs), vecD d, .int i] s = .ok (pD (unk cs i d)) s := ru
        simp only [itemK]
        simp [ru, beq_pair]
        by_cases z : unk cs i d = most <;> simp [z]
      have hlen : (hitS right i most cs).length ≤ 1000000 := by
        have := rowsC_len right (by rw [hr.len]; exact ht.hi)
        have := List.length_filter_le (fun d => decide (unk cs i d = most)) (rowsC right)
        unfold hitS
        omega
      rw [show (rowsC right).filter (fun d => decide (unk cs i d = most)) = hitS right i most cs from rfl] at hfl
      rw [hd] at hfl hlen
      rw [e0] at p1
      simp at p1 re hfl hlen
      rw [call_of (d := c_solution_corner) rfl rfl]
      simp [c_solution_corner, run_need_system t ht inv right hr i hi, re, p1, rd, rr, hfl, hlen, atD, ixD]
def prD (z : List (List Int) × List Int) : D := .tup [matD z.1, vecD z.2]
theorem shp_pr (k : Nat) (z : List (List Int) × List Int) : shp (k + 3) (prD z) = true := by
  unfold prD
  rw [shp_tup]
  simp [shp_matD k, shp_vecD (k + 1)]
end Rt
set_option maxHeartbeats 1000000
namespace Rt
open PySem
variable {W n : Nat} {s : Sto}
def sgR (r : List Int) : List (Int × Int) := r.map fun x => (x, x)
def sgl (c : List (List Int)) : Tab := c.map sgR
theorem growR_one (l : List (List Int)) (x : Int) : growR l (x, x) = l.map (· ++ [x]) := by
  induction l with
  | nil => rfl
  | cons a l ih =>
    have h : growR (a :: l) (x, x) = (a ++ [x]) :: growR l (x, x) := by simp [growR, endsP]
    rw [h, ih]; rfl
theorem foldR_one : ∀ (r : List Int) (p : List Int), (sgR r).foldl growR [p] = [p ++ r]
  | [], p => by simp [sgR]
  | x :: r, p => by
    have h : sgR (x :: r) = (x, x) :: sgR r := rfl
    rw [h, List.foldl_cons, growR_one]
    simp only [List.map_cons, List.map_nil]
    rw [foldR_one r (p ++ [x])]
    simp
theorem rowsC_one (r : List Int) : rowsC (sgR r) = [r] := by
  rw [rowsC, foldR_one]
  rfl
theorem foldT_one : ∀ (c p : List (List Int)), (sgl c).foldl growT [p] = [p ++ c]
  | [], p => by simp [sgl]
  | r :: c, p => by
    have h : sgl (r :: c) = sgR r :: sgl c := rfl
    rw [h, List.foldl_cons]
    have g : growT [p] (sgR r) = [p ++ [r]] := by simp [growT, rowsC_one]
    rw [g, foldT_one c (p ++ [r])]
    simp
theorem corners_one (c : List (List Int)) : cornersL (sgl c) = [c] := by
  rw [cornersL, foldT_one]
  rfl
structure Sg (c : List (List Int)) : Prop where
  sq : SqM c
  lo : 1 ≤ c.length
  rg : ∀ r ∈ c, ∀ x ∈ r, -9 ≤ x ∧ x ≤ 9
theorem Sg.len (c : List (List Int)) : (sgl c).length = c.length := by simp [sgl]
theorem Sg.ok {c : List (List Int)} (h : Sg c) : TabOk (sgl c) := by
  refine ⟨by rw [Sg.len]; exact h.lo, by rw [Sg.len]; exact h.sq.hi, fun row hr => ?_, fun row hr p hp => ?_⟩
  · obtain ⟨r, h1, rfl⟩ := List.mem_map.mp hr
    rw [Sg.len]
    simp [sgR, h.sq.sq r h1]
  · obtain ⟨r, h1, rfl⟩ := List.mem_map.mp hr
    obtain ⟨x, h2, rfl⟩ := List.mem_map.mp hp
    have := h.rg r h1 x h2
    simp only
    omega
theorem Sg.nine {c : List (List Int)} (h : Sg c) : ∀ r ∈ c, ∀ x ∈ r, x.natAbs ≤ 9 := fun r hr x hx => by
  have := h.rg r hr x hx
  omega
theorem Sg.e64 {c : List (List Int)} (h : Sg c) : Ent64 c := fun r hr x hx => by
  have := h.nine r hr x hx
  omega
theorem Sg.det {c : List (List Int)} (h : Sg c) : (detM c).natAbs ≤ 4374 := det4374 h.sq h.nine
theorem vals_one (c : List (List Int)) : vals (sgl c) = [detM c] := by simp [vals, corners_one]
theorem min_one (c : List (List Int)) : minV (vals (sgl c)) = detM c := by simp [vals_one, minV, minL]
theorem max_one (c : List (List Int)) : maxV (vals (sgl c)) = detM c := by simp [vals_one, maxV, maxL]
theorem first_one (c : List (List Int)) : firstC (sgl c) (detM c) = c := by simp [firstC, corners_one, headM]
theorem inv_one (c : List (List Int)) : invB (sgl c) = decide (detM c ≠ 0) := by
  unfold invB
  rw [min_one, max_one]
  by_cases h : detM c = 0
  · simp [h]
  · simp [h]; omega
theorem sols_one (c : List (List Int)) (sd : List Int) (i : Nat) : sols (sgl c) (sgR sd) i = [unk c i sd] := by simp [sols, corners_one, rowsC_one]
theorem isMin_one {x y : Int × Int} (h : IsMinF [x] y) : y = x := by
  have := h.1
  simpa using this
theorem isMax_one {x y : Int × Int} (h : IsMaxF [x] y) : y = x := by
  have := h.1
  simpa using this
theorem sgR_ok {m : Nat} {sd : List Int} (hl : sd.length = m) (h : ∀ x ∈ sd, -9 ≤ x ∧ x ≤ 9) : RowOk m (sgR sd) := by
  refine ⟨by simp [sgR, hl], fun p hp => ?_⟩
  obtain ⟨x, h2, rfl⟩ := List.mem_map.mp hp
  have := h x h2
  simp only
  omega
theorem run_range1 (hW : Big W) {c : List (List Int)} (h : Sg c) (hd : detM c ≠ 0) {sd : List Int} (hl : sd.length = c.length) (hs : ∀ x ∈ sd, -9 ≤ x ∧ x ≤ 9) {i : Nat} (hi : i < c.length) :
    run Pd W (n + 9) 89 [tabD (sgl c), rowD (sgR sd), .int i] s = .ok (.tup [pD (unk c i sd), pD (unk c i sd)]) s := by
  obtain ⟨lo, hi2, m1, m2, R⟩ := run_solution_range (W := W) (n := n) (s := s) hW (sgl c) h.ok (by rw [inv_one]; simp [hd]) (sgR sd) (sgR_ok (by rw [Sg.len]; exact hl) hs) i (by rw [Sg.len]; exact hi)
  rw [sols_one] at m1 m2
  rw [isMin_one m1, isMax_one m2] at R
  exact R
theorem run_corner1 (hW : Big W) {c : List (List Int)} (h : Sg c) (hd : detM c ≠ 0) {sd : List Int} (hl : sd.length = c.length) (hs : ∀ x ∈ sd, -9 ≤ x ∧ x ≤ 9) {i : Nat} (hi : i < c.length) :
    run Pd W (n + 9) 92 [tabD (sgl c), rowD (sgR sd), .int i] s = .ok (.tup [matD c, vecD sd]) s := by
  have hx : IsMaxF (sols (sgl c) (sgR sd) i) (unk c i sd) := by
    rw [sols_one]
    refine ⟨by simp, fun x hx => ?_⟩
    have : x = unk c i sd := by simpa using hx
    rw [this]
    exact fle_refl _
  obtain ⟨c', d', e, R⟩ := run_solution_corner (W := W) (n := n) (s := s) hW (sgl c) h.ok (by rw [inv_one]; simp [hd]) (sgR sd) (sgR_ok (by rw [Sg.len]; exact hl) hs) i (by rw [Sg.len]; exact hi) hx
  have : hits (sgR sd) i (unk c i sd) (cornersL (sgl c)) = [(c, sd)] := by simp [hits, hitS, corners_one, rowsC_one]
  rw [this] at e
  simp at e
  obtain ⟨rfl, rfl⟩ := e
  exact R
theorem run_inverse1 (hW : Big W) {c : List (List Int)} (h : Sg c) (hd : detM c ≠ 0) {i j : Nat} (hi : i < c.length) (hj : j < c.length) :
    run Pd W (n + 9) 75 [tabD (sgl c), .int i, .int j] s = .ok (.tup [pD (unk c i (unitL c.length j)), pD (unk c i (unitL c.length j))]) s := by
  obtain ⟨lo, hi2, m1, m2, R⟩ := run_inverse_range (W := W) (n := n) (s := s) hW (sgl c) h.ok (by rw [inv_one]; simp [hd]) i j (by rw [Sg.len]; exact hi) (by rw [Sg.len]; exact hj)
  rw [sols_unit, corners_one, Sg.len] at m1 m2
  simp only [List.map_cons, List.map_nil] at m1 m2
  rw [isMin_one m1, isMax_one m2] at R
  exact R
theorem ent_sgl {c : List (List Int)} (h : SqM c) {i j : Nat} (hi : i < c.length) (hj : j < c.length) : ent (sgl c) i j = (entM c i j, entM c i j) := by
  have hr : c[i].length = c.length := h.sq _ (List.getElem_mem hi)
  simp [ent, rowAt, entAt, entM, sgl, sgR, List.getD_eq_getElem?_getD, hi, hr, hj]
theorem sq_ext {a b : List (List Int)} (ha : SqM a) (hb : SqM b) (hl : a.length = b.length) (h : ∀ i j, i < b.length → j < b.length → entM a i j = entM b i j) : a = b := by
  apply List.ext_getElem hl
  intro i h1 h2
  have r1 : a[i].length = a.length := ha.sq _ (List.getElem_mem h1)
  have r2 : b[i].length = b.length := hb.sq _ (List.getElem_mem h2)
  apply List.ext_getElem (by omega)
  intro j h3 h4
  have := h i j h2 (by omega)
  simpa [entM, List.getD_eq_getElem?_getD, List.getElem?_eq_getElem h1, List.getElem?_eq_getElem h2, List.getElem?_eq_getElem h3, List.getElem?_eq_getElem h4] using this
theorem atM_one {c : List (List Int)} (h : Sg c) {v : Int × Int} {m : Tab} (hm : AtM (sgl c) v m) : m = asM c := by
  obtain ⟨c', i, j, p, rfl, h1, h2, h3, h4, h5, h6, h7, h8, h9⟩ := hm
  rw [Sg.len] at h2 h3 h4
  have hc : c' = c := sq_ext h1 h.sq h2 fun a b ha hb => by
    have := h5 a b (by rw [Sg.len]; exact ha) (by rw [Sg.len]; exact hb)
    rw [ent_sgl h.sq ha hb] at this
    simp only at this
    omega
  subst hc
  rw [ent_sgl h.sq h3 h4] at h8
  have e : p.1 = entM c' i j * p.2 := by
    unfold inB at h8
    simp only [Bool.and_eq_true, decide_eq_true_eq] at h8
    omega
  have hp : p = (entM c' i j, 1) := Lt.uniq h6 ⟨by simp, by simp⟩ (by simp only; omega)
  rw [hp]
  exact asM_self h.sq h3 h4
theorem with_in (hW : Big W) {c : List (List Int)} (h : Sg c) : run Pd W (n + 7) 53 [tabD (sgl c), pD (detM c, 1)] s = .ok (tabD (asM c)) s := by
  have hd := h.det
  have fr : Fr (detM c, 1) := ⟨by simp, by simp, by simp only; omega, by simp only; omega, by simp⟩
  have := wp_member_with (W := W) (n := n) (s := s) hW (sgl c) h.ok (detM c, 1) fr (by simp) (by simp only; omega)
  obtain ⟨d, s', e, rfl, q⟩ := wp_iff.mp this
  rw [e]
  rcases q with ⟨q, _⟩ | ⟨_, m, rfl, hm⟩
  · simp [inV, min_one, max_one] at q
  · rw [atM_one h hm]
theorem with_out (hW : Big W) {c : List (List Int)} (h : Sg c) : run Pd W (n + 7) 53 [tabD (sgl c), pD (detM c + 1, 1)] s = .ok .non s := by
  have hd := h.det
  have fr : Fr (detM c + 1, 1) := ⟨by simp, by simp, by simp only; omega, by simp only; omega, by simp⟩
  have := wp_member_with (W := W) (n := n) (s := s) hW (sgl c) h.ok (detM c + 1, 1) fr (by simp) (by simp only; omega)
  obtain ⟨d, s', e, rfl, q⟩ := wp_iff.mp this
  rw [e]
  rcases q with ⟨_, rfl⟩ | ⟨q, _⟩
  · rfl
  · simp [inV, min_one, max_one] at q
    omega
end Rt
set_option maxHeartbeats 2000000
namespace Rt
open PySem
variable {W n : Nat} {s : Sto}
structure Eb (p : Int × Int) : Prop where
  one : p.2 = 1
  sm : p.1.natAbs ≤ 9
structure Vb (p : Int × Int) : Prop where
  pos : 0 < p.2
  sm : p.2 ≤ 5000
  nm : p.1.natAbs ≤ 5000
  co : Nat.gcd p.2.natAbs p.1.natAbs = 1
theorem Eb.pos {p : Int × Int} (h : Eb p) : 0 < p.2 := by have := h.one; omega
theorem Vb.lt {p : Int × Int} (h : Vb p) : Lt p := ⟨h.pos, h.co⟩
theorem Vb.fr {p : Int × Int} (h : Vb p) : Fr p := by
  have a1 := h.pos; have a2 := h.sm; have a3 := h.nm
  exact ⟨a1, by omega, by omega, by omega, h.co⟩
theorem eb64 {p : Int × Int} (h : Eb p) : p.1.natAbs < 2 ^ 64 ∧ p.2.natAbs < 2 ^ 64 := by
  have := h.one; have := h.sm
  omega
theorem vb64 {p : Int × Int} (h : Vb p) : p.1.natAbs < 2 ^ 64 ∧ p.2.natAbs < 2 ^ 64 := by
  have := h.pos; have := h.sm; have := h.nm
  omega
theorem eb_num {e v : Int × Int} (he : Eb e) (hv : Vb v) : (e.1 * v.1).natAbs < 2 ^ 64 := na_lt he.sm hv.nm (by decide)
theorem eb_den {e v : Int × Int} (he : Eb e) (hv : Vb v) : 0 < e.2 * v.2 ∧ (e.2 * v.2).natAbs < 2 ^ 64 := by
  rw [he.one, Int.one_mul]
  exact ⟨hv.pos, (vb64 hv).2⟩
theorem sumB_bd : ∀ (es vs : List (Int × Int)), (∀ e ∈ es, Eb e) → (∀ v ∈ vs, Vb v) → (sumP es vs).2.natAbs ≤ 5000 ^ es.length
  | [], vs, _, _ => by cases vs <;> simp [sumP]
  | e :: es, [], _, _ => by
    simp only [sumP]
    exact Nat.one_le_pow _ _ (by decide)
  | e :: es, v :: vs, he, hv => by
    have i := sumB_bd es vs (fun e h => he e (by simp [h])) (fun v h => hv v (by simp [h]))
    have E := he e (by simp); have V := hv v (by simp)
    simp only [sumP, List.length_cons, Nat.pow_succ]
    rw [Nat.mul_comm (5000 ^ _)]
    refine na_mul ?_ i
    rw [E.one, Int.one_mul]
    have := V.sm; have := V.pos
    omega
theorem sumB_40 (es vs : List (Int × Int)) (h3 : es.length ≤ 3) (he : ∀ e ∈ es, Eb e) (hv : ∀ v ∈ vs, Vb v) : (sumP es vs).2.natAbs < E40 := by
  have := sumB_bd es vs he hv
  have : 5000 ^ es.length ≤ 5000 ^ 3 := Nat.pow_le_pow_right (by decide) h3
  unfold E40
  omega
theorem run_sum_ofB (hW : Big W) (b : Bool) (es vs : List (Int × Int)) (h1 : 1 ≤ es.length) (h3 : es.length ≤ 3) (hl : es.length = vs.length) (he : ∀ e ∈ es, Eb e) (hv : ∀ v ∈ vs, Vb v) :
    run Pd W (n + 3) 95 [mkD b (es.map pD), rowD vs] s = .ok (pD (lowN (sumP es vs).1 (sumP es vs).2)) s := by
  have hU := sumB_40 es vs h3 he hv
  refine ok_of ?_
  rw [call_of (d := c_sum_of) rfl rfl]
  have hlist : ∀ xs : List D, biD s .list [mkD b xs] = .ok (.lst xs) s := fun xs => by cases b <;> rfl
  have hp := sumP_pos es vs (fun e h => (he e h).pos) (fun v h => (hv v h).pos)
  rcases len_cases h1 h3 with ⟨e1, rfl⟩ | ⟨e1, e2, rfl⟩ | ⟨e1, e2, e3, rfl⟩
  · rcases len_cases (l := vs) (by simp at hl; omega) (by simp at hl; omega) with ⟨v1, rfl⟩ | ⟨v1, v2, rfl⟩ | ⟨v1, v2, v3, rfl⟩ <;> simp at hl
    have E1 := he e1 (by simp); have V1 := hv v1 (by simp)
    obtain ⟨e1a, e1b⟩ := eb64 E1
    obtain ⟨v1a, v1b⟩ := vb64 V1
    have n1 := eb_num E1 V1
    obtain ⟨p1, d1⟩ := eb_den E1 V1
    obtain ⟨U, eU⟩ : ∃ U : Int, U = e1.2 * v1.2 := ⟨_, rfl⟩
    have q1 : U / (e1.2 * v1.2) = 1 := exact_div p1 (by rw [eU]; grind)
    have U1 : U = (sumP [e1] [v1]).2 := by rw [eU]; simp only [sumP]; grind
    have F1 : e1.1 * v1.1 * (1) = (sumP [e1] [v1]).1 := by simp only [sumP]; grind
    have R := run_low (W := W) (n := n) (s := s) hW (sumP [e1] [v1]).1 (sumP [e1] [v1]).2 (by omega) hU
    generalize sumP [e1] [v1] = S at *
    have z0 : (0 : Int) < U := by omega
    simp only [c_sum_of, List.map_cons, List.map_nil]
    simp [rowD, pD, hlist, bin_addL, forE_cons, enumD, mul_ok s (Or.inr e1b), mul_ok s (Or.inr v1b), mul_ok s (Or.inl e1a), mul_ok s (Or.inl n1), fdiv_ok s (show e1.2 * v1.2 ≠ 0 by omega) (lt1000 d1), fd p1, q1]
    simp only [← eU, Int.ediv_self (show U ≠ 0 by omega)]
    rw [F1, U1, R]
    simp [pD]
  · rcases len_cases (l := vs) (by simp at hl; omega) (by simp at hl; omega) with ⟨v1, rfl⟩ | ⟨v1, v2, rfl⟩ | ⟨v1, v2, v3, rfl⟩ <;> simp at hl
    have E1 := he e1 (by simp); have V1 := hv v1 (by simp)
    obtain ⟨e1a, e1b⟩ := eb64 E1
    obtain ⟨v1a, v1b⟩ := vb64 V1
    have n1 := eb_num E1 V1
    obtain ⟨p1, d1⟩ := eb_den E1 V1
    have E2 := he e2 (by simp); have V2 := hv v2 (by simp)
    obtain ⟨e2a, e2b⟩ := eb64 E2
    obtain ⟨v2a, v2b⟩ := vb64 V2
    have n2 := eb_num E2 V2
    obtain ⟨p2, d2⟩ := eb_den E2 V2
    obtain ⟨U, eU⟩ : ∃ U : Int, U = e1.2 * e2.2 * v1.2 * v2.2 := ⟨_, rfl⟩
    have q1 : U / (e1.2 * v1.2) = e2.2 * v2.2 := exact_div p1 (by rw [eU]; grind)
    have q2 : U / (e2.2 * v2.2) = e1.2 * v1.2 := exact_div p2 (by rw [eU]; grind)
    have U1 : U = (sumP [e1, e2] [v1, v2]).2 := by rw [eU]; simp only [sumP]; grind
    have F1 : e1.1 * v1.1 * (e2.2 * v2.2) + e2.1 * v2.1 * (e1.2 * v1.2) = (sumP [e1, e2] [v1, v2]).1 := by simp only [sumP]; grind
    have R := run_low (W := W) (n := n) (s := s) hW (sumP [e1, e2] [v1, v2]).1 (sumP [e1, e2] [v1, v2]).2 (by omega) hU
    generalize sumP [e1, e2] [v1, v2] = S at *
    have z0 : (0 : Int) < U := by omega
    simp only [c_sum_of, List.map_cons, List.map_nil]
    simp [rowD, pD, hlist, bin_addL, forE_cons, enumD, mul_ok s (Or.inr e1b), mul_ok s (Or.inr v1b), mul_ok s (Or.inl e1a), mul_ok s (Or.inl n1), fdiv_ok s (show e1.2 * v1.2 ≠ 0 by omega) (lt1000 d1), fd p1, q1, mul_ok s (Or.inr e2b), mul_ok s (Or.inr v2b), mul_ok s (Or.inl e2a), mul_ok s (Or.inl n2), fdiv_ok s (show e2.2 * v2.2 ≠ 0 by omega) (lt1000 d2), fd p2, q2]
    simp only [← eU, q1, q2]
    rw [F1, U1, R]
    simp [pD]
  · rcases len_cases (l := vs) (by simp at hl; omega) (by simp at hl; omega) with ⟨v1, rfl⟩ | ⟨v1, v2, rfl⟩ | ⟨v1, v2, v3, rfl⟩ <;> simp at hl
    have E1 := he e1 (by simp); have V1 := hv v1 (by simp)
    obtain ⟨e1a, e1b⟩ := eb64 E1
    obtain ⟨v1a, v1b⟩ := vb64 V1
    have n1 := eb_num E1 V1
    obtain ⟨p1, d1⟩ := eb_den E1 V1
    have E2 := he e2 (by simp); have V2 := hv v2 (by simp)
    obtain ⟨e2a, e2b⟩ := eb64 E2
    obtain ⟨v2a, v2b⟩ := vb64 V2
    have n2 := eb_num E2 V2
    obtain ⟨p2, d2⟩ := eb_den E2 V2
    have E3 := he e3 (by simp); have V3 := hv v3 (by simp)
    obtain ⟨e3a, e3b⟩ := eb64 E3
    obtain ⟨v3a, v3b⟩ := vb64 V3
    have n3 := eb_num E3 V3
    obtain ⟨p3, d3⟩ := eb_den E3 V3
    obtain ⟨U, eU⟩ : ∃ U : Int, U = e1.2 * e2.2 * e3.2 * v1.2 * v2.2 * v3.2 := ⟨_, rfl⟩
    have q1 : U / (e1.2 * v1.2) = e2.2 * v2.2 * e3.2 * v3.2 := exact_div p1 (by rw [eU]; grind)
    have q2 : U / (e2.2 * v2.2) = e1.2 * v1.2 * e3.2 * v3.2 := exact_div p2 (by rw [eU]; grind)
    have q3 : U / (e3.2 * v3.2) = e1.2 * v1.2 * e2.2 * v2.2 := exact_div p3 (by rw [eU]; grind)
    have U1 : U = (sumP [e1, e2, e3] [v1, v2, v3]).2 := by rw [eU]; simp only [sumP]; grind
    have F1 : e1.1 * v1.1 * (e2.2 * v2.2 * e3.2 * v3.2) + e2.1 * v2.1 * (e1.2 * v1.2 * e3.2 * v3.2) + e3.1 * v3.1 * (e1.2 * v1.2 * e2.2 * v2.2) = (sumP [e1, e2, e3] [v1, v2, v3]).1 := by simp only [sumP]; grind
    have R := run_low (W := W) (n := n) (s := s) hW (sumP [e1, e2, e3] [v1, v2, v3]).1 (sumP [e1, e2, e3] [v1, v2, v3]).2 (by omega) hU
    generalize sumP [e1, e2, e3] [v1, v2, v3] = S at *
    have z0 : (0 : Int) < U := by omega
    simp only [c_sum_of, List.map_cons, List.map_nil]
    simp [rowD, pD, hlist, bin_addL, forE_cons, enumD, mul_ok s (Or.inr e1b), mul_ok s (Or.inr v1b), mul_ok s (Or.inl e1a), mul_ok s (Or.inl n1), fdiv_ok s (show e1.2 * v1.2 ≠ 0 by omega) (lt1000 d1), fd p1, q1, mul_ok s (Or.inr e2b), mul_ok s (Or.inr v2b), mul_ok s (Or.inl e2a), mul_ok s (Or.inl n2), fdiv_ok s (show e2.2 * v2.2 ≠ 0 by omega) (lt1000 d2), fd p2, q2, mul_ok s (Or.inr e3b), mul_ok s (Or.inr v3b), mul_ok s (Or.inl e3a), mul_ok s (Or.inl n3), fdiv_ok s (show e3.2 * v3.2 ≠ 0 by omega) (lt1000 d3), fd p3, q3]
    simp only [← eU, q1, q2, q3]
    rw [F1, U1, R]
    simp [pD]
/-- a row's sum with the unknowns times the determinant -/
def dotI : List Int → List Int → Int
  | x :: xs, y :: ys => x * y + dotI xs ys
  | _, _ => 0
def on1 (row : List Int) : List (Int × Int) := row.map fun x => (x, (1 : Int))
theorem sum_val {Δ : Int} : ∀ (row rs : List Int) (vs : List (Int × Int)), row.length = vs.length → All2 (fun v r => v.1 * Δ = r * v.2) vs rs → (sumP (on1 row) vs).1 * Δ = dotI row rs * (sumP (on1 row) vs).2
  | [], _, vs, h, hA => by
    cases vs with
    | nil => cases hA; simp [on1, sumP, dotI]
    | cons a b => simp at h
  | x :: row, rs, [], h, _ => by simp at h
  | x :: row, _, v :: vs, h, .cons (y := r) (m := rs) q hA => by
    have i := sum_val row rs vs (by simpa using h) hA
    simp only [on1, List.map_cons, sumP, dotI] at i ⊢
    generalize sumP (row.map fun x => (x, (1 : Int))) vs = S at *
    grind
theorem low_int {t u b : Int} (hu : u ≠ 0) (h : t = b * u) : lowN t u = (b, 1) := low_uniq hu ⟨by simp, by simp⟩ (by simp only; rw [h]; omega)
theorem sum_one {Δ b : Int} {row rs : List Int} {vs : List (Int × Int)} (hl : row.length = vs.length) (hA : All2 (fun v r => v.1 * Δ = r * v.2) vs rs) (hv : ∀ v ∈ vs, Vb v) (hd : Δ ≠ 0) (e : dotI row rs = Δ * b) : lowN (sumP (on1 row) vs).1 (sumP (on1 row) vs).2 = (b, 1) := by
  have h := sum_val row rs vs hl hA
  have hp := sumP_pos (on1 row) vs (fun e he => by obtain ⟨x, _, rfl⟩ := List.mem_map.mp he; simp) (fun v h => (hv v h).pos)
  rw [e] at h
  refine low_int (by omega) (Int.eq_of_mul_eq_mul_right hd ?_)
  rw [h]
  grind
end Rt
set_option maxHeartbeats 2000000
namespace Rt
open PySem
variable {W n : Nat} {s : Sto}
structure VecB (k : Nat) (v : List (Int × Int)) : Prop where
  len : v.length = k
  vb : ∀ p ∈ v, Vb p
theorem run_need_vectorB (hW : Big W) (t : Tab) (h3 : t.length ≤ 3) (v : List (Int × Int)) (hv : VecB t.length v) : run Pd W (n + 4) 94 [tabD t, rowD v] s = .ok .non s := by
  have e := mapR_all (f := itemK (run Pd W (n + 3)) (.name 2) .none (.call 49 (.cons (.var 2) .nil)) [.val (tabD t), .val (rowD v), .no]) (φ := pD) (fun _ => D.bl true) (s := s) (l := v) fun p hp => by
    have V := hv.vb p hp
    have := V.sm; have := V.nm
    simp [itemK, run_is_short hW p V.fr (by omega) (by omega)]
  have a := biD_all (fun _ : Int × Int => true) v s
  have hl : v.length ≤ 1000000 := by have := hv.len; omega
  have hl2 : (v.length : Int) = (t.length : Int) := by rw [hv.len]
  rw [call_of (d := c_need_vector) rfl rfl]
  simp [rowD] at e a
  simp [c_need_vector, len_tab, rowD, hl2, e, hl, a]
theorem run_need_allB (hW : Big W) (t : Tab) (ht : TabOk t) (r v : List (Int × Int)) (hr : RowOk t.length r) (hv : VecB t.length v) : run Pd W (n + 7) 98 [tabD t, rowD r, rowD v] s = .ok .non s := by
  rw [call_of (d := c_need_all) rfl rfl]
  have h3 := ht.hi
  have a1 := run_need_table (W := W) (n := n) (s := s) t ht
  have a2 := run_need_right (W := W) (n := n + 1) (s := s) t h3 r hr
  have a3 := run_need_vectorB (W := W) (n := n + 2) (s := s) hW t h3 v hv
  simp [c_need_all, a1, a2, a3]
theorem ends_one (high : Bool) : ∀ (row : List Int) (v : List (Int × Int)), row.length = v.length → endsF (sgR row) v high = on1 row
  | [], v, _ => by simp [endsF, sgR, on1]
  | x :: row, [], h => by simp at h
  | x :: row, p :: v, h => by
    have i := ends_one high row v (by simpa using h)
    simp only [endsF, sgR, on1, List.map_cons, List.zip_cons_cons, endF] at i ⊢
    rw [i]
    simp
theorem on1_eb {row : List Int} (h : ∀ x ∈ row, x.natAbs ≤ 9) : ∀ e ∈ on1 row, Eb e := fun e he => by
  obtain ⟨x, hx, rfl⟩ := List.mem_map.mp he
  exact ⟨rfl, h x hx⟩
/-- what a vector must be for a row: the sum is b -/
structure RowS (row : List Int) (v : List (Int × Int)) (b : Int) : Prop where
  len : row.length = v.length
  lo : 1 ≤ row.length
  hi : row.length ≤ 3
  rg : ∀ x ∈ row, x.natAbs ≤ 9
  vb : ∀ p ∈ v, Vb p
  eq : lowN (sumP (on1 row) v).1 (sumP (on1 row) v).2 = (b, 1)
theorem run_sumS (hW : Big W) {row : List Int} {v : List (Int × Int)} {b : Int} (h : RowS row v b) : run Pd W (n + 3) 95 [.lst ((on1 row).map pD), rowD v] s = .ok (pD (b, 1)) s := by
  have := run_sum_ofB (W := W) (n := n) (s := s) hW false (on1 row) v (by simp [on1]; exact h.lo) (by simp [on1]; exact h.hi) (by simp [on1]; exact h.len) (on1_eb h.rg) h.vb
  rw [h.eq] at this
  exact this
theorem run_endS {row : List Int} {v : List (Int × Int)} (hl : row.length = v.length) (h3 : row.length ≤ 3) (high : Bool) : run Pd W (n + 1) 96 [rowD (sgR row), rowD v, .bl high] s = .ok (.lst ((on1 row).map pD)) s := by
  rw [run_end_of (sgR row) v (by simp [sgR]; exact hl) (by simp [sgR]; exact h3) high, ends_one high row v hl]
theorem run_meetsS (hW : Big W) {row : List Int} {v : List (Int × Int)} {b : Int} (h : RowS row v b) (hb : b.natAbs ≤ 9) : run Pd W (n + 4) 97 [rowD (sgR row), rowD v, pD (b, b)] s = .ok (.bl true) s := by
  refine ok_of ?_
  rw [call_of (d := c_meets) rfl rfl]
  simp only [c_meets]
  have l1 := run_sumS (W := W) (n := n) (s := s) hW h
  have e1 := fun high => run_endS (W := W) (n := n + 2) (s := s) h.len h.hi high
  have z1 : b.natAbs < 2 ^ 64 := by omega
  simp [e1, l1, mul_ok s (Or.inl z1)]
theorem run_row_forS (hW : Big W) {row : List Int} {v : List (Int × Int)} {b : Int} (h : RowS row v b) (hb : b.natAbs ≤ 9) : run Pd W (n + 4) 102 [rowD (sgR row), rowD v, pD (b, b)] s = .ok (rowD (on1 row)) s := by
  refine ok_of ?_
  rw [call_of (d := c_row_for) rfl rfl]
  simp only [c_row_for]
  have l1 := run_sumS (W := W) (n := n) (s := s) hW h
  have e1 := fun high => run_endS (W := W) (n := n + 2) (s := s) h.len h.hi high
  have z1 : b.natAbs < 2 ^ 64 := by omega
  simp [e1, l1, mul_ok s (Or.inl z1)]
  rfl
def exS (s0 : Sto) (t : Tab) (right v : List (Int × Int)) (k : Nat) (r : Env) (s : Sto) : Prop := ∃ x3 x4, r = [.val (tabD t), .val (rowD right), .val (rowD v), x3, x4] ∧ s = s0
theorem run_excludingS (hW : Big W) {c : List (List Int)} {sd : List Int} {v : List (Int × Int)} (hl : sd.length = c.length) (hs : ∀ x ∈ sd, x.natAbs ≤ 9) (h : ∀ (i : Nat) row b, c[i]? = some row → sd[i]? = some b → RowS row v b) :
    run Pd W (n + 5) 99 [tabD (sgl c), rowD (sgR sd), rowD v] s = .ok .non s := by
  refine ok_of ?_
  rw [call_of (d := c_excluding) rfl rfl]
  simp only [c_excluding]
  simp
  rw [show enumK (tabD (sgl c)) s = .ok (enumD 0 ((sgl c).map rowD)) s from rfl]
  simp
  refine for_enum (exS s (sgl c) (sgR sd) v) ⟨_, _, rfl, rfl⟩ (fun k x hx r s1 hI => ?_) (fun r s1 hI => ?_)
  · obtain ⟨x3, x4, rfl, rfl⟩ := hI
    have hk : k < c.length := by
      have := (List.getElem?_eq_some_iff.mp hx).1
      rw [Sg.len] at this
      exact this
    have hx2 : x = sgR c[k] := by
      rw [sgl, List.getElem?_map, List.getElem?_eq_getElem hk] at hx
      cases hx; rfl
    subst hx2
    have hy : sd[k]? = some (sd[k]'(by omega)) := List.getElem?_eq_getElem (by omega)
    have hsub : subD s1 (rowD (sgR sd)) (.int k) = .ok (pD (sd[k]'(by omega), sd[k]'(by omega))) s1 := by
      rw [rowD, sub_tup, at_nat s1 (d := pD (sd[k]'(by omega), sd[k]'(by omega))) (by rw [List.getElem?_map, sgR, List.getElem?_map, hy]; rfl)]
    have hm := run_meetsS (W := W) (n := n) (s := s1) hW (h k _ _ (List.getElem?_eq_getElem hk) hy) (hs _ (List.getElem_mem _))
    simp [hsub, hm]
    exact ⟨_, _, rfl, rfl⟩
  · obtain ⟨x3, x4, rfl, rfl⟩ := hI
    simp
theorem run_first_excludingS (hW : Big W) {c : List (List Int)} (hc : Sg c) {sd : List Int} {v : List (Int × Int)} (hl : sd.length = c.length) (hs : ∀ x ∈ sd, -9 ≤ x ∧ x ≤ 9) (hv : VecB c.length v) (h : ∀ (i : Nat) row b, c[i]? = some row → sd[i]? = some b → RowS row v b) :
    run Pd W (n + 8) 100 [tabD (sgl c), rowD (sgR sd), rowD v] s = .ok .non s := by
  refine ok_of ?_
  rw [call_of (d := c_first_excluding) rfl rfl]
  simp only [c_first_excluding]
  have a1 := run_need_allB (W := W) (n := n) (s := s) hW (sgl c) hc.ok (sgR sd) v (sgR_ok (by rw [Sg.len]; exact hl) hs) (by rw [Sg.len]; exact hv)
  have a2 := run_excludingS (W := W) (n := n + 2) (s := s) hW hl (fun x hx => by have := hs x hx; omega) h
  simp [a1, a2]
theorem run_solved_byS (hW : Big W) {c : List (List Int)} (hc : Sg c) {sd : List Int} {v : List (Int × Int)} (hl : sd.length = c.length) (hs : ∀ x ∈ sd, -9 ≤ x ∧ x ≤ 9) (hv : VecB c.length v) (h : ∀ (i : Nat) row b, c[i]? = some row → sd[i]? = some b → RowS row v b) :
    run Pd W (n + 8) 103 [tabD (sgl c), rowD (sgR sd), rowD v] s = .ok (tabD (asM c)) s := by
  refine ok_of ?_
  rw [call_of (d := c_solved_by) rfl rfl]
  simp only [c_solved_by]
  have h3 := hc.sq.hi
  have a1 := run_need_allB (W := W) (n := n) (s := s) hW (sgl c) hc.ok (sgR sd) v (sgR_ok (by rw [Sg.len]; exact hl) hs) (by rw [Sg.len]; exact hv)
  have a2 := run_excludingS (W := W) (n := n + 2) (s := s) hW hl (fun x hx => by have := hs x hx; omega) h
  have hen : enumK (tabD (sgl c)) s = .ok (enumD 0 (c.map fun r => rowD (sgR r))) s := by
    show _ = Res.ok (enumD 0 _) s
    simp [enumK, tabD, itemsD, sgl, Function.comp_def]
  have e := mapR_enumY (s := s) (f := itemK (run Pd W (n + 7)) (.tup2 (.name 3) (.name 4)) .none (.call 102 (.cons (.var 4) (.cons (.var 2) (.cons (.sub (.var 1) (.var 3)) .nil)))) [.val (tabD (sgl c)), .val (rowD (sgR sd)), .val (rowD v), .no, .no]) (φ := fun r => rowD (sgR r)) (fun x y => rowD (on1 x)) c sd c sd 0 rfl rfl (by rw [hl]) (fun k x y hx hy => by
      have hsub : subD s (rowD (sgR sd)) (.int k) = .ok (pD (y, y)) s := by rw [rowD, sub_tup, at_nat s (d := pD (y, y)) (by rw [List.getElem?_map, sgR, List.getElem?_map, hy]; rfl)]
      have := run_row_forS (W := W) (n := n + 3) (s := s) hW (h k x y hx hy) (by have := hs y (List.mem_of_getElem? hy); omega)
      simp [itemK, hsub, this])
  have hz : min c.length sd.length ≤ 1000000 := by omega
  have hm : (c.zip sd).map (fun z => rowD (on1 z.1)) = (asM c).map rowD := by
    rw [show (fun (z : List Int × Int) => rowD (on1 z.1)) = (fun r => rowD (on1 r)) ∘ Prod.fst from rfl, ← List.map_map, List.map_fst_zip (by omega)]
    simp [asM, on1, Function.comp_def]
  simp [a1, a2, hen, e, hz, hm]
  exact ⟨by simp [asM]; omega, rfl⟩
def vecX (c : List (List Int)) (sd : List Int) (k : Nat) : List (Int × Int) := (List.range k).map fun i => unk c i sd
def vecN (c : List (List Int)) (sd : List Int) : List Int := (List.range c.length).map fun i => rpd c i sd
theorem rpd_bd {c : List (List Int)} (h : Sg c) {sd : List Int} (hl : sd.length = c.length) (hs : ∀ x ∈ sd, -9 ≤ x ∧ x ≤ 9) (i : Nat) : (rpd c i sd).natAbs ≤ 4374 := by
  refine det4374 (repl_sq (i := i) h.sq hl).1 fun r hr x hx => ?_
  obtain ⟨z, hz, rfl⟩ := List.mem_map.mp hr
  rcases List.mem_or_eq_of_mem_set hx with q | q
  · exact h.nine z.1 (List.of_mem_zip hz).1 x q
  · have := hs z.2 (List.of_mem_zip hz).2
    omega
theorem unk_vb {c : List (List Int)} (h : Sg c) (hd : detM c ≠ 0) {sd : List Int} (hl : sd.length = c.length) (hs : ∀ x ∈ sd, -9 ≤ x ∧ x ≤ 9) (i : Nat) : Vb (unk c i sd) := by
  have a := low_lt (t := rpd c i sd) hd
  have b := low_le (t := rpd c i sd) hd
  have b1 := rpd_bd h hl hs i
  have b2 := h.det
  have b3 := a.pos
  unfold unk
  exact ⟨a.pos, by omega, by omega, a.co⟩
theorem cramer {c : List (List Int)} (h : SqM c) {sd : List Int} (hl : sd.length = c.length) {i : Nat} {row : List Int} {b : Int} (hr : c[i]? = some row) (hb : sd[i]? = some b) : dotI row (vecN c sd) = detM c * b := by
  rcases sq_cases h with rfl | ⟨x, rfl⟩ | ⟨x, y, z, w, rfl⟩ | ⟨a1, a2, a3, a4, a5, a6, a7, a8, a9, rfl⟩
  · simp at hr
  · match sd, hl with
    | [p], _ =>
      match i with
      | 0 =>
        simp at hr hb
        subst hr hb
        simp [vecN, List.range_succ, dotI, rpd1, detM]
      | i + 1 => simp at hr
  · match sd, hl with
    | [p, q], _ =>
      have hv : vecN [[x, y], [z, w]] [p, q] = [p * w - y * q, x * q - p * z] := by
        simp [vecN, List.range_succ, rpd2, sN2]
      rw [hv]
      match i with
      | 0 =>
        simp at hr hb
        subst hr hb
        simp only [dotI, detM]; grind
      | 1 =>
        simp at hr hb
        subst hr hb
        simp only [dotI, detM]; grind
      | i + 2 => simp at hr
  · match sd, hl with
    | [p, q, r], _ =>
      have hv : vecN [[a1, a2, a3], [a4, a5, a6], [a7, a8, a9]] [p, q, r] = [p * (a5 * a9 - a6 * a8) - a2 * (q * a9 - a6 * r) + a3 * (q * a8 - a5 * r), a1 * (q * a9 - a6 * r) - p * (a4 * a9 - a6 * a7) + a3 * (a4 * r - q * a7), a1 * (a5 * r - q * a8) - a2 * (a4 * r - q * a7) + p * (a4 * a8 - a5 * a7)] := by
        simp [vecN, List.range_succ, rpd3, sN3]
      rw [hv]
      match i with
      | 0 =>
        simp at hr hb
        subst hr hb
        simp only [dotI, detM]; grind
      | 1 =>
        simp at hr hb
        subst hr hb
        simp only [dotI, detM]; grind
      | 2 =>
        simp at hr hb
        subst hr hb
        simp only [dotI, detM]; grind
      | i + 3 => simp at hr
theorem all2_map {a b c : Type} {R : b → c → Prop} (f : a → b) (g : a → c) : ∀ (l : List a), (∀ x ∈ l, R (f x) (g x)) → All2 R (l.map f) (l.map g)
  | [], _ => .nil
  | x :: l, h => .cons (h x (by simp)) (all2_map f g l fun y hy => h y (by simp [hy]))
theorem vec_rel {c : List (List Int)} (hd : detM c ≠ 0) (sd : List Int) : All2 (fun v r => v.1 * detM c = r * v.2) (vecX c sd c.length) (vecN c sd) :=
  all2_map _ _ _ fun i _ => low_eq hd
theorem vec_ok {c : List (List Int)} (h : Sg c) (hd : detM c ≠ 0) {sd : List Int} (hl : sd.length = c.length) (hs : ∀ x ∈ sd, -9 ≤ x ∧ x ≤ 9) : VecB c.length (vecX c sd c.length) :=
  ⟨by simp [vecX], fun p hp => by
    obtain ⟨i, _, rfl⟩ := List.mem_map.mp hp
    exact unk_vb h hd hl hs i⟩
theorem rowS_of {c : List (List Int)} (h : Sg c) (hd : detM c ≠ 0) {sd : List Int} (hl : sd.length = c.length) (hs : ∀ x ∈ sd, -9 ≤ x ∧ x ≤ 9) (i : Nat) (row : List Int) (b : Int) (hr : c[i]? = some row) (hb : sd[i]? = some b) : RowS row (vecX c sd c.length) b := by
  have hm := List.mem_of_getElem? hr
  have hrl := h.sq.sq row hm
  have h1 := h.lo
  have h3 := h.sq.hi
  refine ⟨by simp [vecX, hrl], by omega, by omega, h.nine row hm, (vec_ok h hd hl hs).vb, ?_⟩
  exact sum_one (by simp [vecX, hrl]) (vec_rel hd sd) (vec_ok h hd hl hs).vb hd (cramer h.sq hl hr hb)
end Rt
set_option maxHeartbeats 2000000
namespace Rt
open PySem
variable {W n : Nat} {s : Sto}
theorem len_mat (s : Sto) (c : List (List Int)) : biD s .len [matD c] = .ok (.int c.length) s := by simp [matD]
theorem eqv_two (a b c d : Int × Int) : eqv (.tup [pD a, pD b]) (.tup [pD c, pD d]) = decide (a = c ∧ b = d) := by
  rw [eqv]
  simp [eqvAll_cons, eqvAll_nil, beq_pair]
theorem wp_rest (hW : Big W) {L i0 : Nat} (hs : Dice L s) (hi : i0 < L) {c : List (List Int)} (h : Sg c) (hd : detM c ≠ 0) {sd : List Int} (hl : sd.length = c.length) (hr : ∀ x ∈ sd, -9 ≤ x ∧ x ≤ 9) {Q : D → Sto → Prop} (k : ∀ s', Dice L s' → Q (.bl true) s') :
    Wp (run Pd W (n + 10) 150 [.cell i0, matD c, tabD (sgl c), rowD (sgR sd), .lst ((vecX c sd c.length).map pD)] s) Q := by
  rw [call_of (d := c_law_rest) rfl rfl]
  have h1 := h.lo
  have h3 := h.sq.hi
  have e1 := run_ldet (W := W) (n := n + 8) (s := s) c h.sq h1 h.e64
  have e2 := run_first_excludingS (W := W) (n := n + 1) (s := s) hW h hl hr (vec_ok h hd hl hr) (rowS_of h hd hl hr)
  have e3 := run_solved_byS (W := W) (n := n + 1) (s := s) hW h hl hr (vec_ok h hd hl hr) (rowS_of h hd hl hr)
  have e4 := run_as_member (W := W) (n := n + 8) (s := s) c (by omega) (fun r hr => by rw [h.sq.sq r hr]; omega)
  have hrd : D.tup ((vecX c sd c.length).map pD) = rowD (vecX c sd c.length) := rfl
  have has : (c.map fun r => r.map fun x => (x, (1 : Int))) = asM c := rfl
  rw [has] at e4
  simp only [c_law_rest]
  simp [len_mat, e1, hrd, e2, e3, e4, eqv_tab, sh_tab]
  refine wp_roll hs hi c.length (by omega) (by omega) fun a s hs a0 a1 => ?_
  refine wp_roll hs hi c.length (by omega) (by omega) fun b s hs b0 b1 => ?_
  obtain ⟨i, rfl⟩ := Int.eq_ofNat_of_zero_le a0
  obtain ⟨j, rfl⟩ := Int.eq_ofNat_of_zero_le b0
  have hi' : i < c.length := by omega
  have hj' : j < c.length := by omega
  obtain ⟨b1', b2⟩ := run_rpd (W := W) (n := n + 8) c h.sq h.e64 h1 i j hi'
  have b3 := run_unit (W := W) (n := n + 8) (s := s) c.length j (by omega)
  have hdb := h.det
  have b4 := run_llowG (W := W) (n := n + 7) (s := s) hW (rpd c i (unitL c.length j)) (detM c) hd (by unfold E40; omega)
  have b5 := run_inverse1 (W := W) (n := n) (s := s) hW h hd hi' hj'
  rw [show lowN (rpd c i (unitL c.length j)) (detM c) = unk c i (unitL c.length j) from rfl] at b4
  simp [b1', b2, b3, b4, b5, eqv_two]
  exact k s hs
abbrev e20 (ns : List Int) (i0 : Nat) (c : List (List Int)) (x6 x7 x8 x9 x10 x11 x12 x13 x14 x15 x16 x17 x18 : Slot) : Env := [.val (.lst (ns.map D.int)), .val (.cell i0), .val (.int c.length), .val (matD c), .val (tabD (sgl c)), .val (.int (detM c)), x6, x7, x8, x9, x10, x11, x12, x13, x14, x15, x16, x17, x18]
def law20I (L : Nat) (ns : List Int) (k : Nat) (r : Env) (s : Sto) : Prop := ∃ x1 x2 x3 x4 x5 x6 x7 x8 x9 x10 x11 x12 x13 x14 x15 x16 x17 x18, r = [.val (.lst (ns.map D.int)), x1, x2, x3, x4, x5, x6, x7, x8, x9, x10, x11, x12, x13, x14, x15, x16, x17, x18] ∧ Dice L s
def st20 (L i0 : Nat) (ns : List Int) (r : Env) (s : Sto) : Prop := ∃ c, Sg c ∧ Dice L s ∧ ∃ x6 x7 x8 x9 x10 x11 x12 x13 x14 x15 x16 x17 x18, r = e20 ns i0 c x6 x7 x8 x9 x10 x11 x12 x13 x14 x15 x16 x17 x18
def sd20 (L i0 : Nat) (ns : List Int) (c : List (List Int)) (r : Env) (s : Sto) : Prop := Dice L s ∧ ((detM c = 0 ∧ ∃ x6 x7 x8 x9 x10 x11 x12 x13 x14 x15 x16 x17 x18, r = e20 ns i0 c x6 x7 x8 x9 x10 x11 x12 x13 x14 x15 x16 x17 x18) ∨
  (detM c ≠ 0 ∧ ∃ sd, sd.length = c.length ∧ (∀ x ∈ sd, -9 ≤ x ∧ x ≤ 9) ∧ ∃ x9 x10 x11 x12 x13 x14 x15 x16 x17 x18, r = e20 ns i0 c (.val (vecD sd)) (.val (rowD (sgR sd))) (.val (.lst ((vecX c sd c.length).map pD))) x9 x10 x11 x12 x13 x14 x15 x16 x17 x18))
def v20 (L i0 : Nat) (ns : List Int) (c : List (List Int)) (sd : List Int) (k : Nat) (r : Env) (s : Sto) : Prop := Dice L s ∧ ∃ x9 x10 x11 x12 x13 x14 x15 x16 x17 x18, r = e20 ns i0 c (.val (vecD sd)) (.val (rowD (sgR sd))) (.own ((vecX c sd k).map pD)) x9 x10 x11 x12 x13 x14 x15 x16 x17 x18
def w20 (L i0 : Nat) (ns : List Int) (c : List (List Int)) (sd : List Int) (k : Nat) (r : Env) (s : Sto) : Prop := Dice L s ∧ ∃ x9 x10 x11 x12 x13 x14 x15 x16 x17 x18, r = e20 ns i0 c (.val (vecD sd)) (.val (rowD (sgR sd))) (.val (.lst ((vecX c sd c.length).map pD))) x9 x10 x11 x12 x13 x14 x15 x16 x17 x18
/-- the sum so far -/
structure So (Δ S : Int) (k : Nat) (p : Int × Int) : Prop where
  lt : Lt p
  bd : p.2.natAbs ≤ 5000 ^ k
  eq : p.1 * Δ = S * p.2
def f20 (L i0 : Nat) (ns : List Int) (c : List (List Int)) (sd row : List Int) (b : Int) (k : Nat) (r : Env) (s : Sto) : Prop := Dice L s ∧ ∃ p, So (detM c) (dotI (row.take k) ((vecN c sd).take k)) k p ∧ ∃ x9 x12 x13 x15 x16 x17 x18, r = e20 ns i0 c (.val (vecD sd)) (.val (rowD (sgR sd))) (.val (.lst ((vecX c sd c.length).map pD))) x9 (.val (vecD row)) (.val (.int b)) x12 x13 (.val (pD p)) x15 x16 x17 x18
theorem dot_snoc : ∀ (a b : List Int) (x y : Int), a.length = b.length → dotI (a ++ [x]) (b ++ [y]) = dotI a b + x * y
  | [], [], x, y, _ => by simp [dotI]
  | [], _ :: _, x, y, h => by simp at h
  | _ :: _, [], x, y, h => by simp at h
  | a :: as, b :: bs, x, y, h => by
    simp only [List.cons_append, dotI, dot_snoc as bs x y (by simpa using h)]
    omega
theorem so_step (hW : Big W) {Δ S x r : Int} {k : Nat} (hk : k ≤ 2) (hd : Δ ≠ 0) {p v : Int × Int} (hp : So Δ S k p) (hv : Vb v) (hx : x.natAbs ≤ 9) (hvr : v.1 * Δ = r * v.2) :
    ∃ q, So Δ (S + x * r) (k + 1) q ∧ ∀ s : Sto, (run Pd W (n + 3) 106 [.tup [.int x, .int 1], pD v] s = .ok (pD (lowN (x * v.1) (1 * v.2))) s ∧ run Pd W (n + 3) 105 [pD p, pD (lowN (x * v.1) (1 * v.2))] s = .ok (pD q) s) := by
  have v0 := hv.pos
  have v1 := hv.sm
  have v2 := hv.nm
  have p0 := hp.lt.pos
  have hne : 1 * v.2 ≠ 0 := by omega
  have hn : (x * v.1).natAbs ≤ 9 * 5000 := na_mul hx v2
  have b1 := low_lt (t := x * v.1) hne
  have b2 := low_le (t := x * v.1) hne
  have b3 := low_eq (t := x * v.1) hne
  have bp : 5000 ^ k ≤ 5000 ^ 2 := Nat.pow_le_pow_right (by decide) hk
  have hbd := hp.bd
  obtain ⟨w, hw⟩ : ∃ w, w = lowN (x * v.1) (1 * v.2) := ⟨_, rfl⟩
  rw [← hw] at b1 b2 b3 ⊢
  have w0 := b1.pos
  have pw : 0 < p.2 * w.2 := Int.mul_pos p0 w0
  have c1 := low_lt (t := p.1 * w.2 + w.1 * p.2) (show p.2 * w.2 ≠ 0 by omega)
  have c2 := low_le (t := p.1 * w.2 + w.1 * p.2) (show p.2 * w.2 ≠ 0 by omega)
  have c3 := low_eq (t := p.1 * w.2 + w.1 * p.2) (show p.2 * w.2 ≠ 0 by omega)
  have hpw : (p.2 * w.2).natAbs ≤ 5000 ^ k * 5000 := na_mul hbd (by omega)
  refine ⟨lowN (p.1 * w.2 + w.1 * p.2) (p.2 * w.2), ⟨c1, by rw [Nat.pow_succ]; omega, ?_⟩, fun s => ⟨?_, ?_⟩⟩
  · have hwx : w.1 * Δ = x * r * w.2 := by
      refine Int.eq_of_mul_eq_mul_right (show v.2 ≠ 0 by omega) ?_
      have : w.1 * v.2 = x * v.1 * w.2 := by rw [Int.one_mul] at b3; exact b3
      grind
    have he := hp.eq
    generalize lowN (p.1 * w.2 + w.1 * p.2) (p.2 * w.2) = q at *
    refine Int.eq_of_mul_eq_mul_right (show p.2 * w.2 ≠ 0 by omega) ?_
    grind
  · have := run_law_by (W := W) (n := n) (s := s) hW (x, 1) v (by simp) v0 (Or.inl (by simp only; omega)) (Or.inl (by simp)) (by unfold E40; simp only; omega)
    rw [hw]
    exact this
  · exact run_law_plus (W := W) (n := n) (s := s) hW p w p0 w0 (Or.inr (by omega)) (Or.inl (by omega)) (Or.inr (by omega)) (by unfold E40; omega)
theorem map_D (m : List (List Int)) : D.tup (m.map vecD) = matD m := rfl
theorem vecX_snoc (c : List (List Int)) (sd : List Int) (k : Nat) : vecX c sd (k + 1) = vecX c sd k ++ [unk c k sd] := by simp [vecX, List.range_succ]
theorem zipTL (s : Sto) (row : List Int) (v : List (Int × Int)) : zipK (vecD row) (.lst (v.map pD)) s = .ok ((row.zip v).map fun z => .tup [.int z.1, pD z.2]) s := by
  rw [vecD, zipK_tl, zip_mapG]
theorem zipTT (s : Sto) (m : List (List Int)) (v : List Int) : zipK (matD m) (vecD v) s = .ok ((m.zip v).map fun z => .tup [vecD z.1, .int z.2]) s := by
  rw [vecD, matD, zipK_tup, zip_mapG]
theorem k20_run (hW : Big W) (ns : List Int) (hl : ns.length ≤ 63) : ∃ st, run Pd W (n + 11) 151 [.lst (ns.map D.int)] [] = .ok (.bl true) st := by
  have key : Wp (run Pd W (n + 11) 151 [.lst (ns.map D.int)] []) (fun v _ => v = .bl true) := by
    rw [call_of (d := c_law_151) rfl rfl]
    obtain ⟨L, s1, e1, d1, _⟩ := run_rounds (W := W) (n := n + 8) ns 4 (by omega) (by omega) (by omega)
    simp only [c_law_151]
    simp [e1]
    refine for_map (law20I L ns) ⟨_, _, _, _, _, _, _, _, _, _, _, _, _, _, _, _, _, _, rfl, d1⟩ (fun k i0 hi r s hI => ?_) (fun r s hI => ?_)
    · obtain ⟨x1, x2, x3, x4, x5, x6, x7, x8, x9, x10, x11, x12, x13, x14, x15, x16, x17, x18, rfl, hs⟩ := hI
      have hiL : i0 < L := by have := List.mem_of_getElem? hi; simpa using this
      simp only [wp_roundK, bindT_name, List.set_cons_succ, List.set_cons_zero, roundP_some]
      refine wp_split (st20 L i0 ns) 4 ?_ ?_
      · simp only [takeS]
        simp
        refine wp_roll hs hiL 3 (by omega) (by omega) fun a s hs a0 a1 => ?_
        obtain ⟨m, hm, m1, m3⟩ : ∃ m : Nat, (m : Int) = 1 + a ∧ 1 ≤ m ∧ m ≤ 3 := ⟨(1 + a).toNat, by omega, by omega, by omega⟩
        simp [← hm, small_nat (show m ≤ 1000 by omega), rngD_map]
        refine wp_mapR (a := Nat) vecD (Dice L) (fun _ (row : List Int) => row.length = m ∧ ∀ x ∈ row, -9 ≤ x ∧ x ≤ 9) hs (fun x hx s hs => ?_) (fun c s hs hc => ?_)
        · simp [itemK, small_nat (show m ≤ 1000 by omega), rngD_map]
          refine wp_mapR (a := Nat) D.int (Dice L) (fun _ (y : Int) => -9 ≤ y ∧ y ≤ 9) hs (fun y hy s hs => ?_) (fun row s hs hrow => ?_)
          · simp [itemK]
            exact wp_roll hs hiL 19 (by omega) (by omega) fun v s hs v0 v1 => ⟨v - 9, by simp, hs, by omega, by omega⟩
          · have hl := hrow.length
            simp at hl
            simp [show row.length ≤ 1000000 by omega]
            exact ⟨row, rfl, hs, hl, fun x hx => All2.right (fun y => -9 ≤ y ∧ y ≤ 9) (fun _ _ r => r) hrow x hx⟩
        · have hlc := hc.length
          simp at hlc
          have hr : ∀ r ∈ c, r.length = m ∧ ∀ x ∈ r, -9 ≤ x ∧ x ≤ 9 := All2.right (fun (r : List Int) => r.length = m ∧ ∀ x ∈ r, -9 ≤ x ∧ x ≤ 9) (fun _ _ r => r) hc
          have sg : Sg c := ⟨⟨by omega, fun r h => by rw [(hr r h).1, hlc]⟩, by omega, fun r h => (hr r h).2⟩
          have em := mapR_all (f := itemK (run Pd W (n + 10)) (.name 10) .none (.bi .tuple (.cons (.comp (.name 11) (.val (.var 10)) .none (.tup (.cons (.var 11) (.cons (.var 11) .nil))) [11]) .nil)) [.val (.lst (ns.map D.int)), .val (.cell i0), .val (.int m), .val (matD c), x4, x5, x6, x7, x8, x9, .no, x11, x12, x13, x14, x15, x16, x17, x18]) (φ := vecD) (fun r => rowD (sgR r)) (s := s) (l := c) fun r hr' => by
            have e2 := mapR_all (f := itemK (run Pd W (n + 10)) (.name 11) .none (.tup (.cons (.var 11) (.cons (.var 11) .nil))) [.val (.lst (ns.map D.int)), .val (.cell i0), .val (.int m), .val (matD c), x4, x5, x6, x7, x8, x9, .val (vecD r), .no, x12, x13, x14, x15, x16, x17, x18]) (φ := D.int) (fun x => pD (x, x)) (s := s) (l := r) fun x hx => by simp [itemK, pD]
            have hv : valK (vecD r) s = .ok (r.map D.int) s := rfl
            have h3 := (hr r hr').1
            simp [itemK, hv, e2, show r.length ≤ 1000000 by omega]
            simp [rowD, sgR, Function.comp_def]
          have hvm : valK (matD c) s = .ok (c.map vecD) s := rfl
          have htab : D.tup (c.map fun r => rowD (sgR r)) = tabD (sgl c) := by simp [tabD, sgl, Function.comp_def]
          have ed := run_ldet (W := W) (n := n + 9) (s := s) c sg.sq sg.lo sg.e64
          simp [show c.length ≤ 1000000 by omega, map_D, hvm, em, htab, ed]
          subst hlc
          exact ⟨c, sg, hs, _, _, _, _, _, _, _, _, _, _, _, _, _, rfl⟩
      rintro _ s ⟨c, sg, hs, x6, x7, x8, x9, x10, x11, x12, x13, x14, x15, x16, x17, x18, rfl⟩
      simp only [dropS]
      have h1 := sg.lo
      have h3 := sg.sq.hi
      have hdb := sg.det
      refine wp_split (fun r s' => s' = s ∧ r = e20 ns i0 c x6 x7 x8 x9 x10 x11 x12 x13 x14 x15 x16 x17 x18) 5 ?_ ?_
      · simp only [takeS]
        have a1 := run_determinant_range (W := W) (n := n + 3) (s := s) (sgl c) sg.ok
        have a2 := run_count_corners (W := W) (n := n + 3) (s := s) (sgl c) sg.ok
        have a3 := run_least_corner (W := W) (n := n + 3) (s := s) (sgl c) sg.ok
        have a4 := run_greatest_corner (W := W) (n := n + 3) (s := s) (sgl c) sg.ok
        have a5 := run_all_invertible (W := W) (n := n + 3) (s := s) (sgl c) sg.ok
        have a6 := with_in (W := W) (n := n + 3) (s := s) hW sg
        have a7 := with_out (W := W) (n := n + 3) (s := s) hW sg
        have a8 := run_as_member (W := W) (n := n + 9) (s := s) c (by omega) (fun r hr => by rw [sg.sq.sq r hr]; omega)
        rw [show (c.map fun r => r.map fun x => (x, (1 : Int))) = asM c from rfl] at a8
        rw [min_one, max_one] at a1 a5
        rw [min_one, first_one] at a3
        rw [max_one, first_one] at a4
        rw [corners_one] at a2
        rw [show pD (detM c, 1) = D.tup [.int (detM c), .int 1] from rfl] at a6
        rw [show pD (detM c + 1, 1) = D.tup [.int (detM c + 1), .int 1] from rfl] at a7
        have hz : (decide (0 < detM c) || decide (detM c < 0)) = !decide (detM c = 0) := by
          by_cases z : detM c = 0
          · simp [z]
          · simp [z]; omega
        rw [hz] at a5
        have hb : ∀ b : Bool, eqv (.bl b) (.bl b) = true := fun b => by rw [eqv]; cases b <;> rfl
        simp [a1, a2, a3, a4, a5, a6, a7, a8, eqv_matD, sh_mat, eqv_tab, sh_tab]
        by_cases z : detM c = 0 <;> simp [z]
      rintro _ s' ⟨rfl, rfl⟩
      simp only [dropS]
      refine wp_split (sd20 L i0 ns c) 1 ?_ ?_
      · simp only [takeS]
        by_cases z : detM c = 0
        · simp [z]
          exact ⟨hs, .inl ⟨z, _, _, _, _, _, _, _, _, _, _, _, _, _, rfl⟩⟩
        · have zb : (detM c == 0) = false := by simp [z]
          simp [zb, small_nat (show c.length ≤ 1000 by omega), rngD_map]
          refine wp_mapR (a := Nat) D.int (Dice L) (fun _ (y : Int) => -9 ≤ y ∧ y ≤ 9) hs (fun y hy s hs => ?_) (fun sd s hs hsd => ?_)
          · simp [itemK]
            exact wp_roll hs hiL 19 (by omega) (by omega) fun v s hs v0 v1 => ⟨v - 9, by simp, hs, by omega, by omega⟩
          · have hsl := hsd.length
            simp at hsl
            have hrg : ∀ x ∈ sd, -9 ≤ x ∧ x ≤ 9 := fun x hx => All2.right (fun y => -9 ≤ y ∧ y ≤ 9) (fun _ _ r => r) hsd x hx
            have hvd : D.tup (sd.map D.int) = vecD sd := rfl
            have e2 := mapR_all (f := itemK (run Pd W (n + 10)) (.name 11) .none (.tup (.cons (.var 11) (.cons (.var 11) .nil))) [.val (.lst (ns.map D.int)), .val (.cell i0), .val (.int c.length), .val (matD c), .val (tabD (sgl c)), .val (.int (detM c)), .val (vecD sd), x7, x8, x9, x10, .no, x12, x13, x14, x15, x16, x17, x18]) (φ := D.int) (fun x => pD (x, x)) (s := s) (l := sd) fun x hx => by simp [itemK, pD]
            have hvk : valK (vecD sd) s = .ok (sd.map D.int) s := rfl
            have hrd : D.tup (sd.map fun x => pD (x, x)) = rowD (sgR sd) := by simp [rowD, sgR, Function.comp_def]
            simp [show sd.length ≤ 1000000 by omega, hvd, hvk, e2, hrd, small_nat (show c.length ≤ 1000 by omega), rngD_map]
            refine for_map (v20 L i0 ns c sd) ⟨hs, _, _, _, _, _, _, _, _, _, _, rfl⟩ (fun k' i hi' r s hI => ?_) (fun r s hI => ?_)
            · obtain ⟨hs, y9, y10, y11, y12, y13, y14, y15, y16, y17, y18, rfl⟩ := hI
              have hi2 : i < c.length := by have := List.mem_of_getElem? hi'; simpa using this
              have hki : i = k' := by
                rw [List.getElem?_range (by have := (List.getElem?_eq_some_iff.mp hi').1; simpa using this)] at hi'
                cases hi'; rfl
              subst hki
              have r1 := run_range1 (W := W) (n := n + 1) (s := s) hW sg z hsl hrg hi2
              have r2 := run_corner1 (W := W) (n := n + 1) (s := s) hW sg z hsl hrg hi2
              have hvl : (vecX c sd i).length < 1000000 := by simp [vecX]; omega
              have hsh : shp 30 (.tup [matD c, vecD sd]) = true := shp_pr 27 (c, sd)
              have heq : eqv (.tup [matD c, vecD sd]) (.tup [matD c, vecD sd]) = true := by
                rw [eqv]
                simp [eqvAll_cons, eqvAll_nil, eqv_matD, eqv_vec]
              have hvx : (vecX c sd i).map pD ++ [pD (unk c i sd)] = (vecX c sd (i + 1)).map pD := by rw [vecX_snoc]; simp
              simp [r1, r2, hvl, hsh, heq, hvx]
              exact ⟨hs, _, _, _, _, _, _, _, _, _, _, rfl⟩
            · obtain ⟨hs, y9, y10, y11, y12, y13, y14, y15, y16, y17, y18, rfl⟩ := hI
              simp only [List.length_range]
              simp [zipTT]
              refine for_map (w20 L i0 ns c sd) ⟨hs, _, _, _, _, _, _, _, _, _, _, rfl⟩ (fun k' q hq r s hI => ?_) (fun r s hI => ?_)
              · obtain ⟨hs, y9, y10, y11, y12, y13, y14, y15, y16, y17, y18, rfl⟩ := hI
                obtain ⟨row, b⟩ := q
                have hrow : c[k']? = some row ∧ sd[k']? = some b := by
                  have := List.getElem?_zip_eq_some.mp hq
                  exact this
                have hrl := sg.sq.sq row (List.mem_of_getElem? hrow.1)
                simp [zipTL]
                refine for_map (f20 L i0 ns c sd row b) ⟨hs, (0, 1), ⟨⟨by simp, by simp⟩, by simp, by simp [dotI]⟩, _, _, _, _, _, _, _, rfl⟩ (fun j q hq2 r s hI => ?_) (fun r s hI => ?_)
                · obtain ⟨hs, p, hp, z9, z12, z13, z15, z16, z17, z18, rfl⟩ := hI
                  obtain ⟨x, v⟩ := q
                  obtain ⟨g1, g2⟩ := List.getElem?_zip_eq_some.mp hq2
                  simp only at g1 g2
                  have hj : j < c.length := by
                    have := (List.getElem?_eq_some_iff.mp g1).1
                    omega
                  have hv : v = unk c j sd := by
                    rw [vecX, List.getElem?_map, List.getElem?_range hj] at g2
                    cases g2; rfl
                  have hx9 := sg.nine row (List.mem_of_getElem? hrow.1) x (List.mem_of_getElem? g1)
                  have gn : (vecN c sd)[j]? = some (rpd c j sd) := by
                    rw [vecN, List.getElem?_map, List.getElem?_range hj]; rfl
                  obtain ⟨q', hq', hrun⟩ := so_step (W := W) (n := n + 7) hW (k := j) (x := x) (v := v) (r := rpd c j sd) (by omega) z hp (by rw [hv]; exact unk_vb sg z hsl hrg j) hx9 (by rw [hv]; exact low_eq z)
                  obtain ⟨t1, t2⟩ := hrun s
                  rw [Int.one_mul] at t1 t2
                  simp [t1, t2]
                  refine ⟨hs, q', ?_, _, _, _, _, _, _, _, rfl⟩
                  rw [take_get g1, take_get gn, dot_snoc _ _ _ _ (by simp [vecN]; omega)]
                  exact hq'
                · obtain ⟨hs, p, hp, z9, z12, z13, z15, z16, z17, z18, rfl⟩ := hI
                  have hzl : (row.zip (vecX c sd c.length)).length = c.length := by simp [vecX, hrl]
                  rw [hzl, List.take_of_length_le (by omega), List.take_of_length_le (by simp [vecN])] at hp
                  have hpb : p = (b, 1) := by
                    have e := hp.eq
                    rw [cramer sg.sq hsl hrow.1 hrow.2] at e
                    refine Lt.uniq hp.lt ⟨by simp, by simp⟩ (Int.eq_of_mul_eq_mul_right z ?_)
                    simp only
                    grind
                  subst hpb
                  simp [pD]
                  exact ⟨hs, _, _, _, _, _, _, _, _, _, _, rfl⟩
              · obtain ⟨hs, y9, y10, y11, y12, y13, y14, y15, y16, y17, y18, rfl⟩ := hI
                simp
                exact ⟨hs, .inr ⟨z, sd, hsl, hrg, _, _, _, _, _, _, _, _, _, _, rfl⟩⟩
      rintro _ s'' ⟨hs, ⟨z, y6, y7, y8, y9, y10, y11, y12, y13, y14, y15, y16, y17, y18, rfl⟩ | ⟨z, sd, hsl, hrg, y9, y10, y11, y12, y13, y14, y15, y16, y17, y18, rfl⟩⟩
      · simp only [dropS]
        simp [z]
        exact ⟨_, _, _, _, _, _, _, _, _, _, _, _, _, _, _, _, _, _, rfl, hs⟩
      · simp only [dropS]
        have zb : (detM c == 0) = false := by simp [z]
        simp [zb]
        refine wp_rest hW hs hiL sg z hsl hrg fun s3 hs3 => ?_
        simp
        exact ⟨_, _, _, _, _, _, _, _, _, _, _, _, _, _, _, _, _, _, rfl, hs3⟩
    · obtain ⟨x1, x2, x3, x4, x5, x6, x7, x8, x9, x10, x11, x12, x13, x14, x15, x16, x17, x18, rfl, hs⟩ := hI
      simp
  obtain ⟨v, s', e, rfl⟩ := wp_iff.mp key
  exact ⟨s', e⟩
end Rt
set_option maxHeartbeats 0
namespace Rt
open PySem PySem.Spec PyProof.Rows L2
def topS (i : Nat) : Stmt := PySem.Challenge.pw_rangetables_k20_whole_single.main.body.getD i (.Pass ⟨0, 0, 0, 0⟩)
def ents0 : List Ent := [⟨1, "is_number", ["value"], ["value"], c_is_number, topS 9⟩,
  ⟨2, "is_whole", ["value", "low", "high"], ["value", "low", "high"], c_is_whole, topS 10⟩,
  ⟨20, "divisor", ["one", "other"], ["one", "other"], c_divisor, topS 11⟩,
  ⟨48, "lowest", ["top", "under"], ["top", "under", "common"], c_lowest, topS 12⟩,
  ⟨21, "is_fraction", ["value"], ["value", "one"], c_is_fraction, topS 13⟩,
  ⟨49, "is_short", ["value"], ["value"], c_is_short, topS 14⟩,
  ⟨3, "is_range", ["value"], ["value", "one"], c_is_range, topS 15⟩,
  ⟨4, "is_row", ["value", "many"], ["value", "many", "one"], c_is_row, topS 16⟩,
  ⟨5, "is_table", ["value"], ["value", "row"], c_is_table, topS 17⟩,
  ⟨6, "need_table", ["table"], ["table"], c_need_table, topS 18⟩,
  ⟨69, "need_place", ["table", "place"], ["table", "place"], c_need_place, topS 19⟩,
  ⟨8, "count_corners", ["table"], ["table", "found", "row", "low", "high"], c_count_corners, topS 20⟩,
  ⟨33, "rows_of", ["bounds"], ["bounds", "found", "low", "high", "longer", "some"], c_rows_of, topS 21⟩,
  ⟨34, "corners_of", ["table"], ["table", "found", "bounds", "longer", "some", "row"], c_corners_of, topS 22⟩,
  ⟨50, "as_member", ["rows"], ["rows", "row", "one"], c_as_member, topS 23⟩,
  ⟨35, "minor", ["rows", "i", "j"], ["rows", "i", "j", "number", "row", "at", "one"], c_minor, topS 25⟩,
  ⟨36, "determinant_of", ["rows"], ["rows", "found", "place", "one"], c_determinant_of, topS 26⟩,
  ⟨55, "signed", ["rows", "i", "j"], ["rows", "i", "j", "own"], c_signed, topS 27⟩,
  ⟨37, "with_values", ["table"], ["table", "rows"], c_with_values, topS 28⟩,
  ⟨38, "ends_of", ["table"], ["table", "values", "value", "rows"], c_ends_of, topS 29⟩]
def ents1 : List Ent := [⟨39, "determinant_range", ["table"], ["table"], c_determinant_range, topS 30⟩,
  ⟨40, "corner_with", ["table", "value"], ["table", "value", "here", "rows"], c_corner_with, topS 31⟩,
  ⟨41, "least_corner", ["table"], ["table"], c_least_corner, topS 32⟩,
  ⟨42, "greatest_corner", ["table"], ["table"], c_greatest_corner, topS 33⟩,
  ⟨51, "put", ["rows", "i", "j", "value"], ["rows", "i", "j", "value", "row"], c_put, topS 34⟩,
  ⟨52, "member_at", ["table", "value"], ["table", "value", "top", "under", "low", "high", "now", "goal", "i", "j", "later", "first", "last", "step", "entry", "gap"], c_member_at, topS 35⟩,
  ⟨53, "member_with", ["table", "value"], ["table", "value", "low", "high"], c_member_with, topS 36⟩,
  ⟨56, "are_invertible", ["table"], ["table", "low", "high"], c_are_invertible, topS 38⟩,
  ⟨57, "all_invertible", ["table"], ["table"], c_all_invertible, topS 39⟩,
  ⟨70, "need_invertible", ["table"], ["table"], c_need_invertible, topS 40⟩,
  ⟨71, "inverse_values", ["table", "i", "j"], ["table", "i", "j", "value", "rows"], c_inverse_values, topS 41⟩,
  ⟨72, "is_less", ["one", "other"], ["one", "other"], c_is_less, topS 42⟩,
  ⟨73, "best_pair", ["pairs", "sign"], ["pairs", "sign", "best", "pair"], c_best_pair, topS 43⟩,
  ⟨74, "need_inverse", ["table", "i", "j"], ["table", "i", "j"], c_need_inverse, topS 44⟩,
  ⟨75, "inverse_range", ["table", "i", "j"], ["table", "i", "j", "pairs"], c_inverse_range, topS 45⟩,
  ⟨84, "need_right", ["table", "right"], ["table", "right"], c_need_right, topS 47⟩,
  ⟨94, "need_vector", ["table", "vector"], ["table", "vector", "one"], c_need_vector, topS 48⟩,
  ⟨85, "unknown", ["rows", "value", "side", "i"], ["rows", "value", "side", "i", "number", "one"], c_unknown, topS 49⟩,
  ⟨86, "best_side", ["rows", "value", "right", "i", "sign"], ["rows", "value", "right", "i", "sign", "found", "number", "bounds", "own"], c_best_side, topS 50⟩,
  ⟨87, "extremes", ["table", "right", "i", "sign"], ["table", "right", "i", "sign", "found", "value", "rows"], c_extremes, topS 51⟩]
def ents2 : List Ent := [⟨88, "need_system", ["table", "right", "i"], ["table", "right", "i"], c_need_system, topS 52⟩,
  ⟨89, "solution_range", ["table", "right", "i"], ["table", "right", "i", "low"], c_solution_range, topS 53⟩,
  ⟨92, "solution_corner", ["table", "right", "i"], ["table", "right", "i", "most", "rows", "value", "sides", "side"], c_solution_corner, topS 54⟩,
  ⟨95, "sum_of", ["entries", "vector"], ["entries", "vector", "under", "one", "found", "place"], c_sum_of, topS 55⟩,
  ⟨96, "end_of", ["bounds", "vector", "high"], ["bounds", "vector", "high", "found", "place", "one", "is_high"], c_end_of, topS 56⟩,
  ⟨97, "meets", ["bounds", "vector", "side"], ["bounds", "vector", "side", "low", "high"], c_meets, topS 57⟩,
  ⟨98, "need_all", ["table", "right", "vector"], ["table", "right", "vector"], c_need_all, topS 58⟩,
  ⟨99, "excluding", ["table", "right", "vector"], ["table", "right", "vector", "number", "bounds"], c_excluding, topS 59⟩,
  ⟨100, "first_excluding", ["table", "right", "vector"], ["table", "right", "vector"], c_first_excluding, topS 60⟩,
  ⟨101, "between", ["one", "other", "part"], ["one", "other", "part", "gap", "step"], c_between, topS 61⟩,
  ⟨102, "row_for", ["bounds", "vector", "side"], ["bounds", "vector", "side", "first", "last", "low", "high", "part", "place", "one"], c_row_for, topS 62⟩,
  ⟨103, "solved_by", ["table", "right", "vector"], ["table", "right", "vector", "number", "bounds"], c_solved_by, topS 63⟩,
  ⟨10, "_law_cell", ["script", "k"], ["script", "k"], c_law_cell, topS 65⟩,
  ⟨11, "_law_drawn", ["cell", "k"], ["cell", "k", "more"], c_law_drawn, topS 66⟩,
  ⟨12, "_law_roll", ["dice", "many"], ["dice", "many", "told"], c_law_roll, topS 67⟩,
  ⟨13, "_law_rounds", ["script", "most"], ["script", "most", "k"], c_law_rounds, topS 68⟩,
  ⟨25, "_law_divisor", ["one", "other"], ["one", "other"], c_law_divisor, topS 69⟩,
  ⟨26, "_law_lowest", ["top", "under"], ["top", "under", "common"], c_law_lowest, topS 70⟩,
  ⟨105, "_law_plus", ["one", "other"], ["one", "other"], c_law_plus, topS 71⟩,
  ⟨106, "_law_by", ["one", "other"], ["one", "other"], c_law_by, topS 72⟩]
def ents3 : List Ent := [⟨44, "_law_det", ["rows"], ["rows", "a", "b", "c", "d", "e", "f", "g", "h", "i", "found"], c_law_det, topS 73⟩,
  ⟨77, "_law_replaced", ["rows", "place", "side"], ["rows", "place", "side", "at", "row"], c_law_replaced, topS 74⟩,
  ⟨66, "_law_unit", ["many", "place"], ["many", "place", "at"], c_law_unit, topS 75⟩,
  ⟨31, "_law_as_member", ["rows"], ["rows", "row", "one"], c_law_as_member, topS 76⟩,
  ⟨150, "_law_rest", ["dice", "rows", "table", "right", "vector"], ["dice", "rows", "table", "right", "vector", "many", "size", "i", "j", "own"], c_law_rest, topS 77⟩,
  ⟨151, "law", ["script"], ["script", "dice", "many", "rows", "table", "size", "side", "right", "vector", "i", "row", "one", "low", "high", "found", "entry", "own", "place", "j"], c_law_151, topS 78⟩]
def ents : List Ent := ents0 ++ ents1 ++ ents2 ++ ents3
def cs : List Nat := [0, 1, 2, 3, 4, 7]
theorem ck : ents.all (ckEnt ents (exnOf cs) false) = true := by decide +kernel
theorem ok9 : EntOk Pd ⟨1, "is_number", ["value"], ["value"], c_is_number, topS 9⟩ := ⟨rfl, fun _ _ _ _ _ _ us hl => match us, hl with | [_], _ => rfl⟩
theorem ok10 : EntOk Pd ⟨2, "is_whole", ["value", "low", "high"], ["value", "low", "high"], c_is_whole, topS 10⟩ := ⟨rfl, fun _ _ _ _ _ _ us hl => match us, hl with | [_, _, _], _ => rfl⟩
theorem ok11 : EntOk Pd ⟨20, "divisor", ["one", "other"], ["one", "other"], c_divisor, topS 11⟩ := ⟨rfl, fun _ _ _ _ _ _ us hl => match us, hl with | [_, _], _ => rfl⟩
theorem ok12 : EntOk Pd ⟨48, "lowest", ["top", "under"], ["top", "under", "common"], c_lowest, topS 12⟩ := ⟨rfl, fun _ _ _ _ _ _ us hl => match us, hl with | [_, _], _ => rfl⟩
theorem ok13 : EntOk Pd ⟨21, "is_fraction", ["value"], ["value", "one"], c_is_fraction, topS 13⟩ := ⟨rfl, fun _ _ _ _ _ _ us hl => match us, hl with | [_], _ => rfl⟩
theorem ok14 : EntOk Pd ⟨49, "is_short", ["value"], ["value"], c_is_short, topS 14⟩ := ⟨rfl, fun _ _ _ _ _ _ us hl => match us, hl with | [_], _ => rfl⟩
theorem ok15 : EntOk Pd ⟨3, "is_range", ["value"], ["value", "one"], c_is_range, topS 15⟩ := ⟨rfl, fun _ _ _ _ _ _ us hl => match us, hl with | [_], _ => rfl⟩
theorem ok16 : EntOk Pd ⟨4, "is_row", ["value", "many"], ["value", "many", "one"], c_is_row, topS 16⟩ := ⟨rfl, fun _ _ _ _ _ _ us hl => match us, hl with | [_, _], _ => rfl⟩
theorem ok17 : EntOk Pd ⟨5, "is_table", ["value"], ["value", "row"], c_is_table, topS 17⟩ := ⟨rfl, fun _ _ _ _ _ _ us hl => match us, hl with | [_], _ => rfl⟩
theorem ok18 : EntOk Pd ⟨6, "need_table", ["table"], ["table"], c_need_table, topS 18⟩ := ⟨rfl, fun _ _ _ _ _ _ us hl => match us, hl with | [_], _ => rfl⟩
theorem ok19 : EntOk Pd ⟨69, "need_place", ["table", "place"], ["table", "place"], c_need_place, topS 19⟩ := ⟨rfl, fun _ _ _ _ _ _ us hl => match us, hl with | [_, _], _ => rfl⟩
theorem ok20 : EntOk Pd ⟨8, "count_corners", ["table"], ["table", "found", "row", "low", "high"], c_count_corners, topS 20⟩ := ⟨rfl, fun _ _ _ _ _ _ us hl => match us, hl with | [_], _ => rfl⟩
theorem ok21 : EntOk Pd ⟨33, "rows_of", ["bounds"], ["bounds", "found", "low", "high", "longer", "some"], c_rows_of, topS 21⟩ := ⟨rfl, fun _ _ _ _ _ _ us hl => match us, hl with | [_], _ => rfl⟩
theorem ok22 : EntOk Pd ⟨34, "corners_of", ["table"], ["table", "found", "bounds", "longer", "some", "row"], c_corners_of, topS 22⟩ := ⟨rfl, fun _ _ _ _ _ _ us hl => match us, hl with | [_], _ => rfl⟩
theorem ok23 : EntOk Pd ⟨50, "as_member", ["rows"], ["rows", "row", "one"], c_as_member, topS 23⟩ := ⟨rfl, fun _ _ _ _ _ _ us hl => match us, hl with | [_], _ => rfl⟩
theorem ok25 : EntOk Pd ⟨35, "minor", ["rows", "i", "j"], ["rows", "i", "j", "number", "row", "at", "one"], c_minor, topS 25⟩ := ⟨rfl, fun _ _ _ _ _ _ us hl => match us, hl with | [_, _, _], _ => rfl⟩
theorem ok26 : EntOk Pd ⟨36, "determinant_of", ["rows"], ["rows", "found", "place", "one"], c_determinant_of, topS 26⟩ := ⟨rfl, fun _ _ _ _ _ _ us hl => match us, hl with | [_], _ => rfl⟩
theorem ok27 : EntOk Pd ⟨55, "signed", ["rows", "i", "j"], ["rows", "i", "j", "own"], c_signed, topS 27⟩ := ⟨rfl, fun _ _ _ _ _ _ us hl => match us, hl with | [_, _, _], _ => rfl⟩
theorem ok28 : EntOk Pd ⟨37, "with_values", ["table"], ["table", "rows"], c_with_values, topS 28⟩ := ⟨rfl, fun _ _ _ _ _ _ us hl => match us, hl with | [_], _ => rfl⟩
theorem ok29 : EntOk Pd ⟨38, "ends_of", ["table"], ["table", "values", "value", "rows"], c_ends_of, topS 29⟩ := ⟨rfl, fun _ _ _ _ _ _ us hl => match us, hl with | [_], _ => rfl⟩
theorem ok30 : EntOk Pd ⟨39, "determinant_range", ["table"], ["table"], c_determinant_range, topS 30⟩ := ⟨rfl, fun _ _ _ _ _ _ us hl => match us, hl with | [_], _ => rfl⟩
theorem ok31 : EntOk Pd ⟨40, "corner_with", ["table", "value"], ["table", "value", "here", "rows"], c_corner_with, topS 31⟩ := ⟨rfl, fun _ _ _ _ _ _ us hl => match us, hl with | [_, _], _ => rfl⟩
theorem ok32 : EntOk Pd ⟨41, "least_corner", ["table"], ["table"], c_least_corner, topS 32⟩ := ⟨rfl, fun _ _ _ _ _ _ us hl => match us, hl with | [_], _ => rfl⟩
theorem ok33 : EntOk Pd ⟨42, "greatest_corner", ["table"], ["table"], c_greatest_corner, topS 33⟩ := ⟨rfl, fun _ _ _ _ _ _ us hl => match us, hl with | [_], _ => rfl⟩
theorem ok34 : EntOk Pd ⟨51, "put", ["rows", "i", "j", "value"], ["rows", "i", "j", "value", "row"], c_put, topS 34⟩ := ⟨rfl, fun _ _ _ _ _ _ us hl => match us, hl with | [_, _, _, _], _ => rfl⟩
theorem ok35 : EntOk Pd ⟨52, "member_at", ["table", "value"], ["table", "value", "top", "under", "low", "high", "now", "goal", "i", "j", "later", "first", "last", "step", "entry", "gap"], c_member_at, topS 35⟩ := ⟨rfl, fun _ _ _ _ _ _ us hl => match us, hl with | [_, _], _ => rfl⟩
theorem ok36 : EntOk Pd ⟨53, "member_with", ["table", "value"], ["table", "value", "low", "high"], c_member_with, topS 36⟩ := ⟨rfl, fun _ _ _ _ _ _ us hl => match us, hl with | [_, _], _ => rfl⟩
theorem ok38 : EntOk Pd ⟨56, "are_invertible", ["table"], ["table", "low", "high"], c_are_invertible, topS 38⟩ := ⟨rfl, fun _ _ _ _ _ _ us hl => match us, hl with | [_], _ => rfl⟩
theorem ok39 : EntOk Pd ⟨57, "all_invertible", ["table"], ["table"], c_all_invertible, topS 39⟩ := ⟨rfl, fun _ _ _ _ _ _ us hl => match us, hl with | [_], _ => rfl⟩
theorem ok40 : EntOk Pd ⟨70, "need_invertible", ["table"], ["table"], c_need_invertible, topS 40⟩ := ⟨rfl, fun _ _ _ _ _ _ us hl => match us, hl with | [_], _ => rfl⟩
theorem ok41 : EntOk Pd ⟨71, "inverse_values", ["table", "i", "j"], ["table", "i", "j", "value", "rows"], c_inverse_values, topS 41⟩ := ⟨rfl, fun _ _ _ _ _ _ us hl => match us, hl with | [_, _, _], _ => rfl⟩
theorem ok42 : EntOk Pd ⟨72, "is_less", ["one", "other"], ["one", "other"], c_is_less, topS 42⟩ := ⟨rfl, fun _ _ _ _ _ _ us hl => match us, hl with | [_, _], _ => rfl⟩
theorem ok43 : EntOk Pd ⟨73, "best_pair", ["pairs", "sign"], ["pairs", "sign", "best", "pair"], c_best_pair, topS 43⟩ := ⟨rfl, fun _ _ _ _ _ _ us hl => match us, hl with | [_, _], _ => rfl⟩
theorem ok44 : EntOk Pd ⟨74, "need_inverse", ["table", "i", "j"], ["table", "i", "j"], c_need_inverse, topS 44⟩ := ⟨rfl, fun _ _ _ _ _ _ us hl => match us, hl with | [_, _, _], _ => rfl⟩
theorem ok45 : EntOk Pd ⟨75, "inverse_range", ["table", "i", "j"], ["table", "i", "j", "pairs"], c_inverse_range, topS 45⟩ := ⟨rfl, fun _ _ _ _ _ _ us hl => match us, hl with | [_, _, _], _ => rfl⟩
theorem ok47 : EntOk Pd ⟨84, "need_right", ["table", "right"], ["table", "right"], c_need_right, topS 47⟩ := ⟨rfl, fun _ _ _ _ _ _ us hl => match us, hl with | [_, _], _ => rfl⟩
theorem ok48 : EntOk Pd ⟨94, "need_vector", ["table", "vector"], ["table", "vector", "one"], c_need_vector, topS 48⟩ := ⟨rfl, fun _ _ _ _ _ _ us hl => match us, hl with | [_, _], _ => rfl⟩
theorem ok49 : EntOk Pd ⟨85, "unknown", ["rows", "value", "side", "i"], ["rows", "value", "side", "i", "number", "one"], c_unknown, topS 49⟩ := ⟨rfl, fun _ _ _ _ _ _ us hl => match us, hl with | [_, _, _, _], _ => rfl⟩
theorem ok50 : EntOk Pd ⟨86, "best_side", ["rows", "value", "right", "i", "sign"], ["rows", "value", "right", "i", "sign", "found", "number", "bounds", "own"], c_best_side, topS 50⟩ := ⟨rfl, fun _ _ _ _ _ _ us hl => match us, hl with | [_, _, _, _, _], _ => rfl⟩
theorem ok51 : EntOk Pd ⟨87, "extremes", ["table", "right", "i", "sign"], ["table", "right", "i", "sign", "found", "value", "rows"], c_extremes, topS 51⟩ := ⟨rfl, fun _ _ _ _ _ _ us hl => match us, hl with | [_, _, _, _], _ => rfl⟩
theorem ok52 : EntOk Pd ⟨88, "need_system", ["table", "right", "i"], ["table", "right", "i"], c_need_system, topS 52⟩ := ⟨rfl, fun _ _ _ _ _ _ us hl => match us, hl with | [_, _, _], _ => rfl⟩
theorem ok53 : EntOk Pd ⟨89, "solution_range", ["table", "right", "i"], ["table", "right", "i", "low"], c_solution_range, topS 53⟩ := ⟨rfl, fun _ _ _ _ _ _ us hl => match us, hl with | [_, _, _], _ => rfl⟩
theorem ok54 : EntOk Pd ⟨92, "solution_corner", ["table", "right", "i"], ["table", "right", "i", "most", "rows", "value", "sides", "side"], c_solution_corner, topS 54⟩ := ⟨rfl, fun _ _ _ _ _ _ us hl => match us, hl with | [_, _, _], _ => rfl⟩
theorem ok55 : EntOk Pd ⟨95, "sum_of", ["entries", "vector"], ["entries", "vector", "under", "one", "found", "place"], c_sum_of, topS 55⟩ := ⟨rfl, fun _ _ _ _ _ _ us hl => match us, hl with | [_, _], _ => rfl⟩
theorem ok56 : EntOk Pd ⟨96, "end_of", ["bounds", "vector", "high"], ["bounds", "vector", "high", "found", "place", "one", "is_high"], c_end_of, topS 56⟩ := ⟨rfl, fun _ _ _ _ _ _ us hl => match us, hl with | [_, _, _], _ => rfl⟩
theorem ok57 : EntOk Pd ⟨97, "meets", ["bounds", "vector", "side"], ["bounds", "vector", "side", "low", "high"], c_meets, topS 57⟩ := ⟨rfl, fun _ _ _ _ _ _ us hl => match us, hl with | [_, _, _], _ => rfl⟩
theorem ok58 : EntOk Pd ⟨98, "need_all", ["table", "right", "vector"], ["table", "right", "vector"], c_need_all, topS 58⟩ := ⟨rfl, fun _ _ _ _ _ _ us hl => match us, hl with | [_, _, _], _ => rfl⟩
theorem ok59 : EntOk Pd ⟨99, "excluding", ["table", "right", "vector"], ["table", "right", "vector", "number", "bounds"], c_excluding, topS 59⟩ := ⟨rfl, fun _ _ _ _ _ _ us hl => match us, hl with | [_, _, _], _ => rfl⟩
theorem ok60 : EntOk Pd ⟨100, "first_excluding", ["table", "right", "vector"], ["table", "right", "vector"], c_first_excluding, topS 60⟩ := ⟨rfl, fun _ _ _ _ _ _ us hl => match us, hl with | [_, _, _], _ => rfl⟩
theorem ok61 : EntOk Pd ⟨101, "between", ["one", "other", "part"], ["one", "other", "part", "gap", "step"], c_between, topS 61⟩ := ⟨rfl, fun _ _ _ _ _ _ us hl => match us, hl with | [_, _, _], _ => rfl⟩
theorem ok62 : EntOk Pd ⟨102, "row_for", ["bounds", "vector", "side"], ["bounds", "vector", "side", "first", "last", "low", "high", "part", "place", "one"], c_row_for, topS 62⟩ := ⟨rfl, fun _ _ _ _ _ _ us hl => match us, hl with | [_, _, _], _ => rfl⟩
theorem ok63 : EntOk Pd ⟨103, "solved_by", ["table", "right", "vector"], ["table", "right", "vector", "number", "bounds"], c_solved_by, topS 63⟩ := ⟨rfl, fun _ _ _ _ _ _ us hl => match us, hl with | [_, _, _], _ => rfl⟩
theorem ok65 : EntOk Pd ⟨10, "_law_cell", ["script", "k"], ["script", "k"], c_law_cell, topS 65⟩ := ⟨rfl, fun _ _ _ _ _ _ us hl => match us, hl with | [_, _], _ => rfl⟩
theorem ok66 : EntOk Pd ⟨11, "_law_drawn", ["cell", "k"], ["cell", "k", "more"], c_law_drawn, topS 66⟩ := ⟨rfl, fun _ _ _ _ _ _ us hl => match us, hl with | [_, _], _ => rfl⟩
theorem ok67 : EntOk Pd ⟨12, "_law_roll", ["dice", "many"], ["dice", "many", "told"], c_law_roll, topS 67⟩ := ⟨rfl, fun _ _ _ _ _ _ us hl => match us, hl with | [_, _], _ => rfl⟩
theorem ok68 : EntOk Pd ⟨13, "_law_rounds", ["script", "most"], ["script", "most", "k"], c_law_rounds, topS 68⟩ := ⟨rfl, fun _ _ _ _ _ _ us hl => match us, hl with | [_, _], _ => rfl⟩
theorem ok69 : EntOk Pd ⟨25, "_law_divisor", ["one", "other"], ["one", "other"], c_law_divisor, topS 69⟩ := ⟨rfl, fun _ _ _ _ _ _ us hl => match us, hl with | [_, _], _ => rfl⟩
theorem ok70 : EntOk Pd ⟨26, "_law_lowest", ["top", "under"], ["top", "under", "common"], c_law_lowest, topS 70⟩ := ⟨rfl, fun _ _ _ _ _ _ us hl => match us, hl with | [_, _], _ => rfl⟩
theorem ok71 : EntOk Pd ⟨105, "_law_plus", ["one", "other"], ["one", "other"], c_law_plus, topS 71⟩ := ⟨rfl, fun _ _ _ _ _ _ us hl => match us, hl with | [_, _], _ => rfl⟩
theorem ok72 : EntOk Pd ⟨106, "_law_by", ["one", "other"], ["one", "other"], c_law_by, topS 72⟩ := ⟨rfl, fun _ _ _ _ _ _ us hl => match us, hl with | [_, _], _ => rfl⟩
theorem ok73 : EntOk Pd ⟨44, "_law_det", ["rows"], ["rows", "a", "b", "c", "d", "e", "f", "g", "h", "i", "found"], c_law_det, topS 73⟩ := ⟨rfl, fun _ _ _ _ _ _ us hl => match us, hl with | [_], _ => rfl⟩
theorem ok74 : EntOk Pd ⟨77, "_law_replaced", ["rows", "place", "side"], ["rows", "place", "side", "at", "row"], c_law_replaced, topS 74⟩ := ⟨rfl, fun _ _ _ _ _ _ us hl => match us, hl with | [_, _, _], _ => rfl⟩
theorem ok75 : EntOk Pd ⟨66, "_law_unit", ["many", "place"], ["many", "place", "at"], c_law_unit, topS 75⟩ := ⟨rfl, fun _ _ _ _ _ _ us hl => match us, hl with | [_, _], _ => rfl⟩
theorem ok76 : EntOk Pd ⟨31, "_law_as_member", ["rows"], ["rows", "row", "one"], c_law_as_member, topS 76⟩ := ⟨rfl, fun _ _ _ _ _ _ us hl => match us, hl with | [_], _ => rfl⟩
theorem ok77 : EntOk Pd ⟨150, "_law_rest", ["dice", "rows", "table", "right", "vector"], ["dice", "rows", "table", "right", "vector", "many", "size", "i", "j", "own"], c_law_rest, topS 77⟩ := ⟨rfl, fun _ _ _ _ _ _ us hl => match us, hl with | [_, _, _, _, _], _ => rfl⟩
theorem ok78 : EntOk Pd ⟨151, "law", ["script"], ["script", "dice", "many", "rows", "table", "size", "side", "right", "vector", "i", "row", "one", "low", "high", "found", "entry", "own", "place", "j"], c_law_151, topS 78⟩ := ⟨rfl, fun _ _ _ _ _ _ us hl => match us, hl with | [_], _ => rfl⟩
theorem allok : AllOk Pd ents := (.cons ok9 (.cons ok10 (.cons ok11 (.cons ok12 (.cons ok13 (.cons ok14 (.cons ok15 (.cons ok16 (.cons ok17 (.cons ok18 (.cons ok19 (.cons ok20 (.cons ok21 (.cons ok22 (.cons ok23 (.cons ok25 (.cons ok26 (.cons ok27 (.cons ok28 (.cons ok29 (.cons ok30 (.cons ok31 (.cons ok32 (.cons ok33 (.cons ok34 (.cons ok35 (.cons ok36 (.cons ok38 (.cons ok39 (.cons ok40 (.cons ok41 (.cons ok42 (.cons ok43 (.cons ok44 (.cons ok45 (.cons ok47 (.cons ok48 (.cons ok49 (.cons ok50 (.cons ok51 (.cons ok52 (.cons ok53 (.cons ok54 (.cons ok55 (.cons ok56 (.cons ok57 (.cons ok58 (.cons ok59 (.cons ok60 (.cons ok61 (.cons ok62 (.cons ok63 (.cons ok65 (.cons ok66 (.cons ok67 (.cons ok68 (.cons ok69 (.cons ok70 (.cons ok71 (.cons ok72 (.cons ok73 (.cons ok74 (.cons ok75 (.cons ok76 (.cons ok77 (.cons ok78 .nil))))))))))))))))))))))))))))))))))))))))))))))))))))))))))))))))))
def loose : List Str := (["RangeError", "InvalidTable", "InvalidRight", "InvalidVector", "InvalidPlace", "InvalidNumber", "Singular", "is_number", "is_whole", "divisor", "lowest", "is_fraction", "is_short", "is_range", "is_row", "is_table", "need_table", "need_place", "count_corners", "rows_of"] : List Str) ++ (["corners_of", "as_member", "minor", "determinant_of", "signed", "with_values", "ends_of", "determinant_range", "corner_with", "least_corner", "greatest_corner", "put", "member_at", "member_with", "are_invertible", "all_invertible", "need_invertible", "inverse_values", "is_less", "best_pair"] : List Str) ++ (["need_inverse", "inverse_range", "need_right", "need_vector", "unknown", "best_side", "extremes", "need_system", "solution_range", "solution_corner", "sum_of", "end_of", "meets", "need_all", "excluding", "first_excluding", "between", "row_for", "solved_by", "_law_cell"] : List Str) ++ (["_law_drawn", "_law_roll", "_law_rounds", "_law_divisor", "_law_lowest", "_law_plus", "_law_by", "_law_det", "_law_replaced", "_law_unit", "_law_as_member", "_law_rest"] : List Str)
abbrev Rw : PySem.W.OpenRow := PySem.W.OpenLaw.row PySem.Challenge.rw_rangetables_k20_whole_single
def kidsA (o : Obj) : List Addr := match o.data with
  | .func fd => He.refV fd.code
  | .cls cd => [cd.ns]
  | .dict es _ => es.toList.flatMap fun e => He.refV e.val
  | _ => []
def stepA (g : Addr → Option Obj) (as : List Addr) : List Addr := as.flatMap fun a => match g a with
  | some o => kidsA o
  | none => []
def asA (g : Addr → Option Obj) : List Addr := mainGlobals :: (stepA g [mainGlobals] ++ (stepA g (stepA g [mainGlobals]) ++ (stepA g (stepA g (stepA g [mainGlobals])) ++ stepA g (stepA g (stepA g (stepA g [mainGlobals]))))))
def obsAD (fa : List He.Fa) (fn : List He.DefD) (g : Addr → Option Obj) : He.AlD := He.obsD fa fn (He.frG g (asA g))
def hookAD (fa : List He.Fa) (fn : List He.DefD) : PySem.W.Hook where
  α := He.AlD
  obs := fun s => obsAD fa fn s.heap.get?
  val := (He.hookD 4 fa fn).val
  says := (He.hookD 4 fa fn).says
  of := fun w s e => ⟨He.frG s.heap.get? (asA s.heap.get?), He.frG_in, e⟩
  keeps := (He.hookD 4 fa fn).keeps
theorem obsAD_eq {fa : List He.Fa} {fn : List He.DefD} {g : Addr → Option Obj} {s : Shared} (h : ∀ a, g a = s.heap.get? a) : obsAD fa fn g = (hookAD fa fn).obs s := by
  obtain rfl : g = s.heap.get? := funext h
  rfl
abbrev hk : PySem.W.Hook := hookAD (faOf ents cs) (fnsOf ents)
def ob (s : PySem.W.SharedT) : He.AlD := obsAD (faOf ents cs) (fnsOf ents) (HandSHeadRun.getT s)
theorem ob_eq (s : PySem.W.SharedT) : ob s = hk.obs s.abs := obsAD_eq (HandSHeadRun.getT_eq s)
theorem runs (w : World) : HandSHeadRun.RunEq Rw (PySem.W.view Rw.prog [78]) hk ob 6000 loose w := by
  intro os
  kernel_rfl
def lawW : Nat := 2 ^ 200
theorem lawW_big : Big lawW := by unfold Big lawW; decide
theorem law_run (ns : List Int) (h : ns.length ≤ 63) : ∃ st, run Pd lawW 12 151 [.lst (ns.map D.int)] [] = .ok (.bl true) st := k20_run lawW_big ns h
end Rt
open PySem PySem.W PySem.Calls PyProof.Rows
theorem PySem.Challenge.cw_rangetables_k20_whole_single_holds : PySem.Challenge.rw_rangetables_k20_whole_single.Holds := by
  w_on; o_law
  refine HandSHeadRun.head_any (r := (OpenLaw.row PySem.Challenge.rw_rangetables_k20_whole_single)) (q := view (OpenLaw.row PySem.Challenge.rw_rangetables_k20_whole_single).prog [78]) (H := Rt.hk) (ob := Rt.ob) (M := 6000)
    (loose := Rt.loose) (d := HandSHeadRun.topDef (OpenLaw.row PySem.Challenge.rw_rangetables_k20_whole_single).prog 78) (kwd := []) Rt.ob_eq
    (by kernel_rfl) (fun s => by kernel_rfl) Rt.runs (by kernel_rfl)
    (by kernel_rfl) (by kernel_rfl) (by rfl) (by first | assumption | decide +kernel)
    (by decide +kernel) ⟨rfl, rfl, rfl, rfl, rfl, by decide +kernel⟩ ?hw ?hc
  case hw => w_witness2
  case hc =>
    exact Rt.law_of (W := Rt.lawW) (m := 63) (n := 12) (e := ⟨151, "law", ["script"], ["script", "dice", "many", "rows", "table", "size", "side", "right", "vector", "i", "row", "one", "low", "high", "found", "entry", "own", "place", "j"], Rt.c_law_151, Rt.topS 78⟩) rfl (by decide) (by kernel_rfl)
      ⟨rfl, by decide, by decide⟩ (by kernel_rfl) (List.mem_iff_getElem?.mpr ⟨65, rfl⟩) rfl Rt.ck Rt.allok Rt.law_run
